import PyProof.Rows.All
import Wide.All
import OpenK.AllK
import Wide.FinOn
import Lean
import PySem.Challenge.RW_nu0231_01
set_option Elab.async false
set_option maxRecDepth 100000
set_option linter.all false
set_option genSizeOf false
set_option genInjectivity false
set_option compiler.extract_closed false
set_option backward.match.sparseCases false
namespace Mine.Internal
open List (length_cons getElem?_append_left prefix_refl mem_singleton mem_cons not_mem_nil prefix_append getElem?_set_ne mem_singleton_self mem_append mem_filterMap mem_flatMap mem_map size_toArray any_eq_true all_eq_true any_cons length_take length_drop take_length mem_of_mem_take length_map length_append length_nil lookup_cons map_cons nodup_cons getElem?_take append_nil mem_map_of_mem all_cons count_cons any_eq_false all_nil flatMap_cons filter_cons isEmpty_iff sum_cons length_set take_of_length_le length_tail map_append map_nil map_map filter_eq_self length_singleton map_id nil_append cons_ne_nil append_assoc take_set_of_le drop_left take_left cons_append map_take prefix_nil take_prefix nodup_append count_append mem_append_right flatMap_append take_left' all_append mem_append_left idxOf_cons map_drop)
open Nat (not_lt le_trans le_of_lt le_refl min_le_right zero_le sub_le le_succ ne_of_gt le_of_eq lt_succ_self ne_of_lt succ_pos le_add_right lt_irrefl lt_of_lt_of_le min_eq_left lt_of_succ_lt_succ zero_add not_lt_zero add_le_add_left add_assoc le_total succ_le_succ max_le add_comm add_le_add_right add_right_comm zero_mul)
open Bool (and_eq_true_iff and_eq_true false_eq_true or_eq_true_iff not_eq_true' not_eq_false')
open PySem.Heap (lt_size get?_push_of_some get?_push_size size_push get?_update_other get?_update_self)
open PySem.PyData (depthAll keyHash)
open Option (bind_some map_eq_some_iff bind_eq_some_iff or_none some_get)
open Int (le_refl toNat_natCast ofNat_lt le_of_lt)
theorem bl{a b:Nat}(h:Nat.ble a b=true):a≤b:=Nat.le_of_ble_eq_true h
set_option bootstrap.genMatcherCode false
set_option tactic.hygienic false
set_option hygiene false
noncomputable section
section
open PySem PySem.W PyProof.Rows
noncomputable abbrev A2:Program:=Challenge.rw_nu0231_01.row.prog
def qv:Program:={A2 with main:={A2.main with body:=((A2.main.body.eraseIdx 40).eraseIdx 4).eraseIdx 1}}
noncomputable abbrev TM:Code→Sem Fin:=Fast.tw11892475500146522536 Fast.tw14364793385576792824
theorem Qg:denote treeTable=TM:=by rw[Fast.te11892475500146522536,Fast.te14364793385576792824]
def Qh(p:Program)(w:World)(vR:Nat)(ann:Option Value)(n:Nat):SharedT→Thread→Option SharedT:=
 Nat.rec (fun U V=>none) (fun n r s t=>Bool.rec (Bool.rec none (Option.rec none (fun x=>Prod.rec (fun s t=>r s t) x) (Fast.tw10156331382660048174 TM p w s t)) (Fast.tw6613529449190102663 vR ann t)) (some s) (through t)) n
theorem Qi{p:Program}{w:World}{vR n:Nat}{ann:Option Value}{s s' r:Shared}{t t':Thread}(h1:through t=false)(h2:stepOk vR ann t=true)(h3:step (denote treeTable) p w s t= .go s' t')(h:topRun treeTable p w vR ann n s' t'=some r):topRun treeTable p w vR ann (n+1) s t=some r:=by unfold topRun;rw[h1,h2,h3];exact h
theorem Mw{p:Program}{w:World}{vR n:Nat}{ann:Option Value}{s:Shared}{t:Thread}(h1:through t=true):topRun treeTable p w vR ann (n+1) s t=some s:=by unfold topRun;rw[h1]
theorem Km{p:Program}{w:World}{vR:Nat}{ann:Option Value}(n:Nat):∀(s s':SharedT) (t:Thread),Qh p w vR ann n s t=some s'→topRun treeTable p w vR ann n s.abs t=some s'.abs:=by
 induction n with
 |zero=>intro s s' t h;have h:none=some s':=h;contradiction
 |succ n ih=>
  intro s s' t h;have h:Bool.rec (motive:=fun _=>Option SharedT) (Bool.rec (motive:=fun _=>Option SharedT) none (Option.rec (motive:=fun _=>Option SharedT) none (fun x=>Prod.rec (motive:=fun _=>Option SharedT) (fun s t=>Qh p w vR ann n s t) x) (Fast.tw10156331382660048174 TM p w s t)) (Fast.tw6613529449190102663 vR ann t)) (some s) (through t)=some s':=h;rw[←Fast.te6613529449190102663,←Qg,←Fast.te10156331382660048174]at h;generalize h1:through t=b at h;induction b with
  |true=>rw[Mw h1];exact congrArg (Option.map SharedT.abs) h
  |false=>
   generalize h2:stepOk vR ann t=c at h;induction c with
   |false=>contradiction
   |true=>
    generalize h3:stepT (denote treeTable) p w s t=d at h;induction d with
    |none=>contradiction
    |some r=>exact Qi h1 h2 (stepT_spec h3) (ih _ _ _ h)
noncomputable def bt(l:List Obj):BT:=(l.foldl (fun (x:BT×Nat) o=>(x.1.ins x.2 o,x.2+1)) (.nil,0)).1
def S0(w:World)(os:OsState):SharedT:=⟨bt (boot_heap w.params).objs.toList,(boot_heap w.params).objs.size,(boot_heap w.params).life,Array.mk [],boot_drawn,boot_toks,os⟩
theorem TN(w:World)(os:OsState):(S0 w os).abs=⟨boot_heap w.params,Array.mk [],boot_drawn,boot_toks,os⟩:=by kernel_rfl
theorem got{α β:Type}{x:Option α}{f:α→β}{r:α}{a:β}(h:x.map f=some a)(e:x=some r):f r=a:=by subst e;exact Option.some.inj h
noncomputable def fL{α β:Type}(x:α×β):α:=Prod.rec (fun a U=>a) x
noncomputable def sL{α β:Type}(x:α×β):β:=Prod.rec (fun U b=>b) x
noncomputable def fR{α β:Type}(x:α×β):α:=Prod.casesOn x fun a U=>a
noncomputable def sR{α β:Type}(x:α×β):β:=Prod.casesOn x fun U b=>b
theorem yH{α β:Type}{x y:α×β}(h:fL x=fR y)(k:sL x=sR y):x=y:=Prod.ext h k
noncomputable abbrev Qj(p:Program)(w:World)(h:Heap)(s:Shared):Bool:=staticsOk (importedModules p.main.body) h s.heap&&namesBound p s.heap&&gensDone s&&laidKept h s.heap
theorem Mx{p:Program}{w:World}{M:Nat}{s r:Shared}(h1:(s.heap.isNs mainGlobals&&s.gens.size ==0)=true)(h:topRun treeTable p w s.heap.objs.size (s.heap.nsMap mainGlobals "__annotations__") M s (topStub p)=some r)(h2:Qj p w s.heap r=true):topFrom treeTable p w M s=some r:=by
 unfold topFrom;rw[h1,h];have h2:(staticsOk (importedModules p.main.body) s.heap r.heap&&namesBound p r.heap&&gensDone r&&laidKept s.heap r.heap)=true:=h2;dsimp only[bind_some];rw[h2]
theorem My{p q:Program}{loose:List Str}{Xt:Shared→Bool}{α:Type}{Yf:Shared→α}{Ya:World→α}{M:Nat}{R:World→OsState→Option SharedT}
  (b:∀w:World,(fencedOpening treeTable p w (M+M)).map (fun s=>(s.heap,s.gens,s.drawn,s.toks))=some (boot_heap w.params,Array.mk [],boot_drawn,boot_toks))
  (h1:∀w:World,((boot_heap w.params).isNs mainGlobals&&(Array.mk ([]:List GenState)).size ==0)=true)
  (hR:∀w os r,R w os=some r→topRun treeTable p w (boot_heap w.params).objs.size ((boot_heap w.params).nsMap mainGlobals "__annotations__") M ⟨boot_heap w.params,Array.mk [],boot_drawn,boot_toks,os⟩ (topStub p)=some r.abs)
  (h2:∀w os r,R w os=some r→Qj p w (boot_heap w.params) r.abs=true)
  (h4:∀w os r,R w os=some r→openSeen q loose (importedModules p.main.body) Xt true r.abs=openGood q loose)
  (h3:∀w os,(R w os).map (fun s=>Yf s.abs)=some (Ya w)):LeftO p q loose Xt Yf Ya (M+M):=fun w=>by
 obtain⟨s,e,e'⟩:=map_eq_some_iff.mp (b w);have e:openEnds treeTable p w (M+M)=(topFrom treeTable p w (M+M)) s:=congrArg (fun x=>Option.bind x _) e;have q:s=⟨boot_heap w.params,Array.mk [],boot_drawn,boot_toks,s.os⟩:=congrArg (fun x=>(⟨x.1,x.2.1,x.2.2.1,x.2.2.2,s.os⟩:Shared)) e';generalize s.os=os at q;obtain⟨r,e1,l3⟩:=map_eq_some_iff.mp (h3 w os);have t:=topRun_mono M _ _ _ _ (hR w os r e1);have t:topFrom treeTable p w (M+M) ⟨boot_heap w.params,Array.mk [],boot_drawn,boot_toks,os⟩=some r.abs:=Mx (h1 w) t (h2 w os r e1);rw[e,q,t];exact congrArg some (Prod.ext (h4 w os r e1) l3)
theorem fence(s:Shared):fenceModules? A2 s=some s:=Eq.refl (some s)
theorem Qk:opening A2=plainProg A2.main.scope.names:=Eq.refl (opening A2)
def Xs(s:Shared):Bool:=xlAt qv [] s&&recOk (RowW.records Challenge.rw_nu0231_01.row.toRowW) s
noncomputable def loose:List Str:=["ShapeError","_law_glyphs"]
def Hu(w:World)(os:OsState):Option SharedT:=Qh A2 w (boot_heap w.params).objs.size ((boot_heap w.params).nsMap mainGlobals "__annotations__") 3900 (S0 w os) (topStub A2)
theorem Kn{p:Program}(w:World)(os:OsState)(r:SharedT)(h:Qh p w (boot_heap w.params).objs.size ((boot_heap w.params).nsMap mainGlobals "__annotations__") 3900 (S0 w os) (topStub p)=some r):
  topRun treeTable p w (boot_heap w.params).objs.size ((boot_heap w.params).nsMap mainGlobals "__annotations__") 3900 ⟨boot_heap w.params,Array.mk [],boot_drawn,boot_toks,os⟩ (topStub p)=some r.abs:=by
 rw[←TN];exact Km _ _ _ _ h
theorem Ql:Fast.tw17960256430627541270 (Fast.tw2368527892694137696 Challenge.rw_nu0231_01)=true:=by kernel_rfl
theorem TP:Fast.tw9446332074065402090 Challenge.rw_nu0231_01=true:=by
 iterate 18 (refine look_both ?_ (by kernel_rfl))
 exact Ql
theorem Mz:OpenLaw.wellSaid Challenge.rw_nu0231_01=true:=by rw[Fast.te9446332074065402090];exact TP
abbrev EP(s:Shared):=Fast.tw4187177175401517315 qv loose (importedModules A2.main.body) Xs true s
theorem MA:∀w os,(Hu w os).map (fun s=>(Qj A2 w (boot_heap w.params) s.abs,fL (EP s.abs)))=some (true,fR (openGood qv loose)):=fun w os=>by kernel_rfl
theorem TQ:∀w os,(Hu w os).map (fun s=>(fL (sL (EP s.abs)),fL (sL (sL (EP s.abs))),fL (sL (sL (sL (EP s.abs))))))=some (fR (sR (openGood qv loose)),fR (sR (sR (openGood qv loose))),fR (sR (sR (sR (openGood qv loose))))):=fun w os=>by kernel_rfl
theorem TR:∀w os,(Hu w os).map (fun s=>sL (sL (sL (sL (EP s.abs)))))=some (sR (sR (sR (sR (openGood qv loose))))):=fun w os=>by kernel_rfl
theorem Ko:∀w os r,Hu w os=some r→openSeen qv loose (importedModules A2.main.body) Xs true r.abs=openGood qv loose:=fun w os r e=>by
 rw[Fast.te4187177175401517315];have h1:=got (MA w os) e;have h2:=got (TQ w os) e;have h3:=got (TR w os) e
 generalize openGood qv loose=g at h1 h2 h3 ⊢;exact yH (congrArg Prod.snd h1) (yH (congrArg Prod.fst h2) (yH (congrArg (fun x=>x.2.1) h2) (yH (congrArg (fun x=>x.2.2) h2) h3)))
theorem MB:∀w os r,Hu w os=some r→Qj A2 w (boot_heap w.params) r.abs=true:=fun w os r e=>congrArg Prod.fst (got (MA w os) e)
set_option maxHeartbeats 80000000
theorem ZR:(defOf qv Challenge.rw_nu0231_01.row.name).isSome=true:=by kernel_rfl
def dR:DefRec:=((defOf qv Challenge.rw_nu0231_01.row.name).get ZR).1
theorem ol(h:Challenge.rw_nu0231_01.row.Holds):Challenge.rw_nu0231_01.Holds:=holds_law Mz fun U=>h
noncomputable def oh(H:Hook)(h:∀w os,(Hu w os).map (fun s=>H.obs s.abs)=some (H.val w):=by intro w os;kernel_rfl):=holds_open (r:=Challenge.rw_nu0231_01.row) (q:=qv) (loose:=loose) (Xt:=Xs) (XP:=XL qv []) (Yf:=H.obs) (Ya:=H.val) (YP:=H.says) (d:=dR) (kwd:=[]) (N:=3900+3900)
  (My (R:=Hu) (boot_open Qk (by decide) fence) (fun w=>by kernel_rfl) Kn MB Ko h) H.of H.keeps (fun s e=>xl_of s (and_eq_true_iff.mp e).1) XL.keeps (by kernel_rfl) (by kernel_rfl) (by kernel_rfl) (fun s e=>recFacts_of (and_eq_true_iff.mp e).2) (by rfl) (row_said Mz) (by decide+kernel) ⟨rfl,rfl,rfl,rfl,rfl,by decide+kernel⟩
local macro_rules |`(tactic|o_law)=>`(tactic|apply ol)|`(tactic|o_head $H)=>`(tactic|apply oh $H)
open_top hd for PySem.Challenge.rw_nu0231_01
end
section
open PySem PySem.W PySem.Calls PyProof.Rows
@[elab_as_elim] theorem ER {α:Sort u} {a b:α} {p:α→Prop} (h:a=b) (k:p b):p a:=Eq.rec (motive:=fun x _=>p x) k h.symm
@[elab_as_elim] theorem EL {α:Sort u} {a b:α} {p:α→Prop} (h:b=a) (k:p b):p a:=Eq.rec (motive:=fun x _=>p x) k h
@[elab_as_elim] theorem iT {c:Prop} [d:Decidable c] {α:Sort u} {a b:α} {p:α→Prop} (h:c→p a) (k:¬c→p b):p (ite c a b):=match d with
 | .isTrue y=>h y
 | .isFalse n=>k n
theorem Qm{α:Type u}{x:α}{P:Prop}(h:none=some x):P:=Option.some_ne_none x h.symm |>.elim
theorem hide{P:Prop}(h:∀G:Prop,(P→G)→G):P:=h P id
section
set_option tactic.hygienic false
variable {m:Expr→Sort u}(e:Expr)
@[elab_as_elim] noncomputable def CE (f:∀a b c,m (.Constant a b c)) (g:∀e,m e):m e:=by apply @Expr.casesOn m e<;>intros<;>first|exact f _ _ _|exact g _
@[elab_as_elim] noncomputable def ja (f:∀a b,m (.Name a b)) (g:∀e,m e):m e:=by apply @Expr.casesOn m e<;>intros<;>first|exact f _ _|exact g _
@[elab_as_elim] noncomputable def VZ (f:∀a b c d,m (.BinOp a b c d)) (g:∀e,m e):m e:=by apply @Expr.casesOn m e<;>intros<;>first|exact f _ _ _ _|exact g _
@[elab_as_elim] noncomputable def SJ (f:∀a b c d,m (.Compare a b c d)) (g:∀e,m e):m e:=by apply @Expr.casesOn m e<;>intros<;>first|exact f _ _ _ _|exact g _
@[elab_as_elim] noncomputable def Yh (f:∀a b c d,m (.IfExp a b c d)) (g:∀e,m e):m e:=by apply @Expr.casesOn m e<;>intros<;>first|exact f _ _ _ _|exact g _
@[elab_as_elim] noncomputable def MC (f:∀a b c,m (.BoolOp a b c)) (g:∀e,m e):m e:=by apply @Expr.casesOn m e<;>intros<;>first|exact f _ _ _|exact g _
@[elab_as_elim] noncomputable def V0 (f:∀a b c,m (.UnaryOp a b c)) (g:∀e,m e):m e:=by apply @Expr.casesOn m e<;>intros<;>first|exact f _ _ _|exact g _
@[elab_as_elim] noncomputable def yQ (f:∀a b c,m (.Attribute a b c)) (g:∀e,m e):m e:=by apply @Expr.casesOn m e<;>intros<;>first|exact f _ _ _|exact g _
@[elab_as_elim] noncomputable def MD (f:∀a b c,m (.Tuple a b c)) (g:∀e,m e):m e:=by apply @Expr.casesOn m e<;>intros<;>first|exact f _ _ _|exact g _
@[elab_as_elim] noncomputable def Hv (f:∀a b,m (.List a b)) (g:∀e,m e):m e:=by apply @Expr.casesOn m e<;>intros<;>first|exact f _ _|exact g _
@[elab_as_elim] noncomputable def MF (f:∀a b c,m (.Subscript a b c)) (g:∀e,m e):m e:=by apply @Expr.casesOn m e<;>intros<;>first|exact f _ _ _|exact g _
@[elab_as_elim] noncomputable def CF (f:∀a b c d,m (.Call a b c d)) (g:∀e,m e):m e:=by apply @Expr.casesOn m e<;>intros<;>first|exact f _ _ _ _|exact g _
@[elab_as_elim] noncomputable def MG (f:∀a b c d,m (.ListComp a b c d)) (g:∀e,m e):m e:=by apply @Expr.casesOn m e<;>intros<;>first|exact f _ _ _ _|exact g _
@[elab_as_elim] noncomputable def TS (f:∀a b c,m (.Dict a b c)) (g:∀e,m e):m e:=by apply @Expr.casesOn m e<;>intros<;>first|exact f _ _ _|exact g _
@[elab_as_elim] noncomputable def I8 (f:∀a b c d,m (.Slice a b c d)) (g:∀e,m e):m e:=by apply @Expr.casesOn m e<;>intros<;>first|exact f _ _ _ _|exact g _
@[elab_as_elim] noncomputable def Yi (f:∀a b,m (.Starred a b)) (g:∀e,m e):m e:=by apply @Expr.casesOn m e<;>intros<;>first|exact f _ _|exact g _
@[elab_as_elim] noncomputable def onSet (f:∀a b c,m (.Set a b c)) (g:∀e,m e):m e:=by apply @Expr.casesOn m e<;>intros<;>first|exact f _ _ _|exact g _
end
abbrev Fz:=Addr→Option Obj
inductive P where
 |none
 |bool (b:Bool)
 |int (i:Int)
 |str (s:Str)
 |tup (l:List P)
 |list (l:List P)
 |inst (c:Nat) (fs:List (Nat×P))
inductive V where
 |p (x:P)
 |ref (n:Nat)
abbrev AA:=List (Addr×Addr)
inductive MO where
 |list (l:List P)
 |inst (c:Nat) (fs:List (Nat×V))
 |exc (x:P)
 |gone
abbrev LM:=List MO
abbrev Lp:=List P
abbrev Lv:=List Value
abbrev Ls:=List Str
abbrev Ln:=List Nat
noncomputable def MH:List String:=["what","at","lookups","features","name","flag","rows","kind","parts","tag","script","language","words","names",
 "told","lookup_named","is_position","word","left","fault","take","skip","need","glyph","number",
 "self","one","row","text","signs","end","here","sign","found","low","high","reader","glyphs","items","is_over","where","uses","marked","spot","actions","item","back","right","lap","begun","reader_at","tree","error",
 "pen","many","digit","cell","great","churned","least_count","most","glyph_","inside","ahead","first","rest","used","is_long","worth","longs","index","lookup","feature","wanted","more","blocks","due","known","is_used","count","part","is_open","other","bads","bad","whole","way"]
def ids:Ls:=MH.map Str.ofString
def ident(i:Nat):Str:=ids.getD i "?"
def idOf(x:Str):Nat:=ids.idxOf x
noncomputable def CH:List (Nat×List String):=[(91,["lookups","features"]),(131,["name","flag","rows"]),(173,["kind","parts"]),(201,["tag","script","language","lookups"]),(320,["words","names","at"])]
def Hp(c i:Nat):Bool:=CH.any fun p=>p.1 ==c&&(p.2.map fun x=>MH.idxOf x).contains i
theorem gu{x:Str}(h:idOf x<ids.length):ident (idOf x)=x:=by
 unfold ident idOf at *;rw[List.getD_eq_getElem?_getD,List.getElem?_eq_getElem h,Option.getD_some];exact List.getElem_idxOf h
theorem idOf_inj{x y:Str}(h:idOf x<ids.length)(e:idOf x=idOf y):x=y:=by rw[←gu h,e,gu (e▸h)]
mutual
inductive Is (B:Fz):Value→P→Prop
 |none:Is B .none .none
 |bool (b:Bool):Is B (.bool b) (.bool b)
 |int (i:Int) (t:Tok):Is B (.int i t) (.int i)
 |str (x:Str) (t:Tok) (h:PyData.strOk x=true):Is B (.str x t) (.str x)
 |tup {a:Addr} {vs:Lv} {n:Nat} {l:Lp}:B a=some ⟨.type "tuple",none,.seq vs.toArray n,#[]⟩→aG B vs l→Is B (.ref a) (.tup l)
 |list {a:Addr} {vs:Lv} {n:Nat} {l:Lp}:B a=some ⟨.type "list",none,.seq vs.toArray n,#[]⟩→aG B vs l→Is B (.ref a) (.list l)
 |inst {a dx c:Addr} {es:List DictEntry} {n:Nat} {fs:List (Nat×P)}:B a=some (instObj c dx)→B dx=some (dictOf es n)→oR B c es fs→Is B (.ref a) (.inst c fs)
inductive aG (B:Fz):Lv→Lp→Prop
 |nil:aG B [] []
 |cons {v:Value} {vs:Lv} {x:P} {l:Lp}:Is B v x→aG B vs l→aG B (v::vs) (x::l)
inductive oR (B:Fz):Nat→List DictEntry→List (Nat×P)→Prop
 |nil {c:Nat}:oR B c [] []
 |cons {c:Nat} {h:Int} {t:Tok} {i:Nat} {v:Value} {x:P} {es:List DictEntry} {fs:List (Nat×P)}:Hp c i=true→Is B v x→oR B c es fs→oR B c (⟨h,.str (ident i) t,v⟩::es) ((i,x)::fs)
end
section
variable {B B':Fz}(k:∀b o,B b=some o→B' b=some o)
include k
theorem Is.mono{v:Value}{x:P}(h:Is B v x):Is B' v x:=@Is.rec B (fun v x U=>Is B' v x) (fun vs l U=>aG B' vs l) (fun c es fs U=>oR B' c es fs) .none .bool .int .str (fun h U ih=>.tup (k _ _ h) ih) (fun h U ih=>.list (k _ _ h) ih) (fun h1 h2 U ih=>.inst (k _ _ h1) (k _ _ h2) ih) .nil (fun U U a b=>.cons a b) .nil (fun i U U a b=>.cons i a b) v x h
theorem aG.mono{vs:Lv}{l:Lp}(h:aG B vs l):aG B' vs l:=@aG.rec B (fun v x U=>Is B' v x) (fun vs l U=>aG B' vs l) (fun c es fs U=>oR B' c es fs) .none .bool .int .str (fun h U ih=>.tup (k _ _ h) ih) (fun h U ih=>.list (k _ _ h) ih) (fun h1 h2 U ih=>.inst (k _ _ h1) (k _ _ h2) ih) .nil (fun U U a b=>.cons a b) .nil (fun i U U a b=>.cons i a b) vs l h
theorem oR.mono{c:Nat}{es:List DictEntry}{fs:List (Nat×P)}(h:oR B c es fs):oR B' c es fs:=@oR.rec B (fun v x U=>Is B' v x) (fun vs l U=>aG B' vs l) (fun c es fs U=>oR B' c es fs) .none .bool .int .str (fun h U ih=>.tup (k _ _ h) ih) (fun h U ih=>.list (k _ _ h) ih) (fun h1 h2 U ih=>.inst (k _ _ h1) (k _ _ h2) ih) .nil (fun U U a b=>.cons a b) .nil (fun i U U a b=>.cons i a b) c es fs h
end
section
variable {B:Fz}{v:Value}{x:P}{vs ws:Lv}{l m:Lp}
theorem aG.length(h:aG B vs l):vs.length=l.length:=by
 induction vs generalizing l with
 |nil=>cases h;rfl
 |cons v vs ih=>cases h with|cons _ r=>rw[length_cons,length_cons,ih r]
theorem aG.append(h:aG B vs l)(k:aG B ws m):aG B (vs++ws) (l++m):=by
 induction vs generalizing l with
 |nil=>cases h;exact k
 |cons v vs ih=>cases h with|cons h r=>exact .cons h (ih r)
theorem aG.get(h:aG B vs l){k:Nat}{x:P}(hk:l[k]?=some x):∃v,vs[k]?=some v∧Is B v x:=by
 induction vs generalizing l k with
 |nil=>cases h;cases hk
 |cons v vs ih=>
  cases h with
  |cons h r=>
   induction k with
   |zero=>cases hk;exact⟨v,rfl,h⟩
   |succ k=>exact ih r hk
theorem aG.drop(h:aG B vs l)(k:Nat):aG B (vs.drop k) (l.drop k):=by
 induction k generalizing vs l with
 |zero=>exact h
 |succ k ih=>cases h with
  |nil=>exact .nil
  |cons _ r=>exact ih r
theorem aG.take(h:aG B vs l)(k:Nat):aG B (vs.take k) (l.take k):=by
 induction k generalizing vs l with
 |zero=>exact .nil
 |succ k ih=>cases h with
  |nil=>exact .nil
  |cons h r=>exact .cons h (ih r)
theorem aG.set(h:aG B vs l)(k:Nat)(hv:Is B v x):aG B (vs.set k v) (l.set k x):=by
 induction k generalizing vs l with
 |zero=>cases h with
  |nil=>exact .nil
  |cons _ r=>exact .cons hv r
 |succ k ih=>cases h with
  |nil=>exact .nil
  |cons h r=>exact .cons h (ih r)
end
def SK(B:Fz)(v:Value):P→Prop
 | .none=>∀G:Value→Prop,G .none→G v
 | .bool b=>∀G:Value→Prop,G (.bool b)→G v
 | .int i=>∀G:Value→Prop,(∀t,G (.int i t))→G v
 | .str x=>∀G:Value→Prop,(∀t,PyData.strOk x=true→G (.str x t))→G v
 | .tup l=>∀G:Value→Prop,(∀a vs n,B a=some ⟨.type "tuple",none,.seq vs.toArray n,#[]⟩→aG B vs l→G (.ref a))→G v
 | .list l=>∀G:Value→Prop,(∀a vs n,B a=some ⟨.type "list",none,.seq vs.toArray n,#[]⟩→aG B vs l→G (.ref a))→G v
 | .inst c fs=>∀G:Value→Prop,(∀a dx es n,B a=some (instObj c dx)→B dx=some (dictOf es n)→oR B c es fs→G (.ref a))→G v
section
variable {B:Fz}{v:Value}{x:P}{vs:Lv}{l:Lp}
theorem Is.inv(h:Is B v x):SK B v x:=@Is.casesOn B (fun v x U=>SK B v x) v x h (fun G k=>k) (fun b G k=>k) (fun i t G k=>k t) (fun x t h G k=>k t h) (fun p q G k=>k _ _ _ p q) (fun p q G k=>k _ _ _ p q) (fun p q r G k=>k _ _ _ _ p q r)
@[elab_as_elim] theorem Is.MI {G:Value→Prop} (h:Is B v P.none) (k:G .none):G v:=h.inv G k
@[elab_as_elim] theorem Is.I9 {b:Bool} {G:Value→Prop} (h:Is B v (.bool b)) (k:G (.bool b)):G v:=h.inv G k
@[elab_as_elim] theorem Is.CI {i:Int} {G:Value→Prop} (h:Is B v (.int i)) (k:∀t,G (.int i t)):G v:=h.inv G k
@[elab_as_elim] theorem Is.uA {x:Str} {G:Value→Prop} (h:Is B v (.str x)) (k:∀t,PyData.strOk x=true→G (.str x t)):G v:=h.inv G k
@[elab_as_elim] theorem Is.A4 {G:Value→Prop} (h:Is B v (.tup l)) (k:∀a vs n,B a=some ⟨.type "tuple",Option.none,.seq vs.toArray n,#[]⟩→aG B vs l→G (.ref a)):G v:=h.inv G k
@[elab_as_elim] theorem Is.listE {G:Value→Prop} (h:Is B v (.list l)) (k:∀a vs n,B a=some ⟨.type "list",Option.none,.seq vs.toArray n,#[]⟩→aG B vs l→G (.ref a)):G v:=h.inv G k
@[elab_as_elim] theorem Is.ZC {c:Nat} {fs:List (Nat×P)} {G:Value→Prop} (h:Is B v (.inst c fs)) (k:∀a dx es n,B a=some (instObj c dx)→B dx=some (dictOf es n)→oR B c es fs→G (.ref a)):G v:=h.inv G k
def MJ(B:Fz)(vs:Lv):Lp→Prop
 |[]=>∀G:Lv→Prop,G []→G vs
 |x::l=>∀G:Lv→Prop,(∀v vs,Is B v x→aG B vs l→G (v::vs))→G vs
theorem aG.inv(h:aG B vs l):MJ B vs l:=@aG.casesOn B (fun vs l U=>MJ B vs l) vs l h (fun G k=>k) (fun p q G k=>k _ _ p q)
@[elab_as_elim] theorem aG.Yj {G:Lv→Prop} (h:aG B vs []) (k:G []):G vs:=h.inv G k
@[elab_as_elim] theorem aG.SM {G:Lv→Prop} (h:aG B vs (x::l)) (k:∀v vs,Is B v x→aG B vs l→G (v::vs)):G vs:=h.inv G k
end
mutual
noncomputable def flat:P→Bool
 | .inst _ _=>false
 | .tup l| .list l=>lA l
 |_=>true
noncomputable def lA:Lp→Bool
 |[]=>true
 |x::l=>flat x&&lA l
end
mutual
noncomputable def toPy:P→PyData
 | .none=>.none
 | .bool b=>.bool b
 | .int i=>.int i
 | .str s=>.str s
 | .tup l=>.tuple (dU l)
 | .list l=>.list (dU l)
 | .inst _ _=>.none
noncomputable def dU:Lp→List PyData
 |[]=>[]
 |x::l=>toPy x::dU l
end
def TU(h:Heap)(v:Value)(x:P):Prop:=flat x=true→(∃as,Reads h v (toPy x) as)∧(toPy x).canLay0=true
def MK(h:Heap)(vs:Lv)(l:Lp):Prop:=lA l=true→(∃as,ReadsAll h vs (dU l) as)∧PyData.canLayAll0 (dU l)=true
section
variable {B:Fz}{h:Heap}(k:∀b o,B b=some o→h.get? b=some o)
include k
theorem Is.reads{v:Value}{x:P}(r:Is B v x):TU h v x:=@Is.rec B (fun v x U=>TU h v x) (fun vs l U=>MK h vs l) (fun U U U U=>True) (fun U=>⟨⟨_,.none⟩,rfl⟩) (fun b U=>⟨⟨_,.bool b⟩,rfl⟩) (fun i t U=>⟨⟨_,.int i t⟩,rfl⟩) (fun x t h U=>⟨⟨_,.str x t⟩,h⟩)
 (fun h U ih f=>let ⟨⟨_,q⟩,c⟩:=ih f;⟨⟨_,.tuple (k _ _ h) rfl rfl q⟩,c⟩) (fun h U ih f=>let ⟨⟨_,q⟩,c⟩:=ih f;⟨⟨_,.list (k _ _ h) rfl rfl q⟩,c⟩) (fun U U U U f=>Bool.noConfusion f)
 (fun U=>⟨⟨_,.nil⟩,rfl⟩) (fun U U a b f=>let ⟨⟨_,q⟩,c⟩:=a (and_eq_true_iff.mp f).1;let ⟨⟨_,p⟩,d⟩:=b (and_eq_true_iff.mp f).2;⟨⟨_,.cons q p⟩,and_eq_true_iff.mpr ⟨c,d⟩⟩) trivial (fun U U U U U=>trivial) v x r
theorem aG.reads{vs:Lv}{l:Lp}(r:aG B vs l):MK h vs l:=@aG.rec B (fun v x U=>TU h v x) (fun vs l U=>MK h vs l) (fun U U U U=>True) (fun U=>⟨⟨_,.none⟩,rfl⟩) (fun b U=>⟨⟨_,.bool b⟩,rfl⟩) (fun i t U=>⟨⟨_,.int i t⟩,rfl⟩) (fun x t h U=>⟨⟨_,.str x t⟩,h⟩)
 (fun h U ih f=>let ⟨⟨_,q⟩,c⟩:=ih f;⟨⟨_,.tuple (k _ _ h) rfl rfl q⟩,c⟩) (fun h U ih f=>let ⟨⟨_,q⟩,c⟩:=ih f;⟨⟨_,.list (k _ _ h) rfl rfl q⟩,c⟩) (fun U U U U f=>Bool.noConfusion f)
 (fun U=>⟨⟨_,.nil⟩,rfl⟩) (fun U U a b f=>let ⟨⟨_,q⟩,c⟩:=a (and_eq_true_iff.mp f).1;let ⟨⟨_,p⟩,d⟩:=b (and_eq_true_iff.mp f).2;⟨⟨_,.cons q p⟩,and_eq_true_iff.mpr ⟨c,d⟩⟩) trivial (fun U U U U U=>trivial) vs l r
end
def dM(B:Fz)(φ:AA)(val:Value):V→Prop
 | .p x=>Is B val x
 | .ref n=>∃ad,φ[n]?=some ad∧val= .ref ad.1
theorem dM.mono{B B':Fz}{φ aP:AA}{val:Value}{v:V}(h:dM B φ val v)(k:∀b o,B b=some o→B' b=some o)(p:φ <+:aP):dM B' aP val v:=by
 induction v with
 |p x=>exact Is.mono k h
 |ref n=>
  obtain⟨ad,e,r⟩:=h;obtain⟨t,rfl⟩:=p;have hn:=(List.getElem?_eq_some_iff.mp e).1;exact⟨ad,by rw[getElem?_append_left hn];exact e,r⟩
inductive qL (B:Fz) (φ:AA) (c:Nat):List DictEntry→List (Nat×V)→Prop
 |nil:qL B φ c [] []
 |cons {h:Int} {t:Tok} {i:Nat} {v:Value} {x:V} {es:List DictEntry} {fs:List (Nat×V)}:Hp c i=true→dM B φ v x→qL B φ c es fs→qL B φ c (⟨h,.str (ident i) t,v⟩::es) ((i,x)::fs)
theorem qL.mono{B B':Fz}{φ aP:AA}(k:∀b o,B b=some o→B' b=some o)(p:φ <+:aP){es:List DictEntry}{fs:List (Nat×V)}{c:Nat}(h:qL B φ c es fs):qL B' aP c es fs:=by
 induction h with
 |nil=>exact .nil
 |cons i h _ ih=>exact .cons i (h.mono k p) ih
noncomputable def fY:Addr:=61
noncomputable def fh(ad:Addr×Addr):MO→List Addr
 | .list _=>[ad.1]
 | .inst _ _=>[ad.1,ad.2]
 | .exc _=>[ad.1,ad.2]
 | .gone=>[]
noncomputable def bL:Nat:=1048576
def r8(i:Nat):V→Prop
 | .p _=>True
 | .ref n=>n<i
inductive TV (B:Fz) (h:Heap) (ad:Addr×Addr) (l:Lp):Prop
 |mk (vs:Lv) (n:Nat) (e:h.get? ad.1=some ⟨.type "list",none,.seq vs.toArray n,#[]⟩) (r:aG B vs l)
inductive TX (B:Fz) (φ:AA) (h:Heap) (i:Nat) (ad:Addr×Addr) (c:Nat) (fs:List (Nat×V)):Prop
 |mk (e:h.get? ad.1=some (instObj c ad.2)) (n:ad.1≠ad.2) (o:∀f∈fs,r8 i f.2) (es:List DictEntry) (m:Nat) (d:h.get? ad.2=some (dictOf es m)) (r:qL B φ c es fs)
inductive TY (B:Fz) (h:Heap) (ad:Addr×Addr) (x:P):Prop
 |mk (n:ad.1≠ad.2) (o:∃vs,h.get? ad.1=some ⟨.ref fY,some ad.2,.fields vs,#[]⟩∧vs[1]?=some .none∧∃a0,vs[0]?=some a0) (es:List DictEntry) (m:Nat) (v:Value) (d:h.get? ad.2=some (dictOf es m)) (r:getL (Str.ofString "at") es=some (some v)∧Is B v x)
def ou(B:Fz)(φ:AA)(h:Heap)(i:Nat)(ad:Addr×Addr):MO→Prop
 | .list l=>TV B h ad l
 | .inst c fs=>TX B φ h i ad c fs
 | .exc x=>TY B h ad x
 | .gone=>True
structure Fx where
 prog:Program
 w:World
 K:Frag
 H0:Heap
 A:Around
 P:Fz
 n0:Nat
 k0:Nat
 s0:Shared
 outer:List Env
 envs:List Env
noncomputable def Fx.eS(X:Fx):List Addr:=X.outer.filterMap (·.frame)++X.envs.flatMap fun e=>e.locals::e.cells.map (·.2)
noncomputable def CJ(K:Frag)(c:Addr)(x:Str):Bool:=plainGet K c x&&hasDictIn K c&&(findIn K (.ref c) x ==some none)&&(findIn K (.ref c) "__setattr__" ==some (some (.builtin "object.__setattr__")))&&plainOver K c&&(takerIn K c x ==some none)
def Ja(p:Program):Prop:=(p.main.scope.names.lookup ("super" :Str)).isSome=false∧((p.main.file:Str) ==("/claim/cut.py" :Str))=true
structure Gl (X:Fx):Prop where
 K:X.K.In X.H0
 attr:∀c i,Hp c i=true→i<ids.length∧CJ X.K c (ident i)=true
 top:∃p loose mg mb,TopRead p loose mg mb X.H0
 A2:Ja X.prog
structure Rel (X:Fx) (B:Fz) (φ:AA) (σ:LM) (s:Shared):Prop where
 gl:Gl X
 same:∃h t,s={X.s0 with heap:=h,toks:=t}
 kH:∀b o,X.H0.get? b=some o→B b=some o
 kP:∀b o,X.P b=some o→s.heap.get? b=some o
 kB:∀b o,B b=some o→s.heap.get? b=some o
 len:φ.length=σ.length
 objs:∀(i:Nat) ad o,φ[i]?=some ad→σ[i]?=some o→ou B φ s.heap i ad o
 own:∀(i:Nat) ad o a,φ[i]?=some ad→σ[i]?=some o→a∈fh ad o→B a=none∧X.P a=none∧a∉X.eS
 inj:∀(i j:Nat) ad o ic o' a,φ[i]?=some ad→σ[i]?=some o→φ[j]?=some ic→σ[j]?=some o'→a∈fh ad o→a∈fh ic o'→i=j
 young:∀(i:Nat) ad,X.k0≤i→φ[i]?=some ad→X.n0≤ad.1∧X.n0≤ad.2
 cA:∀a∈X.eS,B a=none∧X.P a=none∧∃o,s.heap.get? a=some o
 pg:∀e∈X.outer,e.scope.kind≠ .module∧∃L m,e.frame=some L∧s.heap.Ns L m
 sz:X.n0∈X.eS
 k0:X.k0≤σ.length
structure Step (X:Fx) (B:Fz) (φ:AA) (h:Heap) (B':Fz) (aP:AA) (h':Heap):Prop where
 bB:∀b o,B b=some o→B' b=some o
 fresh:∀b o,B' b=some o→B b=none→X.n0≤b∧X.P b=none
 pre:φ <+:aP
 envs:∀e∈X.envs,(∀m,h.Ns e.locals m→h'.Ns e.locals m)∧∀x∈e.cells,∀v,h.IsCell x.2 v→h'.IsCell x.2 v
 outs:∀e∈X.outer,∀L m,e.frame=some L→h.Ns L m→h'.Ns L m
theorem Rel.xm{X:Fx}{B:Fz}{φ:AA}{σ:LM}{s:Shared}(R:Rel X B φ σ s):X.n0<s.heap.objs.size:=((R.cA _ R.sz).2.2).casesOn fun U e=>lt_size e
theorem Step.refl(X:Fx)(B:Fz)(φ:AA)(h:Heap):Step X B φ h B φ h:=
 ⟨fun U U e=>e,(fun U U e n=>by rw[n]at e;contradiction),prefix_refl _,fun U U=>⟨fun U e=>e,fun U U U e=>e⟩,fun U U U U U e=>e⟩
theorem Step.trans{X:Fx}{B B' ML:Fz}{φ aP MM:AA}{h h' CL:Heap}(a:Step X B φ h B' aP h')(b:Step X B' aP h' ML MM CL):Step X B φ h ML MM CL where
 bB:=fun x o e=>b.bB x o (a.bB x o e)
 fresh:=fun x o e n=>by
  generalize q:B' x=gg;induction gg with
  |none=>exact b.fresh x o e q
  |some o'=>exact a.fresh x o' q n
 pre:=a.pre.trans b.pre
 envs:=fun e he=>⟨fun m hm=>(b.envs e he).1 m ((a.envs e he).1 m hm),fun x hx v hv=>(b.envs e he).2 x hx v ((a.envs e he).2 x hx v hv)⟩
 outs:=fun e he L m hL hm=>b.outs e he L m hL (a.outs e he L m hL hm)
abbrev MQ(α:Type):=α→LM→Prop
abbrev ME:=P→LM→Prop
abbrev WP(α:Type):=MQ α→ME→Prop
abbrev M(α:Type):=LM→WP α
abbrev ai:=List (Nat×V)
noncomputable def bW{α:Type}:List (Nat×α)→Nat→Option α
 |[],_=>none
 |(i,v)::r,n=>if i=n then some v else bW r n
noncomputable def bx{α:Type}:List (Nat×α)→Nat→α→List (Nat×α)
 |[],n,v=>[(n,v)]
 |(i,w)::r,n,v=>if i=n then(n,v)::r else(i,w)::bx r n v
theorem qM{α:Type}(l:List (Nat×α))(n m:Nat)(v:α):bW (bx l n v) m=if n=m then some v else bW l m:=by
 induction l with
 |nil=>rfl
 |cons p r ih=>
  obtain⟨i,w⟩:=p;show bW (if i=n then(n,v)::r else(i,w)::bx r n v) m=if n=m then some v else if i=m then some w else bW r m
  by_cases h:i=n
  ·rw[if_pos h];show(if n=m then some v else bW r m)=_;by_cases h2:n=m
   ·rw[if_pos h2,if_pos h2]
   ·exact ER (if_neg h2) (ER (if_neg h2) (ER (if_neg (h▸h2)) rfl))
  ·rw[if_neg h];show(if i=m then some w else bW (bx r n v) m)=_;refine ER ih ?_;by_cases h2:i=m
   ·exact ER (if_pos h2) (ER (if_pos h2) (ER (if_neg (fun z=>h (h2.trans z.symm))) rfl))
   ·rw[if_neg h2,if_neg h2]
inductive Qn (B:Fz) (φ:AA) (en:Env) (h:Heap) (x:Str) (v:V):Prop
 |mk (k:en.kindOf x=some .local) (m:Str→Option Value) (val:Value) (a:h.Ns en.locals m) (b:m x=some val) (c:dM B φ val v)
inductive Qo (B:Fz) (φ:AA) (en:Env) (h:Heap) (x:Str) (v:V):Prop
 |mk (k:en.kindOf x=some .cell∨en.kindOf x=some .free) (c:Addr) (val:Value) (a:en.cells.lookup x=some c) (b:h.IsCell c (some val)) (d:dM B φ val v)
def Loc(B:Fz)(φ:AA)(en:Env)(le:ai)(h:Heap):Prop:=
 (∃m,h.Ns en.locals m)∧
 ∀x v,bW le (idOf x)=some v→idOf x<ids.length→Qn B φ en h x v∨Qo B φ en h x v
theorem Loc.step{X:Fx}{B B':Fz}{φ aP:AA}{h h':Heap}{en:Env}{le:ai}(x:Loc B φ en le h)(a:Step X B φ h B' aP h')(he:en∈X.envs):Loc B' aP en le h':=by
 obtain⟨⟨m0,hm0⟩,y⟩:=x;refine⟨⟨m0,(a.envs en he).1 _ hm0⟩,fun z v hz hi=>?_⟩;rcases y z v hz hi with ⟨k,m,val,hn,hv,hr⟩|⟨k,c,val,hc,hv,hr⟩
 ·exact .inl ⟨k,m,val,(a.envs en he).1 _ hn,hv,hr.mono a.bB a.pre⟩
 ·exact .inr ⟨k,c,val,hc,(a.envs en he).2 _ (mem_of_lookup hc) _ hv,hr.mono a.bB a.pre⟩
def dB(X:Fx)(B:Fz)(φ:AA)(σ:LM)(a:Addr):Prop:=
 B a=none∧X.P a=none∧a∉X.eS∧∀(i:Nat) ad o,φ[i]?=some ad→σ[i]?=some o→a∉fh ad o
inductive V1 (X:Fx) (B:Fz) (φ:AA) (σ:LM) (h:Heap) (vs:Array Value) (e dx:Addr):Prop
 |mk (T:Addr) (oT:Obj) (ts:Array Value) (h1:vs[1]?=some (.ref T)) (h2:h.get? T=some oT) (h3:oT.data= .fields ts) (h4:3<ts.size) (h5:T≠e) (h6:T≠dx) (h7:dB X B φ σ T)
inductive V2 (B:Fz) (h:Heap) (dx:Addr) (p:P):Prop
 |mk (es:List DictEntry) (n:Nat) (v:Value) (h1:h.get? dx=some (dictOf es n)) (r:getL (Str.ofString "at") es=some (some v)∧Is B v p)
inductive Yk (X:Fx) (B:Fz) (φ:AA) (σ:LM) (h:Heap) (p:P) (e:Addr):Prop
 |mk (dx:Addr) (vs:Array Value) (h1:h.get? e=some ⟨.ref fY,some dx,.fields vs,#[]⟩) (h2:∃a0,vs[0]?=some a0) (h3:dx≠e) (h4:V2 B h dx p)
  (h5:∀a,a=e∨a=dx→dB X B φ σ a)
  (h6:vs[1]?=some .none∨V1 X B φ σ h vs e dx)
structure Exc (X:Fx) (B:Fz) (φ:AA) (σ:LM) (h:Heap) (p:P) (e:Addr):Prop where
 obj:Yk X B φ σ h p e
inductive QO {α β:Type} (X:Fx) (B:Fz) (φ:AA) (h:Heap) (R:Fz→AA→Heap→β→α→Prop) (Q:MQ α) (val:β) (s':Shared):Prop
 |mk (B':Fz) (aP:AA) (ah:LM) (v:α) (r:Rel X B' aP ah s') (a:Step X B φ h B' aP s'.heap) (q:R B' aP s'.heap val v) (k:Q v ah)
inductive EO (X:Fx) (B:Fz) (φ:AA) (h:Heap) (E:ME) (x:Value) (s':Shared):Prop
 |mk (B':Fz) (aP:AA) (ah:LM) (e:Addr) (p:P) (he:x= .ref e) (r:Rel X B' aP ah s') (a:Step X B φ h B' aP s'.heap) (q:Exc X B' aP ah s'.heap p e) (k:E p ah)
noncomputable abbrev Fx.M(X:Fx):Model:=model X.prog X.w
def aE{α β:Type}(X:Fx)(B:Fz)(φ:AA)(R:Fz→AA→Heap→β→α→Prop)(t:Sem β)(c:WP α)(s:Shared):Prop:=
 ∀Q E,c Q E→wpAny X.M X.A t (QO X B φ s.heap R Q) (EO X B φ s.heap E) s
abbrev RV:Fz→AA→Heap→Value→V→Prop:=fun B φ U val v=>dM B φ val v
abbrev RB:Fz→AA→Heap→Bool→Bool→Prop:=fun U U U a b=>a=b
theorem QO.after{X:Fx}{B:Fz}{φ:AA}{α β:Type}{R:Fz→AA→Heap→β→α→Prop}{h h':Heap}{bA:Fz}{aS:AA}(S:Step X B φ h bA aS h'){Q:MQ α}{val:β}{s':Shared}(q:QO X bA aS h' R Q val s'):QO X B φ h R Q val s':=
 (q).casesOn fun B' aP ah v a b c k=>⟨B',aP,ah,v,a,S.trans b,c,k⟩
theorem EO.after{X:Fx}{B:Fz}{φ:AA}{h h':Heap}{bA:Fz}{aS:AA}(S:Step X B φ h bA aS h'){E:ME}{x:Value}{s':Shared}(q:EO X bA aS h' E x s'):EO X B φ h E x s':=
 (q).casesOn fun B' aP ah e p he a b c k=>⟨B',aP,ah,e,p,he,a,S.trans b,c,k⟩
theorem aE.bind{α β γ δ:Type}{X:Fx}{B:Fz}{φ:AA}{R:Fz→AA→Heap→β→α→Prop}{R':Fz→AA→Heap→δ→γ→Prop}{t:Sem β}{c:WP α}{s:Shared}{k:β→Sem δ}{f:α→M γ}
  (a:aE X B φ R t c s)
  (b:∀v σ val s' B' aP,Rel X B' aP σ s'→Step X B φ s.heap B' aP s'.heap→R B' aP s'.heap val v→aE X B' aP R' (k val) (f v σ) s'):aE X B φ R' (t >>=k) (fun Q E=>c (fun v σ=>f v σ Q E) E) s:=
 fun Q E h=>wpAny_bind (wpAny_mono (a _ _ h) (fun val s' hh=>hh.casesOn fun B' aP ah v hR hS hV z=>wpAny_mono (b v ah val s' B' aP hR hS hV Q E z) (fun U U q=>q.after hS) fun U U q=>q.after hS) fun U U q=>q)
theorem aE.at{α β:Type}{X:Fx}{B:Fz}{φ:AA}{R:Fz→AA→Heap→β→α→Prop}{t:Sem β}{c:WP α}{s:Shared}{Q:MQ α}{E:ME}(d:aE X B φ R t c s)(z:c Q E):wpAny X.M X.A t (QO X B φ s.heap R Q) (EO X B φ s.heap E) s:=d Q E z
theorem aE.CM{α β:Type}{X:Fx}{B:Fz}{φ:AA}{R:Fz→AA→Heap→β→α→Prop}{t:Sem β}{c A:WP α}{s:Shared}(d:aE X B φ R t c s)(k:∀Q E,A Q E→c Q E):aE X B φ R t A s:=fun Q E z=>d Q E (k Q E z)
theorem aE.pure{α β:Type}{X:Fx}{B:Fz}{φ:AA}{R:Fz→AA→Heap→β→α→Prop}{s:Shared}{val:β}{v:α}{σ:LM}(hR:Rel X B φ σ s)(hV:R B φ s.heap val v):aE X B φ R (Pure.pure val) (fun Q U=>Q v σ) s:=
 fun U U h=>wpAny_pure ⟨B,φ,σ,v,hR,Step.refl ..,hV,h⟩
section
variable {X:Fx}{B:Fz}{φ:AA}{σ:LM}{s:Shared}
theorem ou.grow{h h':Heap}{i:Nat}{ad:Addr×Addr}(k:∀b o,h.get? b=some o→h'.get? b=some o){o:MO}(q:ou B φ h i ad o):ou B φ h' i ad o:=by
 induction o with
 |list l=>exact TV.casesOn q fun vs n e r=>⟨vs,n,k _ _ e,r⟩
 |inst c fs=>exact TX.casesOn q fun a b c es n e r=>⟨k _ _ a,b,c,es,n,k _ _ e,r⟩
 |exc x=>exact TY.casesOn q fun a b es n v e r=>⟨a,b.elim fun vs hh=>⟨vs,k _ _ hh.1,hh.2⟩,es,n,v,k _ _ e,r⟩
 |gone=>exact trivial
theorem ou.MN{B':Fz}{aP:AA}{h:Heap}{i:Nat}{ad:Addr×Addr}(k:∀b o,B b=some o→B' b=some o)(p:φ <+:aP){o:MO}(q:ou B φ h i ad o):ou B' aP h i ad o:=by
 induction o with
 |list l=>exact TV.casesOn q fun vs n e r=>⟨vs,n,e,aG.mono k r⟩
 |inst c fs=>exact TX.casesOn q fun a b c es n e r=>⟨a,b,c,es,n,e,r.mono k p⟩
 |exc x=>exact TY.casesOn q fun a b es n v e r=>⟨a,b,es,n,v,e,r.1,Is.mono k r.2⟩
 |gone=>exact trivial
theorem Rel.grow(R:Rel X B φ σ s){h':Heap}{tk:Nat}(k:∀b o,s.heap.get? b=some o→h'.get? b=some o):Rel X B φ σ {s with heap:=h',toks:=tk} where
 gl:=R.gl
 same:=by obtain⟨h,t,e⟩:=R.same;exact⟨h',tk,ER e rfl⟩
 kH:=R.kH
 kP:=fun b o e=>k b o (R.kP b o e)
 kB:=fun b o e=>k b o (R.kB b o e)
 len:=R.len
 objs:=fun i ad o h1 h2=>(R.objs i ad o h1 h2).grow k
 own:=R.own
 inj:=R.inj
 young:=R.young
 cA:=fun a ha=>⟨(R.cA a ha).1,(R.cA a ha).2.1,let ⟨o,e⟩:=(R.cA a ha).2.2;⟨o,k a o e⟩⟩
 pg:=fun e he=>⟨(R.pg e he).1,((R.pg e he).2).casesOn fun L hh=>hh.casesOn fun m hh=>hh.casesOn fun h1 h2=>⟨L,m,h1,h2.keeps k⟩⟩
 sz:=R.sz
 k0:=R.k0
theorem Step.grow{h h':Heap}(k:∀b o,h.get? b=some o→h'.get? b=some o):Step X B φ h B φ h':=
 ⟨fun U U e=>e,(fun U U e n=>by rw[n]at e;contradiction),prefix_refl _,fun U U=>⟨fun U e=>e.keeps k,fun U U U e=>e.keeps k⟩,fun U U U U U e=>e.keeps k⟩
theorem Rel.toks(R:Rel X B φ σ s)(tk:Nat):Rel X B φ σ {s with toks:=tk}:=R.grow (h':=s.heap) (fun U U e=>e)
noncomputable def jb(B:Fz)(a:Addr)(o:Obj):Fz:=fun b=>if b=a then some o else B b
theorem cU(B:Fz)(a:Addr)(o:Obj):jb B a o a=some o:=if_pos rfl
theorem cH{B:Fz}{a:Addr}{o:Obj}(h:B a=none):∀b x,B b=some x→jb B a o b=some x:=fun b x e=>by
 unfold jb;refine iT (fun _=>?_) fun _=>?_
 ·rename_i q;subst q;rw[h]at e;contradiction
 ·exact e
theorem Rel.fresh(R:Rel X B φ σ s){a:Addr}(ha:s.heap.objs.size≤a):B a=none∧X.P a=none∧a∉X.eS∧(∀(i:Nat) ad o,φ[i]?=some ad→σ[i]?=some o→a∉fh ad o):=by
 refine⟨?_,?_,fun h=>(let ⟨o,e⟩:=(R.cA a h).2.2;absurd (lt_size e) (not_lt.mpr ha)),fun i ad o h1 h2 h3=>?_⟩
 ·generalize q:B a=gg;induction gg with
  |none=>rfl
  |some o=>exact absurd (lt_size (R.kB a o q)) (not_lt.mpr ha)
 ·generalize q:X.P a=gg;induction gg with
  |none=>rfl
  |some o=>exact absurd (lt_size (R.kP a o q)) (not_lt.mpr ha)
 ·have:=R.objs i ad o h1 h2;have lt:a<s.heap.objs.size:=by
   induction o with
   |list l=>obtain⟨vs,n,e,_⟩:=this;simp only[fh,mem_singleton]at h3;subst h3;exact lt_size e
   |inst c fs=>obtain⟨e1,_,_,es,n,e2,_⟩:=this;simp only[fh,mem_cons,not_mem_nil,or_false]at h3;rcases h3 with rfl|rfl;exact lt_size e1;exact lt_size e2
   |exc x=>obtain⟨_,⟨vs,e1,_⟩,es,n,v,e2,_⟩:=this;simp only[fh,mem_cons,not_mem_nil,or_false]at h3;rcases h3 with rfl|rfl;exact lt_size e1;exact lt_size e2
   |gone=>simp[fh]at h3
  exact absurd lt (not_lt.mpr ha)
theorem Rel.yR(R:Rel X B φ σ s){h':Heap}{tk:Nat}{a:Addr}{o:Obj}(k:∀b o,s.heap.get? b=some o→h'.get? b=some o)(ha:s.heap.objs.size≤a)(ho:h'.get? a=some o):
  Rel X (jb B a o) φ σ {s with heap:=h',toks:=tk}:=by
 have F:=R.fresh ha
 have R':=R.grow (tk:=tk) k;have mono:=cH (o:=o) F.1;refine {R' with kH:=fun b x e=>mono _ _ (R.kH b x e),kB:=fun b x e=>?_,objs:=fun i ad o' h1 h2=>(R'.objs i ad o' h1 h2).MN mono (prefix_refl _),own:=fun i ad o' b h1 h2 h3=>?_,cA:=fun b hb=>?_}
 ·unfold jb at e;split at e
  ·rename_i q;subst q;obtain rfl:=Option.some.inj e;exact ho
  ·exact R'.kB b x e
 ·have z:=R'.own i ad o' b h1 h2 h3;refine⟨?_,z.2⟩;unfold jb;rw[if_neg]
  ·exact z.1
  ·rintro rfl;exact F.2.2.2 i ad o' h1 h2 h3
 ·have z:=R'.cA b hb;refine⟨?_,z.2⟩;unfold jb;rw[if_neg]
  ·exact z.1
  ·rintro rfl;exact F.2.2.1 hb
theorem Step.yR(R:Rel X B φ σ s){h':Heap}{a:Addr}{o:Obj}(k:∀b o,s.heap.get? b=some o→h'.get? b=some o)(ha:s.heap.objs.size≤a):Step X B φ s.heap (jb B a o) φ h':=
 {Step.grow (X:=X) (B:=B) (φ:=φ) k with bB:=cH (R.fresh ha).1,fresh:=fun b x e n=>(by
   unfold jb at e;split at e
   ·rename_i q;subst q;exact⟨le_trans (le_of_lt R.xm) ha,(R.fresh ha).2.1⟩
   ·rw[n]at e;contradiction)}
theorem Rel.bh(R:Rel X B φ σ s){ad:Addr×Addr}{o:MO}
  (ha:∀a∈fh ad o,B a=none∧X.P a=none∧a∉X.eS∧∀(i:Nat) ic o',φ[i]?=some ic→σ[i]?=some o'→a∉fh ic o') (hy:X.n0≤ad.1∧X.n0≤ad.2)
  (ho:ou B (φ++[ad]) s.heap σ.length ad o):Rel X B (φ++[ad]) (σ++[o]) s:=by
 have cf:∀(i:Nat) ic,(φ++[ad])[i]?=some ic→φ[i]?=some ic∨ic=ad:=fun i ic h1=>by
  rcases Nat.lt_or_ge i φ.length with q|q
  ·rw[getElem?_append_left q]at h1;exact .inl h1
  ·rw[List.getElem?_append_right q]at h1;have l1:=(List.getElem?_eq_some_iff.mp h1).1;have:i - φ.length=0:=by simp at l1;omega
   rw[this]at h1;simp at h1;exact .inr h1.symm
 have cs:∀(i:Nat) ic o',(φ++[ad])[i]?=some ic→(σ++[o])[i]?=some o'→(φ[i]?=some ic∧σ[i]?=some o')∨(i=σ.length∧ic=ad∧o'=o):=fun i ic o' h1 h2=>by
  rcases Nat.lt_or_ge i σ.length with q|q
  ·rw[getElem?_append_left (by refine ER R.len ?_;exact q)]at h1;rw[getElem?_append_left q]at h2;exact .inl ⟨h1,h2⟩
  ·rw[List.getElem?_append_right (by refine ER R.len ?_;exact q)]at h1;rw[List.getElem?_append_right q]at h2;have l1:=(List.getElem?_eq_some_iff.mp h2).1;have:i=σ.length:=by simp at l1;grind only
   subst this;rw[R.len]at h1;simp at h1 h2;exact .inr ⟨rfl,h1.symm,h2.symm⟩
 refine {R with len:=by simp[R.len],objs:=fun i ic o' h1 h2=>?_,own:=fun i ic o' a h1 h2 h3=>?_,inj:=fun i j ad1 o1 ad2 o2 a h1 h2 h3 h4 h5 h6=>?_,young:=fun i ic hi h1=>?_,k0:=by simp;exact Nat.le_succ_of_le R.k0}
 ·rcases cs i ic o' h1 h2 with ⟨e1,e2⟩|⟨rfl,rfl,rfl⟩
  ·exact(R.objs i ic o' e1 e2).MN (fun U U e=>e) (prefix_append _ _:φ <+:φ++[ad])
  ·exact ho
 ·rcases cs i ic o' h1 h2 with ⟨e1,e2⟩|⟨rfl,rfl,rfl⟩
  ·exact R.own i ic o' a e1 e2 h3
  ·have F:=ha a h3;exact⟨F.1,F.2.1,F.2.2.1⟩
 ·rcases cs i ad1 o1 h1 h2 with ⟨e1,e2⟩|⟨rfl,rfl,rfl⟩<;>rcases cs j ad2 o2 h3 h4 with ⟨e3,e4⟩|⟨rfl,rfl,rfl⟩
  ·exact R.inj i j _ _ _ _ a e1 e2 e3 e4 h5 h6
  ·exact absurd h5 ((ha a h6).2.2.2 i _ _ e1 e2)
  ·exact absurd h6 ((ha a h5).2.2.2 j _ _ e3 e4)
  ·rfl
 ·rcases cf i ic h1 with e1|rfl
  ·exact R.young i ic hi e1
  ·exact hy
theorem Qp{ad:Addr×Addr}{o:MO}{a:Addr}(h:a∈fh ad o):a=ad.1∨a=ad.2:=by
 induction o<;>simp[fh]at h
 ·exact .inl h
 ·exact h
 ·exact h
theorem Rel.Hw(R:Rel X B φ σ s){h':Heap}{tk:Nat}{ad:Addr×Addr}{o:MO}(k:∀b o,s.heap.get? b=some o→h'.get? b=some o)
  (ha:s.heap.objs.size≤ad.1∧s.heap.objs.size≤ad.2) (ho:ou B (φ++[ad]) h' σ.length ad o):Rel X B (φ++[ad]) (σ++[o]) {s with heap:=h',toks:=tk}:=
 (R.grow k).bh (fun a h=>R.fresh (by rcases Qp h with rfl|rfl;exact ha.1;exact ha.2)) ⟨le_trans (le_of_lt R.xm) ha.1,le_trans (le_of_lt R.xm) ha.2⟩ ho
theorem Step.Hw{h h':Heap}{ad:Addr×Addr}(k:∀b o,h.get? b=some o→h'.get? b=some o):Step X B φ h B (φ++[ad]) h':=
 {Step.grow (X:=X) (B:=B) (φ:=φ) k with pre:=prefix_append _ _}
theorem a8(h:Heap)(o:Obj):∀b x,h.get? b=some x→(h.push o).get? b=some x:=fun U U e=>get?_push_of_some o e
theorem Rel.turn(R:Rel X B φ σ s){h':Heap}{tk:Nat}{i:Nat}{ad:Addr×Addr}{o o':MO}(fW:φ[i]?=some ad)(dF:σ[i]?=some o)(Hx:∀a∈fh ad o',a∈fh ad o)
  (k:∀b,b∉fh ad o→h'.get? b=s.heap.get? b) (ho:ou B φ h' i ad o'):Rel X B φ (σ.set i o') {s with heap:=h',toks:=tk}:=by
 have hi:=(List.getElem?_eq_some_iff.mp dF).1
 have kk:∀b,(∀a∈fh ad o,b≠a)→h'.get? b=s.heap.get? b:=fun b hb=>k b fun h=>hb b h rfl;have cs:∀(j:Nat) ic x,φ[j]?=some ic→(σ.set i o')[j]?=some x→(j=i∧ic=ad∧x=o')∨(j≠i∧σ[j]?=some x):=fun j ic x h1 h2=>by
  by_cases q:i=j
  ·subst q;rw[List.getElem?_set_self hi]at h2;rw[fW]at h1;obtain rfl:=Option.some.inj h1;obtain rfl:=Option.some.inj h2;exact .inl ⟨rfl,rfl,rfl⟩
  ·rw[getElem?_set_ne q]at h2;exact .inr ⟨Ne.symm q,h2⟩
 refine⟨R.gl,?_,R.kH,fun b x e=>?_,fun b x e=>?_,by simp[R.len],fun j ic x h1 h2=>?_,fun j ic x a h1 h2 h3=>?_,fun j1 j2 ad1 x1 ad2 x2 a h1 h2 h3 h4 h5 h6=>?_,R.young,fun a ha=>?_,fun e he=>?_,R.sz,by simp;exact R.k0⟩
 ·obtain⟨h,t,e⟩:=R.same;exact⟨h',tk,ER e rfl⟩
 ·rw[show({s with heap:=h',toks:=tk}:Shared).heap.get? b=s.heap.get? b from k b fun q=>by have:=(R.own i ad o b fW dF q).2.1;rw[this]at e;cases e];exact R.kP b x e
 ·rw[show({s with heap:=h',toks:=tk}:Shared).heap.get? b=s.heap.get? b from k b fun q=>by have:=(R.own i ad o b fW dF q).1;rw[this]at e;cases e];exact R.kB b x e
 ·rcases cs j ic x h1 h2 with ⟨rfl,rfl,rfl⟩|⟨hj,h3⟩
  ·exact ho
  ·have z:=R.objs j ic x h1 h3;have ap:=(fun j ic x hj h1 h2 a ha hb=>hj (R.inj j i ic x ad o a h1 h2 fW dF ha hb):∀(j:Nat) ic x,j≠i→φ[j]?=some ic→σ[j]?=some x→∀a∈fh ic x,a∉fh ad o) j ic x hj h1 h3;induction x with
   |list l=>obtain⟨vs,n,e,r⟩:=z;exact⟨vs,n,(k _ (ap _ (mem_singleton_self _))).trans e,r⟩
   |inst c fs=>obtain⟨e1,e2,e3,es,n,e4,r⟩:=z;exact⟨(k _ (ap _ (.head _))).trans e1,e2,e3,es,n,(k _ (ap _ (.tail _ (.head _)))).trans e4,r⟩
   |exc p=>obtain⟨e1,⟨vs,e2,r⟩,es,n,v,e3,r'⟩:=z;exact⟨e1,⟨vs,(k _ (ap _ (.head _))).trans e2,r⟩,es,n,v,(k _ (ap _ (.tail _ (.head _)))).trans e3,r'⟩
   |gone=>trivial
 ·rcases cs j ic x h1 h2 with ⟨rfl,rfl,rfl⟩|⟨hj,h4⟩
  ·exact R.own _ _ o a fW dF (Hx a h3)
  ·exact R.own j ic x a h1 h4 h3
 ·rcases cs j1 ad1 x1 h1 h2 with ⟨rfl,rfl,rfl⟩|⟨hj1,h7⟩<;>rcases cs j2 ad2 x2 h3 h4 with ⟨rfl,rfl,rfl⟩|⟨hj2,h8⟩
  ·rfl
  ·exact R.inj _ _ _ _ _ _ a fW dF h3 h8 (Hx a h5) h6
  ·exact R.inj _ _ _ _ _ _ a h1 h7 fW dF h5 (Hx a h6)
  ·exact R.inj _ _ _ _ _ _ a h1 h7 h3 h8 h5 h6
 ·obtain⟨o,e⟩:=(R.cA a ha).2.2;exact⟨(R.cA a ha).1,(R.cA a ha).2.1,o,(k a fun q=>(R.own i ad _ a fW dF q).2.2 ha).trans e⟩
 ·refine⟨(R.pg e he).1,?_⟩;obtain⟨L,m,h1,h2⟩:=(R.pg e he).2;refine⟨L,m,h1,?_⟩;obtain⟨oL,es,ep,hL,r⟩:=h2;refine⟨oL,es,ep,(k L fun q=>(R.own i ad o L fW dF q).2.2 ?_).trans hL,r⟩;exact mem_append.mpr (.inl (mem_filterMap.mpr ⟨e,he,h1⟩))
theorem Step.turn(R:Rel X B φ σ s){h':Heap}{i:Nat}{ad:Addr×Addr}{o:MO}(fW:φ[i]?=some ad)(dF:σ[i]?=some o)
  (k:∀b,b∉fh ad o→h'.get? b=s.heap.get? b):Step X B φ s.heap B φ h':=by
 have kp:∀a∈X.eS,h'.get? a=s.heap.get? a:=fun a ha=>k a fun q=>(R.own i ad o a fW dF q).2.2 ha;refine⟨fun U U e=>e,(fun U U e n=>by rw[n]at e;contradiction),prefix_refl _,fun e he=>⟨fun m hm=>?_,fun x hx v hv=>?_⟩,fun e he L m hL hm=>?_⟩
 ·obtain⟨oL,es,ep,hL,r⟩:=hm;exact⟨oL,es,ep,(kp _ (mem_append.mpr (.inr (mem_flatMap.mpr ⟨e,he,.head _⟩)))).trans hL,r⟩
 ·obtain⟨o,ho,hd⟩:=hv;exact⟨o,(kp _ (mem_append.mpr (.inr (mem_flatMap.mpr ⟨e,he,.tail _ (mem_map.mpr ⟨x,hx,rfl⟩)⟩)))).trans ho,hd⟩
 ·obtain⟨oL,es,ep,hL',r⟩:=hm;exact⟨oL,es,ep,(kp _ (mem_append.mpr (.inl (mem_filterMap.mpr ⟨e,he,hL⟩)))).trans hL',r⟩
end
structure Hy (A:Around) (r:Nat):Prop where
 hd:A.handled=none
 dp:A.depth+4 * r≤990
 un:A.units+64 * r≤9000
structure EnOK (X:Fx) (en:Env) (r:Nat):Prop where
 kind:en.scope.kind= .function
 Qq:en.globals=mainGlobals
 blt:en.builtins=builtinsNs
 mem:en∈X.envs
 room:Hy X.A r
 code:en.frame=(X.outer.head?.bind (·.frame))
 MP:X.A.frames=some X.outer
 ne:X.outer≠[]
def Ev(X:Fx)(en:Env)(e:Expr)(c:ai→M V):Prop:=
 ∀B φ σ le s,Rel X B φ σ s→Loc B φ en le s.heap→aE X B φ RV (eval e en) (c le σ) s
def Tr(X:Fx)(en:Env)(e:Expr)(c:ai→M Bool):Prop:=
 ∀B φ σ le s,Rel X B φ σ s→Loc B φ en le s.heap→aE X B φ RB (isTrue e en (eval e en)) (c le σ) s
section
variable {X:Fx}{B:Fz}{φ:AA}{σ:LM}{s:Shared}{α β γ δ:Type}
 {R:Fz→AA→Heap→β→α→Prop} {R':Fz→AA→Heap→δ→γ→Prop}
theorem aE.holding{t:Sem β}{r:WP α}{vs:Lv}(h:aE X B φ R t r s):aE X B φ R (PySem.holding vs t) r s:=fun U U n=>wpAny_holding (h _ _ n)
theorem aE.standAt{t:Sem β}{r:WP α}{p:Pos}(h:aE X B φ R t r s):aE X B φ R (PySem.standAt p >>=fun U=>t) r s:=fun U U n=>wpAny_bind (wpAny_standAt (h _ _ n))
theorem aE.operate{t:Sem Value}{r:WP V}{vs:Lv}(h:aE X B φ RV t r s):aE X B φ RV (PySem.operate vs t) r s:=fun U U n=>wpAny_operating (h _ _ n)
theorem aE.gives{t:Sem β}{val:β}{v:α}{h':Heap}{tk:Nat}(hR:Rel X B φ σ s)(ht:∀(Q:β→Shared→Prop) E,Q val {s with heap:=h',toks:=tk}→wpAny X.M X.A t Q E s)
  (k:∀b o,s.heap.get? b=some o→h'.get? b=some o) (hV:R B φ h' val v):aE X B φ R t (fun Q U=>Q v σ) s:=
 fun U U z=>ht _ _ ⟨B,φ,σ,v,hR.grow k,Step.grow k,hV,z⟩
theorem aE.cC{t:Sem β}{val:β}{v:α}{tk:Nat}(hR:Rel X B φ σ s)(ht:∀(Q:β→Shared→Prop) E,Q val {s with toks:=tk}→wpAny X.M X.A t Q E s)
  (hV:R B φ s.heap val v):aE X B φ R t (fun Q U=>Q v σ) s:=aE.gives (h':=s.heap) (tk:=tk) hR ht (fun U U e=>e) hV
theorem aE.yI{t:Sem Value}{x:P}{h':Heap}{tk:Nat}{a:Addr}{o:Obj}(hR:Rel X B φ σ s)(ht:∀(Q:Value→Shared→Prop) E,Q (.ref a) {s with heap:=h',toks:=tk}→wpAny X.M X.A t Q E s)
  (k:∀b o,s.heap.get? b=some o→h'.get? b=some o) (ha:s.heap.objs.size≤a) (ho:h'.get? a=some o) (hV:Is (jb B a o) (.ref a) x):aE X B φ RV t (fun Q U=>Q (.p x) σ) s:=
 fun U U z=>ht _ _ ⟨_,φ,σ,.p x,hR.yR k ha ho,Step.yR hR k ha,hV,z⟩
theorem aE.makes{t:Sem Value}{h':Heap}{tk:Nat}{ad:Addr×Addr}{o:MO}(hR:Rel X B φ σ s)(ht:∀(Q:Value→Shared→Prop) E,Q (.ref ad.1) {s with heap:=h',toks:=tk}→wpAny X.M X.A t Q E s)
  (k:∀b o,s.heap.get? b=some o→h'.get? b=some o) (ha:s.heap.objs.size≤ad.1∧s.heap.objs.size≤ad.2) (ho:ou B (φ++[ad]) h' σ.length ad o):aE X B φ RV t (fun Q U=>Q (.ref σ.length) (σ++[o])) s:=
 fun U U z=>ht _ _ ⟨B,_,_,.ref σ.length,hR.Hw k ha ho,Step.Hw k,by refine EL hR.len ?_;exact⟨ad,by simp,rfl⟩,z⟩
end
noncomputable def MR:Option MO→Option P
 |some (.list l)=>some (.list l)
 |_=>none
def view(σ:LM):V→Option P
 | .p x=>some x
 | .ref n=>MR σ[n]?
def sI(B:Fz)(h:Heap)(val:Value):P→Prop
 | .list l=>∃a vs n,val= .ref a∧h.get? a=some ⟨.type "list",none,.seq vs.toArray n,#[]⟩∧aG B vs l
 |x=>Is B val x
theorem sI.of_is{B:Fz}{h:Heap}{val:Value}{x:P}(k:∀b o,B b=some o→h.get? b=some o)(r:Is B val x):sI B h val x:=by
 cases r with
 |list e q=>exact⟨_,_,_,rfl,k _ _ e,q⟩
 |none=>exact .none
 |bool b=>exact .bool b
 |int i t=>exact .int i t
 |str y t z=>exact .str y t z
 |tup e q=>exact .tup e q
 |inst e1 e2 q=>exact .inst e1 e2 q
theorem Rel.sees{X:Fx}{B:Fz}{φ:AA}{σ:LM}{s:Shared}(R:Rel X B φ σ s){val:Value}{v:V}{x:P}(h:dM B φ val v)(e:view σ v=some x):sI B s.heap val x:=by
 induction v with
 |p y=>injection e with e;subst e;exact sI.of_is R.kB h
 |ref n=>
  obtain⟨ad,fW,rfl⟩:=h;have e:MR σ[n]?=some x:=e;generalize dF:σ[n]?=gg;induction gg with
  |none=>rw[dF]at e;contradiction
  |some o=>
   rw[dF]at e;induction o with
   |list l=>
    injection e with e;subst e;obtain⟨vs,m,hg,q⟩:=R.objs n ad _ fW dF;exact⟨_,_,_,rfl,hg,q⟩
   |_=>contradiction
theorem sI.reads{B:Fz}{h:Heap}{val:Value}{x:P}(k:∀b o,B b=some o→h.get? b=some o)(r:sI B h val x)(f:flat x=true):(∃as,Reads h val (toPy x) as)∧(toPy x).canLay0=true:=by
 cases x with
 |list l=>
  obtain⟨a,vs,n,rfl,e,q⟩:=r;obtain⟨⟨as,q'⟩,c⟩:=aG.reads k q f;exact⟨⟨_,.list e rfl rfl q'⟩,c⟩
 |none=>exact Is.reads k r f
 |bool b=>exact Is.reads k r f
 |int i=>exact Is.reads k r f
 |str y=>exact Is.reads k r f
 |tup l=>exact Is.reads k r f
 |inst c fs=>exact Is.reads k r f
noncomputable def small(i:Int):Bool:=decide (-(2 ^ 64)<i)&&decide (i<2 ^ 64)
noncomputable def mid(i:Int):Bool:=decide (Builtin.Int.intBits i≤2 ^ 20)
def jR(op:Operator)(x y z:P):Prop:=∀⦃X B φ σ s a b⦄,Rel X B φ σ s→sI B s.heap a x→sI B s.heap b y→aE X B φ RV (binaryOp op a b) (fun Q U=>Q (.p z) σ) s
inductive aU (op:Operator) (σ:LM) (a b:V) (Q:MQ V):Prop|mk (x y z:P) (e1:view σ a=some x) (e2:view σ b=some y) (e3:jR op x y z) (q:Q (.p z) σ)
theorem aU.pp{op:Operator}{σ:LM}{Q:MQ V}{x y z:P}(e:jR op x y z)(q:Q (.p z) σ):aU op σ (.p x) (.p y) Q:=.mk x y z rfl rfl e q
abbrev V4(op:Operator)(a:V)(Q:MQ V):MQ V:=fun b σ=>aU op σ a b Q
abbrev Yl(op:Operator)(r:ai→M V)(le:ai)(Q:MQ V)(E:ME):MQ V:=fun a σ=>r le σ (V4 op a Q) E
def aJ(op:Operator)(l r:ai→M V):ai→M V:=fun le σ Q E=>l le σ (Yl op r le Q E) E
section
variable {X:Fx}{B:Fz}{φ:AA}{σ:LM}{s:Shared}
theorem vS{i:Int}(h:small i=true):i.natAbs<2 ^ 64:=by simp only[small,and_eq_true,decide_eq_true_eq]at h;omega
theorem yS{i:Int}(h:small i=true):Builtin.Int.intBits i≤64:=by simp only[small,and_eq_true,decide_eq_true_eq]at h;exact intBits_le_64 h.1 h.2
theorem uB{a b:Int}(h:small b=true):Builtin.divisionGoesByPylong a b=false:=by
 have:=vS h
 unfold Builtin.divisionGoesByPylong;have q:¬((if b ==0 then 0 else b.natAbs.log2 / 30+1) > 300):=by
  refine iT (fun _=>?_) fun _=>?_
  ·decide
  ·have:b.natAbs.log2<64:=by
    rcases Nat.eq_zero_or_pos b.natAbs with z|z
    ·rw[z];decide
    ·exact(Nat.log2_lt (Nat.pos_iff_ne_zero.mp z)).mpr this
   lia
 simp only[q,decide_false,Bool.false_and]
theorem nL{a b:Str}(h:PyData.strOk a=true)(k:PyData.strOk b=true):PyData.strOk (a++b)=true:=by
 unfold PyData.strOk at *;show((a.cps++b.cps).all _)=true;refine ER Array.all_append (ER h (ER k ?_));rfl
theorem yT{a b:Str}(h:(a.length ==0)=true):a++b=b:=by
 have:a=⟨#[]⟩:=by
  cases a with|mk c=>exact congrArg Str.mk (Array.eq_empty_of_size_eq_zero (by simpa [Str.length]using h))
 subst this;show Str.mk (#[]++b.cps)=b;simp
theorem yc{a b:Str}(h:(b.length ==0)=true):a++b=a:=by
 have:b=⟨#[]⟩:=by
  cases b with|mk c=>exact congrArg Str.mk (Array.eq_empty_of_size_eq_zero (by simpa [Str.length]using h))
 subst this;show Str.mk (a.cps++#[])=a;rfl
theorem CN{α:Type}{c:Prop}[Decidable c]{a b:α}(h:(if c then some a else none)=some b):c∧a=b:=by
 split at h
 ·exact⟨by assumption,Option.some.inj h⟩
 ·contradiction
theorem Is.vU{B:Fz}{v:Value}{i:Int}(h:Is B v (.int i)):∃t,v= .int i t:=by refine Is.CI h fun U=>?_;exact⟨_,rfl⟩
end
section
theorem mJ{op:Operator}{a b w:Int}(k:∀(X:Fx) s t u (Q:Value→Shared→Prop) E,Q (.int w s.toks) {s with toks:=s.toks+1}→wpAny X.M X.A (binaryOp op (.int a t) (.int b u)) Q E s):jR op (.int a) (.int b) (.int w):=
 fun X U U U s U U hR ha hb=>by refine Is.CI ha fun U=>?_;refine Is.CI hb fun U=>?_;exact aE.cC hR (k X s _ _) (.int _ _)
theorem add_int{a b:Int}:jR .Add (.int a) (.int b) (.int (a+b)):=mJ fun U U U U U U q=>PySem.P.add_int q
theorem sub_int{a b:Int}:jR .Sub (.int a) (.int b) (.int (a - b)):=mJ fun U U U U U U q=>PySem.P.sub_int q
theorem mul_int{a b:Int}(h:small a=true∨small b=true):jR .Mult (.int a) (.int b) (.int (a * b)):=
 mJ fun U U U U U U q=>PySem.P.mul_int q (h.elim (fun h=>IntMulOk.of_left (yS h)) fun h=>IntMulOk.of_right (yS h))
theorem yU{a b:Int}(h:0<b)(k:small b=true):jR .FloorDiv (.int a) (.int b) (.int (Int.fdiv a b)):=
 mJ fun U U U U U U q=>floordiv_int (Int.ne_of_gt h) q (.inl (uB k))
theorem jS{a b:Int}(h:0<b):jR .Mod (.int a) (.int b) (.int (Int.fmod a b)):=mJ fun U U U U U U q=>mod_int (Int.ne_of_gt h) q
theorem pow_int{a b:Int}(h:0≤b)(h':b≤20)(k:small a=true):jR .Pow (.int a) (.int b) (.int (a ^ b.toNat)):=
 mJ fun U U U U U U q=>pow_int_small h (by lia) (vS k) q
theorem add_str{a b:Str}(hl:a.length+b.length≤bL):jR .Add (.str a) (.str b) (.str (a++b)):=fun U U U U s U U hR ha hb=>by
 refine Is.uA ha fun t h1=>?_;cases hb with|str _ u h2=>
 by_cases e1:(a.length ==0)=true
 ·refine ER (yT e1) ?_;exact aE.cC (tk:=s.toks) hR (fun Q E q=>PySem.P.add_str (by refine ER (if_pos e1) ?_;exact q)) (.str _ _ h2)
 ·by_cases e2:(b.length ==0)=true
  ·refine ER (yc e2) ?_;exact aE.cC (tk:=s.toks) hR (fun Q E q=>PySem.P.add_str (by rw[if_neg e1,if_pos e2];exact q)) (.str _ _ h1)
  ·exact aE.cC (tk:=s.toks+1) hR (fun Q E q=>PySem.P.add_str (by rw[if_neg e1,if_neg e2];exact⟨by refine ER (Str.length_append ..) (ER (sizeLine_eq ..) ?_);exact le_trans hl (bl rfl),q⟩)) (.str _ s.toks (nL h1 h2))
theorem ET{vs ws:Lv}{l m:Lp}{B:Fz}(h:aG B vs l)(k:aG B ws m)(hl:l.length+m.length≤bL):vs.toArray.size+ws.toArray.size≤sizeLine:=by refine ER size_toArray (ER size_toArray (ER h.length (ER k.length (ER sizeLine_eq ?_))));exact le_trans hl (bl rfl)
theorem Jb{X:Fx}{B:Fz}{φ:AA}{σ:LM}{s:Shared}{vs ws:Lv}{l m:Lp}{o:Obj}(hR:Rel X B φ σ s)(h:aG B vs l)(k:aG B ws m):aG (jb B s.heap.objs.size o) (vs++ws) (l++m):=
 aG.mono (cH (hR.fresh (le_refl _)).1) (h.append k)
theorem add_list{l m:Lp}(hl:l.length+m.length≤bL):jR .Add (.list l) (.list m) (.list (l++m)):=fun U U U U s U U hR pX0 pX1=>by
 obtain⟨_,vs,_,e1,h1,q1⟩:=pX0;obtain⟨_,ws,_,e2,h2,q2⟩:=pX1;subst e1 e2;exact aE.yI (tk:=s.toks) hR (fun Q E q=>PySem.P.add_list h1 h2 q (ET q1 q2 hl)) (a8 _ _) (le_refl _) (get?_push_size _ rfl) (.list (n:=0) (by refine ER (cU ..) ?_;simp) (Jb hR q1 q2))
theorem yJ{a b:P}{l m:Lp}(hl:(a::l).length+(b::m).length≤bL):jR .Add (.tup (a::l)) (.tup (b::m)) (.tup ((a::l)++(b::m))):=fun U U U U s U U hR ha hb=>by
 refine Is.A4 ha fun U U U h1 q1=>?_;refine Is.A4 hb fun U U U h2 q2=>?_;have ne:∀{B:Fz} {vs:Lv} {x:P} {l:Lp},aG B vs (x::l)→¬vs.toArray.isEmpty=true:=fun h=>by refine aG.SM h fun U U U U=>?_;exact Bool.noConfusion
 exact aE.yI (tk:=s.toks) hR (fun Q E q=>PySem.P.add_tuple (hR.kB _ _ h1) (hR.kB _ _ h2) (ne q1) (ne q2) q (ET q1 q2 hl)) (a8 _ _) (le_refl _) (get?_push_size _ rfl) (.tup (n:=0) (by refine ER (cU ..) ?_;simp) (Jb hR q1 q2))
end
def Hz(x y:P):Bool:=PyData.eqv (toPy x) (toPy y)
def vV(l:Lp)(x:P):Bool:=l.any fun y=>Hz y x
noncomputable def yV(c x:Str):Bool:=decide (c.cps.getD 0 0∈x.cps.toList)
noncomputable def isNone:P→Bool
 | .none=>true
 |_=>false
def cD(op:CmpOp)(x y:P)(z:Bool):Prop:=∀⦃X B φ σ s a b r⦄,Rel X B φ σ s→Hy X.A r→sI B s.heap a x→sI B s.heap b y→aE X B φ RV (compareOp op a b) (fun Q U=>Q (.p (.bool z)) σ) s
inductive aF (op:CmpOp) (σ:LM) (a b:V) (Q:Bool→Prop):Prop|mk (x y:P) (z:Bool) (e1:view σ a=some x) (e2:view σ b=some y) (e3:cD op x y z) (q:Q z)
theorem aF.pp{op:CmpOp}{σ:LM}{Q:Bool→Prop}{x y:P}{z:Bool}(e:cD op x y z)(q:Q z):aF op σ (.p x) (.p y) Q:=.mk x y z rfl rfl e q
section
variable {X:Fx}{B:Fz}{φ:AA}{σ:LM}{s:Shared}
theorem qN(l:Lp)(x:P):((dU l).any fun y=>PyData.eqv y (toPy x))=vV l x:=by
 unfold vV Hz;induction l with
 |nil=>rfl
 |cons a l ih=>exact congrArg (_ || ·) ih
theorem yW{c x:Str}(h:(c.length ==1)=true):(!(Builtin.Str.occurrences x c 0 x.length 1).isEmpty)=yV c x:=by
 obtain⟨⟨l⟩⟩:=c;obtain⟨n,rfl⟩:=List.length_eq_one_iff.mp (show l.length=1 by simpa [Str.length]using h);exact StrLaws.found_one x n
theorem Kp{B:Fz}{h:Heap}{a:Value}{x:P}(r:sI B h a x):(a ==Value.none)=isNone x:=by
 cases x with
 |list l=>obtain⟨_,_,_,rfl,_⟩:=r;rfl
 |none=>refine Is.MI r ?_;rfl
 |_=>cases r;rfl
theorem says{op:CmpOp}{z:Bool}{a b:Value}(hR:Rel X B φ σ s)(h:∀(Q:Value→Shared→Prop) E,Q (.bool z) {s with toks:=s.toks}→wpAny X.M X.A (compareOp op a b) Q E s):aE X B φ RV (compareOp op a b) (fun Q U=>Q (.p (.bool z)) σ) s:=aE.cC (tk:=s.toks) hR h (.bool _)
end
theorem uC{op:CmpOp}{a b:Int}{z:Bool}(k:∀(X:Fx) s t u (Q:Value→Shared→Prop) E,Q (.bool z) {s with toks:=s.toks}→wpAny X.M X.A (compareOp op (.int a t) (.int b u)) Q E s):cD op (.int a) (.int b) z:=
 fun X U U U s U U U hR U ha hb=>by refine Is.CI ha fun U=>?_;refine Is.CI hb fun U=>?_;exact says hR (k X s _ _)
theorem nM{a b:Int}:cD .Lt (.int a) (.int b) (decide (a<b)):=uC fun U U U U U U q=>PySem.P.lt_int q
theorem MS{a b:Int}:cD .LtE (.int a) (.int b) (decide (a≤b)):=uC fun U U U U U U q=>PySem.P.le_int q
theorem cmp_gt{a b:Int}:cD .Gt (.int a) (.int b) (decide (a > b)):=uC fun U U U U U U q=>PySem.P.gt_int q
theorem vW{a b:Int}:cD .GtE (.int a) (.int b) (decide (a≥b)):=uC fun U U U U U U q=>PySem.P.ge_int q
theorem ip{x y:P}(fx:flat x=true)(fy:flat y=true)(h:min (toPy x).depth (toPy y).depth≤60):cD .Eq x y (Hz x y):=fun X B φ σ s a b r hR hA ha hb=>by
 obtain⟨⟨as,r1⟩,c1⟩:=ha.reads hR.kB fx;obtain⟨⟨bs,r2⟩,c2⟩:=hb.reads hR.kB fy;have hu:=hA.un;have hc:cLine=9900:=rfl;exact says hR fun Q E q=>SeqAt.compareEq_reads r1 r2 c1 c2 (by lia) q
theorem sJ{x y:P}(fx:flat x=true)(fy:flat y=true)(h:min (toPy x).depth (toPy y).depth≤60):cD .NotEq x y (!Hz x y):=fun X B φ σ s a b r hR hA ha hb=>by
 obtain⟨⟨as,r1⟩,c1⟩:=ha.reads hR.kB fx;obtain⟨⟨bs,r2⟩,c2⟩:=hb.reads hR.kB fy;have hu:=hA.un;have hc:cLine=9900:=rfl;exact says hR fun Q E q=>SeqAt.compareNe_reads r1 r2 c1 c2 (by lia) q
theorem BG{B:Fz}{vs ws:Lv}{x:P}{l:Lp}(h:aG B vs (x::l))(k:aG B ws []):(vs.toArray.size !=ws.toArray.size)=true:=by refine aG.SM h fun U U U U=>?_;refine aG.Yj k ?_;rfl
theorem yX{x:P}{l:Lp}:cD .Eq (.list (x::l)) (.list []) false:=fun X B φ σ s a b r hR hA ⟨la,vs,n,e1,h1,q1⟩ ⟨lb,ws,m,e2,h2,q2⟩=>by
 subst e1 e2;have hu:=hA.un;have hc:cLine=9900:=rfl;exact says hR fun Q E q=>SeqAt.eq_list_lengthsAt ⟨_,h1,rfl,_,rfl⟩ ⟨_,h2,rfl,_,rfl⟩ (BG q1 q2) (by lia) q
theorem mK{x:P}{l:Lp}:cD .NotEq (.list (x::l)) (.list []) true:=fun X B φ σ s a b r hR hA ⟨la,vs,n,e1,h1,q1⟩ ⟨lb,ws,m,e2,h2,q2⟩=>by
 subst e1 e2;have hu:=hA.un;have hc:cLine=9900:=rfl;exact says hR fun Q E q=>PySem.SeqAt.RcNeAt.lists_lengths ⟨_,h1,rfl,_,rfl⟩ ⟨_,h2,rfl,_,rfl⟩ (BG q1 q2) (by lia) X.prog X.w E Q q
theorem jT{c x:Str}(h:(c.length ==1)=true):cD .In (.str c) (.str x) (yV c x):=fun X B φ σ s a b r hR hA ha hb=>by refine Is.uA ha fun U U=>?_;refine Is.uA hb fun U U=>?_;exact says hR fun Q E q=>PySem.P.in_str (by refine ER (yW h) ?_;exact q)
theorem Kq{c x:Str}(h:(c.length ==1)=true):cD .NotIn (.str c) (.str x) (!yV c x):=fun X B φ σ s a b r hR hA ha hb=>by refine Is.uA ha fun U U=>?_;refine Is.uA hb fun U U=>?_;exact says hR fun Q E q=>PySem.P.notIn_str (by refine ER (yW h) ?_;exact q)
section
variable {l:Lp}{x:P}(hl:lA l=true)(hx:flat x=true)(hd:(toPy x).depth≤60)
include hl hx hd
theorem xn:cD .In x (.list l) (vV l x):=fun X B φ σ s a b r hR hA ha hb=>by
 obtain⟨⟨as,r1⟩,c1⟩:=ha.reads hR.kB hx;obtain⟨⟨bs,r2⟩,c2⟩:=hb.reads hR.kB (show flat (.list l)=true from hl);have hu:=hA.un;have hc:cLine=9900:=rfl;have:=min_le_right (depthAll (dU l)) (toPy x).depth;exact says hR fun Q E q=>SeqAt.in_list_reads r2 r1 c2 c1 (by lia) (by rw[qN];exact q)
theorem xo:cD .NotIn x (.list l) (!vV l x):=fun X B φ σ s a b r hR hA ha hb=>by
 obtain⟨⟨as,r1⟩,c1⟩:=ha.reads hR.kB hx;obtain⟨⟨bs,r2⟩,c2⟩:=hb.reads hR.kB (show flat (.list l)=true from hl);have hu:=hA.un;have hc:cLine=9900:=rfl;have:=min_le_right (depthAll (dU l)) (toPy x).depth;exact says hR fun Q E q=>SeqAt.notIn_list_reads r2 r1 c2 c1 (by lia) (by rw[qN];exact q)
theorem HA:cD .In x (.tup l) (vV l x):=fun X B φ σ s a b r hR hA ha hb=>by
 obtain⟨⟨as,r1⟩,c1⟩:=ha.reads hR.kB hx;obtain⟨⟨bs,r2⟩,c2⟩:=hb.reads hR.kB (show flat (.tup l)=true from hl);have hu:=hA.un;have hc:cLine=9900:=rfl;have:=min_le_right (depthAll (dU l)) (toPy x).depth;exact says hR fun Q E q=>SeqAt.in_tuple_reads r2 r1 c2 c1 (by lia) (by rw[qN];exact q)
theorem HB:cD .NotIn x (.tup l) (!vV l x):=fun X B φ σ s a b r hR hA ha hb=>by
 obtain⟨⟨as,r1⟩,c1⟩:=ha.reads hR.kB hx;obtain⟨⟨bs,r2⟩,c2⟩:=hb.reads hR.kB (show flat (.tup l)=true from hl);have hu:=hA.un;have hc:cLine=9900:=rfl;have:=min_le_right (depthAll (dU l)) (toPy x).depth;exact says hR fun Q E q=>SeqAt.notIn_tuple_reads r2 r1 c2 c1 (by lia) (by rw[qN];exact q)
end
theorem CP{x:P}:cD .Is x .none (isNone x):=fun X B φ σ s a b r hR hA ha hb=>by refine Is.MI hb ?_;refine EL (Kp ha) ?_;exact says hR fun Q E q=>is_none q
section
set_option backward.match.sparseCases true
def cP(x:P):ai→M V:=fun U σ Q U=>Q (.p x) σ
def aa(i:Nat):ai→M V:=fun le σ Q U=>(bW le i).elim False fun v=>Q v σ
abbrev kZ(Q:MQ V)(σ:LM):Bool→Prop:=fun z=>Q (.p (.bool z)) σ
abbrev V5(op:CmpOp)(a:V)(Q:MQ V):MQ V:=fun b σ=>aF op σ a b (kZ Q σ)
abbrev Ym(op:CmpOp)(r:ai→M V)(le:ai)(Q:MQ V)(E:ME):MQ V:=fun a σ=>r le σ (V5 op a Q) E
def aQ(op:CmpOp)(l r:ai→M V):ai→M V:=fun le σ Q E=>l le σ (Ym op r le Q E) E
noncomputable def boolOf:V→Option Bool
 | .p (.bool b)=>some b
 |_=>none
noncomputable def intOf:V→Option Int
 | .p (.int i)=>some i
 |_=>none
def xq(v:V)(Q:Bool→Prop):Prop:=(boolOf v).elim False Q
def TZ(v:V)(Q:Int→Prop):Prop:=(intOf v).elim False Q
theorem elim_some{α:Type}{o:Option α}{Q:α→Prop}(z:o.elim False Q):∃a,o=some a∧Q a:=by
 induction o with
 |none=>exact z.elim
 |some a=>exact⟨a,rfl,z⟩
theorem Kr{v:V}{b:Bool}(h:boolOf v=some b):v= .p (.bool b):=by
 cases v with
 |ref n=>exact Qm h
 |p x=>cases x with
  |bool i=>exact congrArg (fun i=>V.p (.bool i)) (Option.some.inj h)
  |_=>exact Qm h
theorem MT{v:V}{b:Int}(h:intOf v=some b):v= .p (.int b):=by
 cases v with
 |ref n=>exact Qm h
 |p x=>cases x with
  |int i=>exact congrArg (fun i=>V.p (.int i)) (Option.some.inj h)
  |_=>exact Qm h
theorem xq.get{v:V}{Q:Bool→Prop}(z:xq v Q):∃b,v= .p (.bool b)∧Q b:=(elim_some z).casesOn fun b hh=>hh.casesOn fun e q=>⟨b,Kr e,q⟩
theorem TZ.get{v:V}{Q:Int→Prop}(z:TZ v Q):∃b,v= .p (.int b)∧Q b:=(elim_some z).casesOn fun b hh=>hh.casesOn fun e q=>⟨b,MT e,q⟩
structure aT (c:Bool) (A B:Prop):Prop where
 t:c=true→A
 f:c=false→B
abbrev V6(Q:MQ Bool):MQ V:=fun v σ=>xq v fun b=>Q b σ
def au(c:ai→M V):ai→M Bool:=fun le σ Q E=>c le σ (V6 Q) E
abbrev Yn(Q:MQ Bool):MQ Bool:=fun b σ=>Q (!b) σ
def e7(c:ai→M Bool):ai→M Bool:=fun le σ Q E=>c le σ (Yn Q) E
abbrev V7(Q:MQ V):MQ V:=fun v σ=>xq v fun b=>Q (.p (.bool (!b))) σ
def MU(c:ai→M V):ai→M V:=fun le σ Q E=>c le σ (V7 Q) E
def nN(c:ai→M V):ai→M V:=fun le σ Q E=>c le σ (fun v σ=>TZ v fun i=>Q (.p (.int (-i))) σ) E
abbrev V8{α:Type}(a b:ai→M α)(le:ai)(Q:MQ α)(E:ME):MQ Bool:=fun c σ=>aT c (a le σ Q E) (b le σ Q E)
def jI{α:Type}(t:ai→M Bool)(a b:ai→M α):ai→M α:=fun le σ Q E=>t le σ (V8 a b le Q E) E
abbrev Yo(b:ai→M Bool)(le:ai)(Q:MQ Bool)(E:ME):MQ Bool:=fun c σ=>aT c (b le σ Q E) (Q false σ)
def nO(a b:ai→M Bool):ai→M Bool:=fun le σ Q E=>a le σ (Yo b le Q E) E
abbrev ZS(b:ai→M Bool)(le:ai)(Q:MQ Bool)(E:ME):MQ Bool:=fun c σ=>aT c (Q true σ) (b le σ Q E)
def CQ(a b:ai→M Bool):ai→M Bool:=fun le σ Q E=>a le σ (ZS b le Q E) E
abbrev V9(b:ai→M V)(le:ai)(Q:MQ V)(E:ME):MQ V:=fun v σ=>xq v fun c=>aT c (b le σ Q E) (Q v σ)
def r9(a b:ai→M V):ai→M V:=fun le σ Q E=>a le σ (V9 b le Q E) E
abbrev Yp(b:ai→M V)(le:ai)(Q:MQ V)(E:ME):MQ V:=fun v σ=>xq v fun c=>aT c (Q v σ) (b le σ Q E)
def Qs(a b:ai→M V):ai→M V:=fun le σ Q E=>a le σ (Yp b le Q E) E
section
variable {X:Fx}{en:Env}{r:Nat}
theorem Ev.int{i:Int}{k pos}:Ev X en (.Constant (.int i) k pos) (cP (.int i)):=fun U U U U s hR U=>aE.cC hR (fun U U q=>wpAny_Constant_int q) (.int i s.toks)
theorem Ev.str{x:Str}{k pos}(h:PyData.strOk x=true):Ev X en (.Constant (.str x) k pos) (cP (.str x)):=fun U U U U s hR U=>aE.cC hR (fun U U q=>wpAny_Constant_str q) (.str x s.toks h)
theorem Ev.bool{b:Bool}{k pos}:Ev X en (.Constant (.bool b) k pos) (cP (.bool b)):=fun U U U U s hR U=>aE.cC (tk:=s.toks) hR (fun U U q=>wpAny_Constant_bool q) (.bool b)
theorem Ev.Wa{k pos}:Ev X en (.Constant .none k pos) (cP .none):=fun U U U U s hR U=>aE.cC (tk:=s.toks) hR (fun U U q=>wpAny_Constant_none q) .none
theorem Ev.var{x:Str}{pos}(hk:en.scope.kind= .function)(hi:idOf x<ids.length)(hd:(x ==("__debug__" :Str))=false)(hc:(x ==("__classdict__" :Str))=false):Ev X en (.Name x pos) (aa (idOf x)):=
 fun B φ σ le s hR hL Q E z=>by
 obtain⟨v,q,z⟩:=elim_some z;rcases hL.2 x v q hi with ⟨k,m,val,hn,hv,hr⟩|⟨k,c,val,hcl,hv,hr⟩
 ·exact aE.cC (tk:=s.toks) hR (fun Q E q=>wpAny_Name (wpAny_loadName_local hk k hn hv q) hd) hr _ _ z
 ·exact aE.cC (tk:=s.toks) hR (fun Q E q=>wpAny_Name (k.elim (fun k=>wpAny_loadName_cell hk k hcl hv q) fun k=>wpAny_loadName_free hk k hcl hv q hc) hd) hr _ _ z
theorem lB{B φ σ s}{x:Str}{val:Value}{Q:Value→Shared→Prop}{E}(hE:EnOK X en r)(hR:Rel X B φ σ s)(hx:en.kindOf x=some .globalImplicit)(e:nsIn X.K mainGlobals x=some (some val))(hd:(x ==("__debug__" :Str))=false){pos}(q:Q val s):
  wpAny X.M X.A (eval (.Name x pos) en) Q E s:=by
 obtain⟨p,loose,mg,mb,T⟩:=hR.gl.top;exact Name_function_global hE.kind hx (loadGlobal_global ((by rw[hE.Qq];exact T.g.keeps fun b o z=>hR.kB b o (hR.kH b o z)):s.heap.Ns en.globals mg) (mg_of hR.gl.K T.g e) q) hd
theorem Ev.glob{x:Str}{pos}{val:Value}{p:P}(hE:EnOK X en r)(hx:en.kindOf x=some .globalImplicit)(e:nsIn X.K mainGlobals x=some (some val))(hp:∀B:Fz,(∀b o,X.H0.get? b=some o→B b=some o)→Is B val p)
  (hd:(x ==("__debug__" :Str))=false):Ev X en (.Name x pos) (cP p):=by
 intro B φ σ le s hR _;exact aE.cC (tk:=s.toks) hR (fun Q E q=>lB hE hR hx e hd q) (hp B hR.kH)
theorem Ev.bin{op:Operator}{a b:Expr}{ca cb:ai→M V}{pos}(hE:EnOK X en r)(h1:Ev X en a ca)(h2:Ev X en b cb):Ev X en (.BinOp a op b pos) (aJ op ca cb):=by
 intro B φ σ le s hR hL;refine ER (arm_eval_BinOp ..) ?_;exact(h1 B φ σ le s hR hL).bind fun v br val aZ bA aS hR₁ hS₁ hV₁=>
  (aE.holding (h2 bA aS br le aZ hR₁ (hL.step hS₁ hE.mem))).bind fun v' dg mi s₂ B₂ φ₂ hR₂ hS₂ hV₂=>
   aE.standAt (aE.operate fun Q E hh=>hh.casesOn fun x y z e1 e2 e3 q=>e3 hR₂ (hR₂.sees (hV₁.mono hS₂.bB hS₂.pre) e1) (hR₂.sees hV₂ e2) Q E q)
theorem yY{op:CmpOp}{v v':V}{val mi:Value}{B φ σ s}(hE:EnOK X en r)(hR:Rel X B φ σ s)(hV:dM B φ val v)(Yq:dM B φ mi v'):aE X B φ RV (compareOp op val mi) (fun Q U=>aF op σ v v' fun z=>Q (.p (.bool z)) σ) s:=
 fun Q E hh=>hh.casesOn fun x y z e1 e2 e3 q=>e3 hR hE.room (hR.sees hV e1) (hR.sees Yq e2) Q E q
theorem Ev.cmp{op:CmpOp}{a b:Expr}{ca cb:ai→M V}{pos}(hE:EnOK X en r)(h1:Ev X en a ca)(h2:Ev X en b cb)(hm:behindInMarks op b=false):Ev X en (.Compare a [op] [b] pos) (aQ op ca cb):=by
 intro B φ σ le s hR hL;refine ER (eval_Compare1 ..) (ER (markedBehindIn_of_false hm ..) ?_);exact(h1 B φ σ le s hR hL).bind fun v br val aZ bA aS hR₁ hS₁ hV₁=>
  (aE.holding (h2 bA aS br le aZ hR₁ (hL.step hS₁ hE.mem))).bind fun v' dg mi s₂ B₂ φ₂ hR₂ hS₂ hV₂=>
   aE.standAt (aE.operate (yY hE hR₂ (hV₁.mono hS₂.bB hS₂.pre) hV₂))
theorem lC{B φ σ s}{v:V}{val:Value}(hR:Rel X B φ σ s)(hV:dM B φ val v):aE X B φ RB (truthy val) (fun Q U=>xq v fun b=>Q b σ) s:=
 fun Q E z=>by obtain⟨b,e,q⟩:=z.get;subst e;refine Is.I9 hV ?_;exact aE.cC (tk:=s.toks) hR (fun Q E q=>wpAny_truthy_bool q) rfl Q E q
theorem Tr.of{e:Expr}{c:ai→M V}(h:Ev X en e c)(he:isTrue e en (eval e en)=(do let v ←eval e en;standAt e.pos;holding [v] (truthy v))):Tr X en e (au c):=by
 intro B φ σ le s hR hL;refine ER he ?_;exact(h B φ σ le s hR hL).bind fun v br val aZ bA aS hR₁ hS₁ hV₁=>aE.standAt (aE.holding (lC hR₁ hV₁))
theorem Tr.cmp{op:CmpOp}{a b:Expr}{ca cb:ai→M V}{pos}(hE:EnOK X en r)(h1:Ev X en a ca)(h2:Ev X en b cb)(hm:behindInMarks op b=false):Tr X en (.Compare a [op] [b] pos) (au (aQ op ca cb)):=by
 intro B φ σ le s hR hL;have e:isTrue (.Compare a [op] [b] pos) en (eval (.Compare a [op] [b] pos) en)=(do let c ←eval (.Compare a [op] [b] pos) en;holding [c] (truthy c)):=by rw[isTrue_Compare1,eval_Compare1];simp only[bind_assoc]
 refine ER e ?_;exact(Ev.cmp hE h1 h2 hm B φ σ le s hR hL).bind fun v br val aZ bA aS hR₁ hS₁ hV₁=>aE.holding (lC hR₁ hV₁)
theorem Tr.not{e:Expr}{c:ai→M Bool}{pos}(h:Tr X en e c):Tr X en (.UnaryOp .Not e pos) (e7 c):=by
 intro B φ σ le s hR hL;refine ER (arm_isTrue_UnaryOp ..) ?_;exact(h B φ σ le s hR hL).bind fun b br b' aZ bA aS hR₁ hS₁ hV₁=>by subst hV₁;exact aE.pure hR₁ rfl
theorem Tr.and{e:Expr}{es:List Expr}{c c':ai→M Bool}{pos}(hE:EnOK X en r)(h:Tr X en e c)(h':Tr X en (.BoolOp .And es pos) c'):Tr X en (.BoolOp .And (e::es) pos) (nO c c'):=by
 intro B φ σ le s hR hL;have q:isTrue (.BoolOp .And (e::es) pos) en (eval (.BoolOp .And (e::es) pos) en)=(isTrue e en (eval e en) >>=fun b=>if b then allTrue .And es en else pure false):=by
  rw[arm_isTrue_BoolOp];show(do match BoolOp.And,←isTrue e en (eval e en)with| .And,false=>pure false| .Or,true=>pure true|_,_=>allTrue .And es en)=_
  congr 1;funext b;induction b<;>rfl
 refine ER q ?_;refine(h B φ σ le s hR hL).bind fun b br b' aZ bA aS hR₁ hS₁ hV₁=>?_;cases hV₁;cases b with
 |false=>exact fun Q E z=>wpAny_pure ⟨_,_,_,_,hR₁,Step.refl ..,rfl,z.f rfl⟩
 |true=>exact fun Q E z=>(arm_isTrue_BoolOp .. ▸h' bA aS br le aZ hR₁ (hL.step hS₁ hE.mem)) Q E (z.t rfl)
theorem Tr.bY{e:Expr}{c:ai→M Bool}{pos}(h:Tr X en e c):Tr X en (.BoolOp .And [e] pos) c:=by
 intro B φ σ le s hR hL;have q:isTrue (.BoolOp .And [e] pos) en (eval (.BoolOp .And [e] pos) en)=isTrue e en (eval e en):=by
  rw[arm_isTrue_BoolOp];show(do match BoolOp.And,←isTrue e en (eval e en)with| .And,false=>pure false| .Or,true=>pure true|_,_=>pure true)=_
  conv=>rhs;rw[←bind_pure (isTrue e en (eval e en))]
  congr 1;funext b;induction b<;>rfl
 refine ER q ?_;exact h B φ σ le s hR hL
theorem Tr.or{e:Expr}{es:List Expr}{c c':ai→M Bool}{pos}(hE:EnOK X en r)(h:Tr X en e c)(h':Tr X en (.BoolOp .Or es pos) c'):Tr X en (.BoolOp .Or (e::es) pos) (CQ c c'):=by
 intro B φ σ le s hR hL;have q:isTrue (.BoolOp .Or (e::es) pos) en (eval (.BoolOp .Or (e::es) pos) en)=(isTrue e en (eval e en) >>=fun b=>if b then pure true else allTrue .Or es en):=by
  rw[arm_isTrue_BoolOp];show(do match BoolOp.Or,←isTrue e en (eval e en)with| .And,false=>pure false| .Or,true=>pure true|_,_=>allTrue .Or es en)=_
  congr 1;funext b;induction b<;>rfl
 refine ER q ?_;refine(h B φ σ le s hR hL).bind fun b br b' aZ bA aS hR₁ hS₁ hV₁=>?_;cases hV₁;cases b with
 |true=>exact fun Q E z=>wpAny_pure ⟨_,_,_,_,hR₁,Step.refl ..,rfl,z.t rfl⟩
 |false=>exact fun Q E z=>(arm_isTrue_BoolOp .. ▸h' bA aS br le aZ hR₁ (hL.step hS₁ hE.mem)) Q E (z.f rfl)
theorem Tr.ZT{e:Expr}{c:ai→M Bool}{pos}(h:Tr X en e c):Tr X en (.BoolOp .Or [e] pos) c:=by
 intro B φ σ le s hR hL;have q:isTrue (.BoolOp .Or [e] pos) en (eval (.BoolOp .Or [e] pos) en)=isTrue e en (eval e en):=by
  rw[arm_isTrue_BoolOp];show(do match BoolOp.Or,←isTrue e en (eval e en)with| .And,false=>pure false| .Or,true=>pure true|_,_=>pure false)=_
  conv=>rhs;rw[←bind_pure (isTrue e en (eval e en))]
  congr 1;funext b;induction b<;>rfl
 refine ER q ?_;exact h B φ σ le s hR hL
theorem Ev.ite{t a b:Expr}{ct:ai→M Bool}{ca cb:ai→M V}{pos}(hE:EnOK X en r)(h:Tr X en t ct)(h1:Ev X en a ca)(h2:Ev X en b cb):Ev X en (.IfExp t a b pos) (jI ct ca cb):=by
 intro B φ σ le s hR hL;refine ER (arm_eval_IfExp ..) ?_;refine(h B φ σ le s hR hL).bind fun c br c' aZ bA aS hR₁ hS₁ hV₁=>?_;cases hV₁;have hL':=hL.step hS₁ hE.mem;induction c with
 |true=>exact fun Q E z=>h1 bA aS br le aZ hR₁ hL' Q E (z.t rfl)
 |false=>exact fun Q E z=>h2 bA aS br le aZ hR₁ hL' Q E (z.f rfl)
theorem Ev.Yr{e:Expr}{c:ai→M V}{pos}(h:Ev X en e c):Ev X en (.UnaryOp .Not e pos) (MU c):=by
 intro B φ σ le s hR hL;refine ER (arm_eval_UnaryOp ..) ?_;refine(h B φ σ le s hR hL).bind fun v br val aZ bA aS hR₁ hS₁ hV₁=>aE.standAt (aE.holding ?_);show aE _ _ _ _ (holding [val] (truthy val >>=fun b=>pure (Value.bool (!b)))) _ _;exact aE.holding fun Q E z=>(lC hR₁ hV₁).bind (R':=RV) (f:=fun b σ Q U=>Q (.p (.bool (!b))) σ) (fun b dg b' s₂ B₂ φ₂ hR₂ hS₂ hV₂=>by subst hV₂;exact aE.pure hR₂ (.bool _)) Q E z
theorem Ev.neg{e:Expr}{c:ai→M V}{pos}(h:Ev X en e c):Ev X en (.UnaryOp .USub e pos) (nN c):=by
 intro B φ σ le s hR hL;refine ER (arm_eval_UnaryOp ..) ?_;exact(h B φ σ le s hR hL).bind fun v br val aZ bA aS hR₁ hS₁ hV₁=>aE.standAt (aE.holding fun Q E z=>by
  obtain⟨i,e,q⟩:=z.get;subst e;refine Is.CI hV₁ fun U=>?_;exact aE.cC hR₁ (fun Q E q=>PySem.P.neg_int q) (.int _ _) Q E q)
theorem yZ{e:Expr}{c:ai→M V}{pos}{B φ σ s}{le:ai}(hE:EnOK X en r)(h:Ev X en e c)(hR:Rel X B φ σ s)(hL:Loc B φ en le s.heap){f:Value→Bool→Sem Value}{K:V→Bool→M V}
  (hk:∀B φ σ s v val b,Rel X B φ σ s→Loc B φ en le s.heap→dM B φ val v→aE X B φ RV (f val b) (K v b σ) s):
  aE X B φ RV (eval e en >>=fun v=>standAt pos >>=fun U=>holding [v] (truthy v) >>=f v) (fun Q E=>c le σ (fun v σ=>xq v fun b=>K v b σ Q E) E) s:=by
 refine(h B φ σ le s hR hL).bind fun v br val aZ bA aS hR₁ hS₁ hV₁=>aE.standAt fun Q E z=>?_;refine(aE.holding (lC hR₁ hV₁)).bind (R':=RV) (f:=K v) (fun b dg b' s₂ B₂ φ₂ hR₂ hS₂ hV₂=>?_) Q E z;subst hV₂;exact hk _ _ _ _ _ _ _ hR₂ (hL.step (hS₁.trans hS₂) hE.mem) (hV₁.mono hS₂.bB hS₂.pre)
theorem Ev.and{e:Expr}{e':Expr}{es:List Expr}{c c':ai→M V}{pos}(hE:EnOK X en r)(h:Ev X en e c)(h':Ev X en (.BoolOp .And (e'::es) pos) c'):Ev X en (.BoolOp .And (e::e'::es) pos) (r9 c c'):=by
 intro B φ σ le s hR hL;refine ER (arm_eval_BoolOp ..) ?_;refine yZ hE h hR hL (f:=fun v t=>match BoolOp.And,t with| .And,false| .Or,true=>pure v|_,_=>boolOp pos .And (evalEach (e'::es) en)) fun B φ σ s v val b hR hL hV=>?_;cases b with
 |false=>exact(aE.pure hR hV).CM fun U U z=>z.f rfl
 |true=>exact(show aE X B φ RV (boolOp pos .And (evalEach (e'::es) en)) _ s from arm_eval_BoolOp .. ▸h' B φ σ le s hR hL).CM fun U U z=>z.t rfl
theorem Ev.or{e:Expr}{e':Expr}{es:List Expr}{c c':ai→M V}{pos}(hE:EnOK X en r)(h:Ev X en e c)(h':Ev X en (.BoolOp .Or (e'::es) pos) c'):Ev X en (.BoolOp .Or (e::e'::es) pos) (Qs c c'):=by
 intro B φ σ le s hR hL;refine ER (arm_eval_BoolOp ..) ?_;refine yZ hE h hR hL (f:=fun v t=>match BoolOp.Or,t with| .And,false| .Or,true=>pure v|_,_=>boolOp pos .Or (evalEach (e'::es) en)) fun B φ σ s v val b hR hL hV=>?_;cases b with
 |true=>exact(aE.pure hR hV).CM fun U U z=>z.t rfl
 |false=>exact(show aE X B φ RV (boolOp pos .Or (evalEach (e'::es) en)) _ s from arm_eval_BoolOp .. ▸h' B φ σ le s hR hL).CM fun U U z=>z.f rfl
theorem Ev.Wb{op:BoolOp}{e:Expr}{c:ai→M V}{pos}(h:Ev X en e c):Ev X en (.BoolOp op [e] pos) c:=by
 intro B φ σ le s hR hL;refine ER (arm_eval_BoolOp ..) ?_;exact h B φ σ le s hR hL
end
end
theorem y9:∀i:Fin ids.length,idOf (ident i.1)=i.1:=by decide+kernel
theorem za{i:Nat}(h:i<ids.length):idOf (ident i)=i:=y9 ⟨i,h⟩
theorem BH{i j:Nat}(hi:i<ids.length)(hj:j<ids.length)(e:ident i=ident j):i=j:=EL (za hi) (ER e (ER (za hj) rfl))
theorem HC:(CH.all fun p=>p.2.all fun x=>decide (MH.idxOf x<ids.length))=true:=by decide+kernel
theorem zb{c i:Nat}(h:Hp c i=true):i<ids.length:=by
 unfold Hp at h;obtain⟨p,hp,h⟩:=any_eq_true.mp h;simp only[and_eq_true,List.contains_iff_mem,mem_map]at h;obtain⟨_,x,hx,rfl⟩:=h;have:=all_eq_true.mp (all_eq_true.mp HC p hp) x hx
 simpa using this
theorem qL.noRef{B:Fz}{φ:AA}{c:Nat}{es:List DictEntry}{fs:List (Nat×V)}(h:qL B φ c es fs):es.any (·.refKey)=false:=by
 induction h with
 |nil=>rfl
 |cons _ _ _ ih=>refine ER any_cons (ER ih ?_);rfl
theorem HD{x:Str}{t:Tok}:Value.isStr (.str x t) x=true:=show(x ==x)=true from beq_self_eq_true x
theorem BI{i j:Nat}{t:Tok}(hi:i<ids.length)(hj:j<ids.length)(q:j≠i):Value.isStr (.str (ident j) t) (ident i)=false:=show((ident j) ==(ident i))=false from beq_eq_false_iff_ne.mpr fun e=>q (BH hj hi e)
theorem vX{α:Type}{i n:Nat}{v:α}{r:List (Nat×α)}:bW ((i,v)::r) n=if i=n then some v else bW r n:=rfl
theorem qL.findS{B:Fz}{φ:AA}{c:Nat}{es:List DictEntry}{fs:List (Nat×V)}(h:qL B φ c es fs){i:Nat}(hi:i<ids.length){v:V}(e:bW fs i=some v):∃e,es.find? (·.key.isStr (ident i))=some e∧dM B φ e.val v:=by
 induction h with
 |nil=>contradiction
 |@cons _ _ j _ _ _ _ hj hv _ ih=>
  rw[List.find?_cons];rw[vX]at e;by_cases q:j=i
  ·rw[if_pos q]at e;obtain rfl:=Option.some.inj e;subst q;refine ER HD ?_;exact⟨_,rfl,hv⟩
  ·rw[if_neg q]at e;refine ER (BI hi (zb hj) q) ?_;exact ih e
theorem qL.Wc{B:Fz}{φ:AA}{c:Nat}{es:List DictEntry}{fs:List (Nat×V)}(h:qL B φ c es fs){i:Nat}(hi:i<ids.length)(e:bW fs i=none):es.find? (·.key.isStr (ident i))=none:=by
 induction h with
 |nil=>rfl
 |@cons _ _ j _ _ _ _ hj hv _ ih=>
  rw[List.find?_cons];rw[vX]at e;by_cases q:j=i
  ·rw[if_pos q]at e;contradiction
  ·rw[if_neg q]at e;refine ER (BI hi (zb hj) q) ?_;exact ih e
theorem qL.We{B:Fz}{φ:AA}{c:Nat}{es:List DictEntry}{fs:List (Nat×V)}(h:qL B φ c es fs){i:Nat}(hi:i<ids.length){v:V}(e:bW fs i=some v):∃val,getL (ident i) es=some (some val)∧dM B φ val v:=by
 obtain⟨d,h1,h2⟩:=h.findS hi e;exact⟨_,by unfold PySem.W.getL;exact ER h1 rfl,h2⟩
theorem qL.Wf{B:Fz}{φ:AA}{c:Nat}{es:List DictEntry}{fs:List (Nat×V)}(h:qL B φ c es fs){i:Nat}(hi:i<ids.length)(e:bW fs i=none):getL (ident i) es=some none:=by unfold PySem.W.getL;refine ER (h.Wc hi e) ?_;dsimp only;refine ER h.noRef ?_;rfl
theorem oR.ZU{B:Fz}(φ:AA){c:Nat}{es:List DictEntry}{fs:List (Nat×P)}(h:oR B c es fs):qL B φ c es (fs.map fun f=>(f.1,V.p f.2)):=
 @oR.rec B (fun U U U=>True) (fun U U U=>True) (fun c es fs U=>qL B φ c es (fs.map fun f=>(f.1,V.p f.2))) trivial (fun U=>trivial) (fun U U=>trivial) (fun U U U=>trivial) (fun U U U=>trivial) (fun U U U=>trivial) (fun U U U U=>trivial) trivial (fun U U U U=>trivial) .nil (fun {c h t i v x es fs} ok hv U U ih=>.cons (x:=.p x) ok hv ih) c es fs h
noncomputable def MV:Option MO→Option (Nat×List (Nat×V))
 |some (.inst c fs)=>some (c,fs)
 |_=>none
def CR(σ:LM):V→Option (Nat×List (Nat×V))
 | .p (.inst c fs)=>some (c,fs.map fun f=>(f.1,V.p f.2))
 | .ref n=>MV σ[n]?
 |_=>none
theorem Rel.inst{X:Fx}{B:Fz}{φ:AA}{σ:LM}{s:Shared}(R:Rel X B φ σ s){val:Value}{v:V}{c:Nat}{fs:List (Nat×V)}(h:dM B φ val v)(e:CR σ v=some (c,fs)):
  ∃a dx es n,val= .ref a∧s.heap.get? a=some (instObj c dx)∧s.heap.get? dx=some (dictOf es n)∧qL B φ c es fs:=by
 induction v with
 |p y=>cases y with
  |inst c' fs'=>
   cases e;cases h with
   |inst h1 h2 h3=>exact⟨_,_,_,_,rfl,R.kB _ _ h1,R.kB _ _ h2,oR.ZU φ h3⟩
  |_=>contradiction
 |ref n=>
  obtain⟨ad,fW,rfl⟩:=h;have e:MV σ[n]?=some (c,fs):=e;generalize dF:σ[n]?=gg;induction gg with
  |none=>replace e:=dF▸e;contradiction
  |some o=>
   rw[dF]at e;induction o with
   |inst c' fs'=>
    cases e;obtain⟨h1,_,_,es,n,h2,h3⟩:=R.objs _ ad _ fW dF;exact⟨_,_,_,_,rfl,h1,h2,h3⟩
   |_=>contradiction
theorem qO{h:Heap}{a dx c:Addr}{es:List DictEntry}{n:Nat}(h1:h.get? a=some (instObj c dx))(h2:h.get? dx=some (dictOf es n)):InstAt h a (instObj c dx) c (some (dictOf es n)):=⟨h1,rfl,rfl,h2⟩
inductive bR (i:Nat) (σ:LM) (v:V) (Q:MQ V):Prop|mk (k:Nat) (fs:List (Nat×V)) (w:V) (e1:CR σ v=some (k,fs)) (e2:bW fs i=some w) (q:Q w σ)
abbrev Wg(i:Nat)(Q:MQ V):MQ V:=fun v σ=>bR i σ v Q
def bM(i:Nat)(c:ai→M V):ai→M V:=fun le σ Q E=>c le σ (Wg i Q) E
theorem dM.handed{B:Fz}{φ:AA}{val:Value}{v:V}(h:dM B φ val v):handedIn val=true:=by
 induction v with
 |p x=>cases h<;>rfl
 |ref n=>obtain⟨_,_,rfl⟩:=h;rfl
theorem qL.Hp{B:Fz}{φ:AA}{c:Nat}{es:List DictEntry}{fs:List (Nat×V)}(h:qL B φ c es fs){i:Nat}{v:V}(e:bW fs i=some v):Internal.Hp c i=true:=by
 induction h with
 |nil=>contradiction
 |@cons _ _ j _ _ _ _ hj _ _ ih=>
  rw[vX]at e;by_cases q:j=i
  ·exact q▸hj
  ·rw[if_neg q]at e;exact ih e
def jU(o:Expr):Bool:=CF o (fun f es ks p=>ja f (fun id q=>match es,ks with
 |[],[]=>id !=("super" :Str)
 |_,_=>true) fun e=>true) fun e=>true
theorem iq{o:Expr}{attr:Str}{env:Env}{t:Sem Value}(h:jU o=true):attributeBase o attr env t=t:=by
 cases o with
 |Call f es ks p=>cases f with
  |Name id q=>induction es with
   |nil=>induction ks with
    |nil=>exact if_pos (by rw[show(id !=("super" :Str))=true from h];rfl)
    |cons=>rfl
   |cons=>rfl
  |_=>rfl
 |_=>rfl
section
variable {X:Fx}{en:Env}{r:Nat}
theorem Gl.MW{X:Fx}(g:Gl X){c i:Nat}(h:Hp c i=true):plainGet X.K c (ident i)=true∧hasDictIn X.K c=true∧findIn X.K (.ref c) (ident i)=some none∧findIn X.K (.ref c) "__setattr__" =some (some (.builtin "object.__setattr__"))∧plainOver X.K c=true∧takerIn X.K c (ident i)=some none:=by
 have:=(g.attr c i h).2
 simp only[CJ,and_eq_true,beq_iff_eq]at this;exact⟨this.1.1.1.1.1,this.1.1.1.1.2,this.1.1.1.2,this.1.1.2,this.1.2,this.2⟩
theorem Rel.Ks{B φ σ s}(R:Rel X B φ σ s):X.K.In s.heap:=R.gl.K.keeps fun b o e=>R.kB b o (R.kH b o e)
theorem Ev.attr{o:Expr}{x:Str}{c:ai→M V}{pos}(hx:idOf x<ids.length)(hs:jU o=true)(h:Ev X en o c):Ev X en (.Attribute o x pos) (bM (idOf x) c):=by
 intro B φ σ le s hR hL;refine ER (arm_eval_Attribute ..) (ER (iq hs ..) ?_);refine(h B φ σ le s hR hL).bind fun v br val aZ bA aS hR₁ hS₁ hV₁=>aE.standAt fun Q E hh=>hh.casesOn fun c' fs w e1 e2 z=>?_;obtain⟨a,dx,es,n,rfl,h1,h2,h3⟩:=hR₁.inst hV₁ e1;obtain⟨val,g1,g2⟩:=h3.We hx e2;rw[gu hx]at g1;obtain⟨p1,p2,p3,_⟩:=hR₁.gl.MW (h3.Hp e2);rw[gu hx]at p1 p3;exact aE.at (aE.cC (tk:=aZ.toks+1) hR₁ (fun Q E q=>wpAny_bind (wpAny_holding (get_value hR₁.Ks (qO h1 h2) (plainGet_of p1).1 (findObj_own (K:=X.K) (C:=c') (od:=dictOf es n) (attr:=Option.none) p2 p3 rfl (by refine ER (lookIn_dict ..) ?_;exact g1)) g2.handed (wpAny_bind (wpAny_letTemporaryGo (wpAny_pure q)))))) g2) z
end
inductive oS (B:Fz) (φ:AA):Lv→List V→Prop
 |nil:oS B φ [] []
 |cons {v:Value} {vs:Lv} {x:V} {l:List V}:dM B φ v x→oS B φ vs l→oS B φ (v::vs) (x::l)
theorem oS.mono{B B':Fz}{φ aP:AA}{vs:Lv}{l:List V}(h:oS B φ vs l)(k:∀b o,B b=some o→B' b=some o)(p:φ <+:aP):oS B' aP vs l:=by
 induction h with
 |nil=>exact .nil
 |cons h _ ih=>exact .cons (h.mono k p) ih
theorem oS.length{B:Fz}{φ:AA}{vs:Lv}{l:List V}(h:oS B φ vs l):vs.length=l.length:=by
 induction h with
 |nil=>rfl
 |cons _ _ ih=>simp[ih]
abbrev ZV:Fz→AA→Heap→Lv→List V→Prop:=fun B φ U vals vs=>oS B φ vals vs
abbrev Wh(v:V)(Q:MQ (List V)):MQ (List V):=fun vs σ=>Q (v::vs) σ
abbrev Ys(c:M (List V))(Q:MQ (List V))(E:ME):MQ V:=fun v σ=>c σ (Wh v Q) E
noncomputable def ow:List (ai→M V)→ai→M (List V)
 |[],_=>fun σ Q U=>Q [] σ
 |c::cs,le=>fun σ Q E=>c le σ (Ys (ow cs le) Q E) E
def vP(X:Fx)(en:Env)(es:List Expr)(cs:List (ai→M V)):Prop:=
 ∀pos B φ σ le s,Rel X B φ σ s→Loc B φ en le s.heap→aE X B φ ZV (spliced (backTo pos (starEach es en))) (ow cs le σ) s
section
variable {X:Fx}{en:Env}{r:Nat}
theorem vP.nil:vP X en [] []:=fun U U U U U U hR U=>aE.pure hR .nil
theorem vP.cons{e:Expr}{es:List Expr}{c:ai→M V}{cs:List (ai→M V)}(hE:EnOK X en r)(h:Ev X en e c)(hs:vP X en es cs)(he:starEach (e::es) en=(false,eval e en)::starEach es en):vP X en (e::es) (c::cs):=by
 intro pos B φ σ le s hR hL;have q:spliced (backTo pos (starEach (e::es) en))=(eval e en >>=fun v=>holding [v] (spliced (backTo pos (starEach es en))) >>=fun vs=>pure (v::vs)):=by
  rw[he];show(do
   let v ←eval e en;let here ←(pure [v]:Sem (Lv))
   return here++(←holding here (spliced (backTo pos (starEach es en)))))=_
  simp only[pure_bind];rfl
 refine ER q ?_;refine(h B φ σ le s hR hL).bind fun v br val aZ bA aS hR₁ hS₁ hV₁=>?_;refine(aE.holding (hs pos bA aS br le aZ hR₁ (hL.step hS₁ hE.mem))).bind fun vs dg vals s₂ B₂ φ₂ hR₂ hS₂ hV₂=>?_;exact aE.pure hR₂ (.cons (hV₁.mono hS₂.bB hS₂.pre) hV₂)
end
inductive Ku (k0:Nat) (σ:LM):V→P→LM→Prop
 |p (x:P):Ku k0 σ (.p x) x σ
 |list {n:Nat} {l:Lp} (h:σ[n]?=some (.list l)) (hn:k0≤n):Ku k0 σ (.ref n) (.list l) (σ.set n .gone)
inductive Kv (k0:Nat):LM→List V→Lp→LM→Prop
 |nil {σ:LM}:Kv k0 σ [] [] σ
 |cons {σ br dg:LM} {v:V} {x:P} {vs:List V} {xs:Lp}:Ku k0 σ v x br→Kv k0 br vs xs dg→Kv k0 σ (v::vs) (x::xs) dg
inductive MX (k0:Nat):LM→List (Nat×V)→List (Nat×P)→LM→Prop
 |nil {σ:LM}:MX k0 σ [] [] σ
 |cons {σ br dg:LM} {i:Nat} {v:V} {x:P} {vs:List (Nat×V)} {xs:List (Nat×P)}:Ku k0 σ v x br→MX k0 br vs xs dg→MX k0 σ ((i,v)::vs) ((i,x)::xs) dg
inductive MY (k0:Nat) (σ:LM):V→P→LM→Prop
 |one {v:V} {x:P} {ah:LM} (h:Ku k0 σ v x ah):MY k0 σ v x ah
 |inst {n c:Nat} {fs:List (Nat×V)} {gs:List (Nat×P)} {ah:LM} (h:σ[n]?=some (.inst c fs)) (hn:k0≤n) (r:MX k0 (σ.set n .gone) fs gs ah):MY k0 σ (.ref n) (.inst c gs) ah
section
variable {X:Fx}{B:Fz}{φ:AA}{σ:LM}{s:Shared}
theorem Rel.mL(R:Rel X B φ σ s){a:Addr}{o:Obj}(F1:B a=none)(F2:a∉X.eS)(F3:∀(i:Nat) ad o,φ[i]?=some ad→σ[i]?=some o→a∉fh ad o)(ho:s.heap.get? a=some o):Rel X (jb B a o) φ σ s:=by
 have mono:=cH (o:=o) F1
 refine {R with kH:=fun b x e=>mono _ _ (R.kH b x e),kB:=fun b x e=>?_,objs:=fun i ad o' h1 h2=>(R.objs i ad o' h1 h2).MN mono (prefix_refl _),own:=fun i ad o' b h1 h2 h3=>?_,cA:=fun b hb=>?_}
 ·unfold jb at e;split at e
  ·rename_i q;subst q;obtain rfl:=Option.some.inj e;exact ho
  ·exact R.kB b x e
 ·have z:=R.own i ad o' b h1 h2 h3;refine⟨?_,z.2⟩;unfold jb;rw[if_neg]
  ·exact z.1
  ·rintro rfl;exact F3 i ad o' h1 h2 h3
 ·have z:=R.cA b hb;refine⟨?_,z.2⟩;unfold jb;rw[if_neg]
  ·exact z.1
  ·rintro rfl;exact F2 hb
theorem Step.mL{h:Heap}{a:Addr}{o:Obj}(F1:B a=none)(F2:X.P a=none)(hn:X.n0≤a):Step X B φ h (jb B a o) φ h:=
 {Step.refl X B φ h with bB:=cH F1,fresh:=fun b x e n=>(by
   unfold jb at e;split at e
   ·rename_i q;subst q;exact⟨hn,F2⟩
   ·rw[n]at e;contradiction)}
theorem Rel.kill(R:Rel X B φ σ s){n:Nat}{ad:Addr×Addr}{o:MO}(fW:φ[n]?=some ad)(dF:σ[n]?=some o):Rel X B φ (σ.set n .gone) s:=by
 have:=R.turn (h':=s.heap) (tk:=s.toks) (o':=.gone) fW dF (by intro a h;contradiction) (fun U U=>rfl) trivial
 exact this
theorem Rel.qP(R:Rel X B φ σ s){n:Nat}{ad:Addr×Addr}{o:MO}(fW:φ[n]?=some ad)(dF:σ[n]?=some o){a:Addr}(ha:a∈fh ad o):∀(i:Nat) ic o',φ[i]?=some ic→(σ.set n .gone)[i]?=some o'→a∉fh ic o':=by
 intro i ic o' h1 h2 h3;by_cases q:n=i
 ·subst q;rw[List.getElem?_set_self ((List.getElem?_eq_some_iff.mp dF).1)]at h2;obtain rfl:=Option.some.inj h2;cases h3
 ·rw[getElem?_set_ne q]at h2;exact q (R.inj n i ad o ic o' a fW dF h1 h2 ha h3)
inductive XX (X:Fx) (B:Fz) (φ:AA) (s:Shared) (ah:LM) (R:Fz→Prop):Prop
 |mk (B':Fz) (r:Rel X B' φ ah s) (a:Step X B φ s.heap B' φ s.heap) (q:R B')
theorem Ua{k0:Nat}{v:V}{x:P}{val:Value}{ah:LM}(hk:X.k0≤k0)(R:Rel X B φ σ s)(hV:dM B φ val v)(z:Ku k0 σ v x ah):XX X B φ s ah fun B=>Is B val x:=by
 induction z with
 |p=>exact⟨B,R,Step.refl ..,hV⟩
 |list dF hn=>
  obtain⟨ad,fW,rfl⟩:=hV;obtain⟨vs,m,h1,h2⟩:=R.objs _ ad _ fW dF;have F:=R.own _ ad _ ad.1 fW dF (.head _);exact⟨_,(R.kill fW dF).mL F.1 F.2.2 (R.qP fW dF (.head _)) h1,Step.mL F.1 F.2.1 (R.young _ ad (le_trans hk hn) fW).1,.list (cU ..) (aG.mono (cH F.1) h2)⟩
theorem Ub{k0:Nat}(hk:X.k0≤k0){vs:List V}{xs:Lp}{ah:LM}(z:Kv k0 σ vs xs ah):∀{vals:Lv} {B:Fz},Rel X B φ σ s→oS B φ vals vs→XX X B φ s ah fun B=>aG B vals xs:=by
 induction z with
 |nil=>intro _ B R h;cases h;exact⟨B,R,Step.refl ..,.nil⟩
 |cons z _ ih=>
  intro _ B R h;cases h with|cons hv hr=>
  obtain⟨bA,gh,fZ,V₁⟩:=Ua hk R hv z;obtain⟨B₂,R₂,S₂,V₂⟩:=ih gh (hr.mono fZ.bB (prefix_refl _));exact⟨B₂,R₂,fZ.trans S₂,.cons (Is.mono S₂.bB V₁) V₂⟩
theorem Yt{k0:Nat}(hk:X.k0≤k0){c:Nat}{fs:List (Nat×V)}{gs:List (Nat×P)}{ah:LM}(z:MX k0 σ fs gs ah):∀{es:List DictEntry} {B:Fz},Rel X B φ σ s→qL B φ c es fs→XX X B φ s ah fun B=>oR B c es gs:=by
 induction z with
 |nil=>intro _ B R h;cases h;exact⟨B,R,Step.refl ..,.nil⟩
 |cons z _ ih=>
  intro _ B R h;cases h with|cons ho hv hr=>
  obtain⟨bA,gh,fZ,V₁⟩:=Ua hk R hv z;obtain⟨B₂,R₂,S₂,V₂⟩:=ih gh (hr.mono fZ.bB (prefix_refl _));exact⟨B₂,R₂,fZ.trans S₂,.cons ho (Is.mono S₂.bB V₁) V₂⟩
theorem yK{a b:Addr}{o:Obj}(h:b≠a):jb B a o b=B b:=if_neg h
theorem P7{k0:Nat}{v:V}{x:P}{val:Value}{ah:LM}(hk:X.k0≤k0)(R:Rel X B φ σ s)(hV:dM B φ val v)(z:MY k0 σ v x ah):XX X B φ s ah fun B=>Is B val x:=by
 induction z with
 |one z=>exact Ua hk R hV z
 |@inst n c fs gs _ dF hn r=>
  obtain⟨ad,fW,rfl⟩:=hV;obtain⟨h1,h2,h3,es,m,h4,h5⟩:=R.objs _ ad _ fW dF;have F:=R.own _ ad _ ad.1 fW dF (.head _);have F':=R.own _ ad _ ad.2 fW dF (.tail _ (.head _));have Y:=R.young _ ad (le_trans hk hn) fW;have S2:Step X B φ s.heap _ φ s.heap:=(Step.mL (o:=instObj c ad.2) F.1 F.2.1 Y.1).trans (Step.mL (o:=dictOf es m) ((yK (Ne.symm h2)).trans F'.1) F'.2.1 Y.2);obtain⟨B₂,R₂,S₂,V₂⟩:=Yt hk r (((R.kill fW dF).mL F.1 F.2.2 (R.qP fW dF (.head _)) h1).mL ((yK (Ne.symm h2)).trans F'.1) F'.2.2 (R.qP fW dF (.tail _ (.head _))) h4) (h5.mono S2.bB (prefix_refl _));exact⟨B₂,R₂,S2.trans S₂,.inst (S₂.bB _ _ ((yK h2).trans (cU ..))) (S₂.bB _ _ (cU ..)) V₂⟩
end
inductive az (k0:Nat) (σ:LM) (vs:List V) (Q:Lp→LM→Prop):Prop|mk (xs:Lp) (ah:LM) (z:Kv k0 σ vs xs ah) (hl:xs.length≤bL) (q:Q xs ah)
section
variable {k0:Nat}{σ:LM}{Q:Lp→LM→Prop}{a b c d e:P}
theorem az.p0(q:Q [] σ):az k0 σ [] Q:=.mk _ _ .nil (zero_le _) q
theorem az.p1(q:Q [a] σ):az k0 σ [.p a] Q:=.mk _ _ (.cons (.p _) .nil) (bl rfl) q
theorem az.p2(q:Q [a,b] σ):az k0 σ [.p a,.p b] Q:=.mk _ _ (.cons (.p _) (.cons (.p _) .nil)) (bl rfl) q
theorem az.p3(q:Q [a,b,c] σ):az k0 σ [.p a,.p b,.p c] Q:=.mk _ _ (.cons (.p _) (.cons (.p _) (.cons (.p _) .nil))) (bl rfl) q
theorem az.p4(q:Q [a,b,c,d] σ):az k0 σ [.p a,.p b,.p c,.p d] Q:=.mk _ _ (.cons (.p _) (.cons (.p _) (.cons (.p _) (.cons (.p _) .nil)))) (bl rfl) q
theorem az.p5(q:Q [a,b,c,d,e] σ):az k0 σ [.p a,.p b,.p c,.p d,.p e] Q:=.mk _ _ (.cons (.p _) (.cons (.p _) (.cons (.p _) (.cons (.p _) (.cons (.p _) .nil))))) (bl rfl) q
end
abbrev Wi(Q:MQ V):MQ (Lp):=fun xs σ=>Q (.p (.tup xs)) σ
abbrev MZ(Q:MQ V):MQ (Lp):=fun xs σ=>Q (.p (.list xs)) σ
abbrev Wj(Q:MQ V):MQ (Lp):=fun xs σ=>Q (.ref σ.length) (σ++[.list xs])
abbrev M0(k0:Nat)(Q:MQ (Lp)):MQ (List V):=fun vs σ=>az k0 σ vs Q
def bG(k0:Nat)(cs:List (ai→M V)):ai→M V:=fun le σ Q E=>ow cs le σ (M0 k0 (Wi Q)) E
def aw(k0:Nat)(cs:List (ai→M V)):ai→M V:=fun le σ Q E=>ow cs le σ (M0 k0 (MZ Q)) E
def eE(k0:Nat)(cs:List (ai→M V)):ai→M V:=fun le σ Q E=>ow cs le σ (M0 k0 (Wj Q)) E
section
variable {X:Fx}{en:Env}{r k0:Nat}
theorem aE.then{β α:Type}{B:Fz}{φ:AA}{s:Shared}{R:Fz→AA→Heap→β→α→Prop}{t:Sem β}{c:WP α}{bA:Fz}(S:Step X B φ s.heap bA φ s.heap)(d:aE X bA φ R t c s):aE X B φ R t c s:=
 fun Q E z=>wpAny_mono (d Q E z) (fun U U q=>q.after S) fun U U q=>q.after S
theorem uD{n:Nat}(h:n≤bL):n≤sizeLine:=by rw[sizeLine_eq];unfold bL at h;exact le_trans ‹_› (bl rfl)
theorem jV{B:Fz}{vs:Lv}{l:Lp}(h:aG B vs l)(hl:l.length≤bL):vs.toArray.size≤sizeLine:=by refine ER size_toArray (ER h.length ?_);exact uD hl
theorem Ev.tup{es:List Expr}{cs:List (ai→M V)}{k pos}(hk:X.k0≤k0)(h:vP X en es cs):Ev X en (.Tuple es k pos) (bG k0 cs):=by
 intro B φ σ le s hR hL;refine ER (arm_eval_Tuple ..) ?_;refine aE.standAt ((h pos B φ σ le s hR hL).bind fun vs br vals aZ bA aS hR₁ hS₁ hV₁=>fun Q E hh=>hh.casesOn fun xs dg z hl q=>?_);obtain⟨B₂,R₂,S₂,V₂⟩:=Ub hk z hR₁ hV₁;exact aE.at (aE.then S₂ (aE.yI (tk:=aZ.toks) R₂ (fun Q E q=>wpAny_newObj_type q (jV V₂ hl)) (a8 _ _) (le_refl _) (get?_push_size _ rfl) (.tup (n:=0) (cU ..) (aG.mono (cH (R₂.fresh (le_refl _)).1) V₂)))) q
theorem Ev.Wk{es:List Expr}{cs:List (ai→M V)}{pos}(hk:X.k0≤k0)(h:vP X en es cs):Ev X en (.List es pos) (aw k0 cs):=by
 intro B φ σ le s hR hL;refine ER (arm_eval_List ..) ?_;refine aE.standAt ((h pos B φ σ le s hR hL).bind fun vs br vals aZ bA aS hR₁ hS₁ hV₁=>fun Q E hh=>hh.casesOn fun xs dg z hl q=>?_);obtain⟨B₂,R₂,S₂,V₂⟩:=Ub hk z hR₁ hV₁;exact aE.at (aE.then S₂ (aE.yI (tk:=aZ.toks) R₂ (fun Q E q=>wpAny_newObj_type q (jV V₂ hl)) (a8 _ _) (le_refl _) (get?_push_size _ rfl) (.list (n:=0) (cU ..) (aG.mono (cH (R₂.fresh (le_refl _)).1) V₂)))) q
theorem Ev.SN{es:List Expr}{cs:List (ai→M V)}{pos}(hk:X.k0≤k0)(h:vP X en es cs):Ev X en (.List es pos) (eE k0 cs):=by
 intro B φ σ le s hR hL;refine ER (arm_eval_List ..) ?_;refine aE.standAt ((h pos B φ σ le s hR hL).bind fun vs br vals aZ bA aS hR₁ hS₁ hV₁=>fun Q E hh=>hh.casesOn fun xs dg z hl q=>?_);obtain⟨B₂,R₂,S₂,V₂⟩:=Ub hk z hR₁ hV₁;exact aE.at (aE.then S₂ (aE.makes (tk:=aZ.toks) (ad:=(aZ.heap.objs.size,aZ.heap.objs.size)) (o:=.list xs) R₂ (fun Q E q=>wpAny_newObj_type q (jV V₂ hl)) (a8 _ _) ⟨le_refl _,le_refl _⟩ ⟨vals,0,get?_push_size _ rfl,V₂⟩)) q
end
noncomputable def ir(i:Int):Bool:=decide (-(2 ^ 62)<i)&&decide (i<2 ^ 62)
inductive aW (σ:LM) (v w:V) (K:P→Int→P→Prop) (Q:MQ V):Prop|mk (x:P) (i:Int) (y:P) (e1:view σ v=some x) (e2:w= .p (.int i)) (e3:K x i y) (q:Q (.p y) σ)
theorem aW.pp{σ:LM}{K:P→Int→P→Prop}{Q:MQ V}{x:P}{i:Int}{y:P}(e:K x i y)(q:Q (.p y) σ):aW σ (.p x) (.p (.int i)) K Q:=.mk x i y rfl rfl e q
noncomputable def clip(n:Nat):Option Int→Nat→Nat
 |none,d=>d
 |some i,_=>clipAt n i
def jJ{α:Type}(n:Nat)(l:List α)(lo hi:Option Int):List α:=(l.drop (clip n lo 0)).take (clip n hi n - clip n lo 0)
noncomputable def HE:V→Option (Option Int)
 | .p .none=>some none
 | .p (.int i)=>some (some i)
 |_=>none
def fi:ai→M V:=fun U σ Q U=>Q (.p .none) σ
section
variable {X:Fx}{B:Fz}{φ:AA}{σ:LM}{s:Shared}
theorem EU{i:Int}{n k:Nat}(h:seqIndex? i n=some k):k<n:=by
 unfold seqIndex? at h;dsimp only at h;split at h<;>split at h
 ·injection h with h;subst h;rename_i h2;simp only[and_eq_true,decide_eq_true_eq]at h2;simp+arith [*]
 ·contradiction
 ·injection h with h;subst h;rename_i h2;simp only[and_eq_true,decide_eq_true_eq]at h2;simp+arith [*]
 ·contradiction
theorem Ky{x:Str}{k c:Nat}(h:PyData.strOk x=true)(e:x.cps[k]?=some c):PyData.strOk ⟨#[c]⟩=true:=by
 unfold PyData.strOk at *;rw[Array.all_eq_true']at *;intro d hd;have hd:d=c:=by simpa using hd
 subst hd;exact h d (Array.mem_of_getElem? e)
theorem uE{aaK:Expr}{o i:Value}{T id:String}{Q:Value→Shared→Prop}{E}(hT:s.TypeIs o T)(hl:typeLookup (.type T) "__getitem__" =pure (some (.builtin id)))(h:wpAny X.M X.A (subscripted aaK false o i) Q E s):
  wpAny X.M X.A (do subscripted aaK (←getitemInPython o) o i) Q E s:=by
 unfold getitemInPython;exact wpAny_bind (wpAny_bind (wpAny_specialOf hT hl (wpAny_pure h)))
def b8(x:P)(k:Int)(y:P):Prop:=∀⦃X B φ σ s o i⦄ ⦃aaK:Expr⦄,(∀o i,subscripted aaK false o i=operate [o,i] (getItem o i))→Rel X B φ σ s→sI B s.heap o x→Is B i (.int k)→
 aE X B φ RV (do subscripted aaK (←getitemInPython o) o i) (fun Q U=>Q (.p y) σ) s
end
theorem uF{k:Int}(h:ir k=true): -(2 ^ 62)<k∧k<2 ^ 62:=by simpa [ir]using h
theorem item_list{l:Lp}{y:P}{k:Int}{j:Nat}(hf:ir k=true)(e1:seqIndex? k l.length=some j)(e2:l[j]?=some y):b8 (.list l) k y:=fun X B φ σ s o i aaK hs hR hh=>hh.casesOn fun a hh=>hh.casesOn fun vs hh=>hh.casesOn fun n hh=>hh.casesOn fun e hh=>hh.casesOn fun h1 h2 hi=>by
 subst e;obtain⟨u,rfl⟩:=Is.vU hi;have hf:=uF hf;obtain⟨v,g1,g2⟩:=h2.get e2;have hl:s.heap.IsList a vs.toArray:=⟨_,h1,rfl,n,rfl⟩;have hj:=EU e1;refine aE.cC (tk:=s.toks) hR (fun Q E q=>uE hl.typeIs slot_list_getitem.lookup ?_) g2;refine ER (hs ..) ?_;refine wpAny_operating ?_;unfold seqIndex? at e1;dsimp only at e1;by_cases hk:k<0
 ·rw[if_pos hk]at e1;obtain⟨h3,rfl⟩:=CN e1;simp only[and_eq_true,decide_eq_true_eq]at h3;have aaG:=h2.length;exact wpAny_getItem_list_neg hl hk (by refine ER size_toArray (ER aaG ?_);lia) (by lia) (x:=v) (by refine ER size_toArray (ER aaG ?_);simpa using g1) q
 ·rw[if_neg hk]at e1;obtain⟨h3,rfl⟩:=CN e1;exact wpAny_getItem_list hl (by omega) (by omega) (by simpa using g1) q
theorem item_tup{l:Lp}{y:P}{k:Int}{j:Nat}(hf:ir k=true)(e1:seqIndex? k l.length=some j)(e2:l[j]?=some y):b8 (.tup l) k y:=fun X B φ σ s o i aaK hs hR ho hi=>by
 refine Is.A4 ho fun U U U h1 h2=>?_;obtain⟨u,rfl⟩:=Is.vU hi;have hf:=uF hf;obtain⟨v,g1,g2⟩:=h2.get e2;have ht:=hR.kB _ _ h1;refine aE.cC (tk:=s.toks) hR (fun Q E q=>uE (T:= "tuple") ⟨_,ht,rfl⟩ F.slot_tuple_getitem.lookup ?_) g2;refine ER (hs ..) ?_;exact wpAny_operating (PySem.P.getItem_tuple ht (by grind only) (by omega) (by refine ER size_toArray (ER h2.length ?_);exact e1) (by simpa using g1) q)
theorem item_str{x:Str}{c:Nat}{k:Int}{j:Nat}(hf:ir k=true)(e1:seqIndex? k x.length=some j)(e3:x.cps[j]?=some c):b8 (.str x) k (.str ⟨#[c]⟩):=fun X B φ σ s o i aaK hs hR ho hi=>by
 refine Is.uA ho fun t nP=>?_;obtain⟨u,rfl⟩:=Is.vU hi;have hf:=uF hf;refine aE.cC (tk:=s.toks+1) hR (fun Q E q=>uE (typeIs_str s x t) F.slot_str_getitem.lookup ?_) (.str _ s.toks (Ky nP e3));refine ER (hs ..) ?_;exact wpAny_operating (PySem.P.getItem_str (by simp only[Bool.or_eq_false_iff,decide_eq_false_iff_not];lia) (by refine ER e1 ?_;exact e3) q)
abbrev Uc(v:V)(Q:MQ V):MQ V:=fun w σ=>aW σ v w b8 Q
abbrev Wl(b:ai→M V)(le:ai)(Q:MQ V)(E:ME):MQ V:=fun v σ=>b le σ (Uc v Q) E
def aL(a b:ai→M V):ai→M V:=fun le σ Q E=>a le σ (Wl b le Q E) E
section
variable {X:Fx}{en:Env}{r:Nat}
def iQ(e:Expr):Bool:=I8 e (fun a b c d=>c.isSome) fun e=>true
theorem pq{aaK:Expr}(h:iQ aaK=true)(o i:Value):subscripted aaK false o i=operate [o,i] (getItem o i):=by
 cases aaK with
 |Slice a b c p=>induction c with
  |none=>exact Bool.noConfusion h
  |some=>rfl
 |_=>rfl
theorem Ev.sub{a b:Expr}{ca cb:ai→M V}{pos}(hE:EnOK X en r)(hn:iQ b=true)(h1:Ev X en a ca)(h2:Ev X en b cb):Ev X en (.Subscript a b pos) (aL ca cb):=by
 intro B φ σ le s hR hL;have q:eval (.Subscript a b pos) en=(eval a en >>=fun o=>holding [o] (eval b en) >>=fun i=>standAt pos >>=fun U=>(do subscripted b (←getitemInPython o) o i) >>=fun r=>letTemporaryGo a o r >>=fun U=>pure r):=by rw[arm_eval_Subscript];simp only[bind_assoc]
 refine ER q ?_;refine(h1 B φ σ le s hR hL).bind fun v br val aZ bA aS hR₁ hS₁ hV₁=>?_;refine(aE.holding (h2 bA aS br le aZ hR₁ (hL.step hS₁ hE.mem))).bind fun v' dg mi s₂ B₂ φ₂ hR₂ hS₂ hV₂=>aE.standAt ?_;exact fun Q E hh=>hh.casesOn fun x i y e1 e2 e3 z=>aE.at ((e3 (pq hn) hR₂ (hR₂.sees (hV₁.mono hS₂.bB hS₂.pre) e1) (by subst e2;exact hV₂)).bind (R':=RV) (k:=fun r=>letTemporaryGo a val r >>=fun U=>pure r) (f:=fun v σ Q U=>Q v σ)
  fun v σ val s' B' aP hR' U Yq Q E q=>wpAny_bind (wpAny_letTemporaryGo (wpAny_pure ⟨B',aP,_,_,hR',Step.refl ..,Yq,q⟩))) z
end
section
variable {X:Fx}{B:Fz}{φ:AA}{σ:LM}{s:Shared}
theorem Jc{val:Value}{v:V}{l:Option Int}(h:dM B φ val v)(e:HE v=some l):IsPart val l:=by
 induction v with
 |ref=>contradiction
 |p x=>
  cases (h:Is B val x)with
  |none=>obtain rfl:=Option.some.inj e;exact .none
  |int i t=>injection e with e;subst e;exact .int _ _
  |_=>contradiction
theorem HF(lo hi:Option Int)(n:Nat):Builtin.Slice.sliceAdjust lo hi 1 (n:Int)=(((clip n lo 0:Nat):Int),((clip n hi n:Nat):Int)):=by
 have one:∀v:Int,(if v<0 then max (v+(n:Int)) 0 else min v (n:Int))=((clipAt n v:Nat):Int):=fun v=>by rw[clipAt_cast];split<;>lia
 unfold Builtin.Slice.sliceAdjust;simp -iota only[((by decide):¬((1:Int)<0)),if_false];induction lo<;>induction hi<;>simp only[one,clip]<;>rfl
theorem HG(a b:Nat):Builtin.Slice.slicePlaces (a:Int) (b:Int) 1=b - a:=by
 unfold Builtin.Slice.slicePlaces;have h1:(1:Int) > 0:=Int.natCast_nonneg _;simp only[h1,if_true,Int.ediv_one];refine iT (fun _=>?_) fun _=>?_<;>lia
theorem zd{val:Value}{l:Option Int}{Q:Option Int→Shared→Prop}{E}(h:IsPart val l)(q:Q l s):wpAny X.M X.A (Builtin.Slice.slicePartIndex val) Q E s:=by
 induction h with
 |none=>exact slicePart_none q
 |int i t=>exact slicePart_int q
theorem M1(xs:Array Value)(a k:Nat):((List.range k).filterMap fun (j:Nat)=>xs[((a:Int)+(j:Int) * 1).toNat]?).toArray=((xs.toList.drop a).take k).toArray:=by
 have e:(fun (j:Nat)=>xs[((a:Int)+(j:Int) * 1).toNat]?)=fun j=>xs[a+j]?:=by
  funext j;exact ER (show((a:Int)+(j:Int) * 1).toNat=a+j by lia) rfl
 refine ER e (EL (pick_run xs a k) (ER List.filterMap_map ?_));rfl
theorem Jd(n:Nat)(o:Option Int)(d:Nat)(h:d≤n):clip n o d≤n:=by
 induction o with
 |none=>exact h
 |some i=>show clipAt n i≤n;unfold clipAt;omega
theorem Je{B:Fz}{vs:Lv}{l:Lp}(h:aG B vs l)(n:Nat)(lo hi:Option Int):aG B (jJ n vs lo hi) (jJ n l lo hi):=(h.drop _).take _
theorem Jf{α:Type}{l:List α}{n:Nat}{lo hi:Option Int}:(jJ n l lo hi).length≤l.length:=by
 unfold jJ;refine ER length_take (ER length_drop ?_);exact le_trans (min_le_right _ _) (sub_le _ _)
theorem EV{α:Type}{l:List α}{lo hi:Option Int}(h1:clip l.length lo 0=0)(h2:clip l.length hi l.length - clip l.length lo 0=l.length):jJ l.length l lo hi=l:=by
 unfold jJ;exact ER h2 (ER h1 (ER List.drop_zero (ER take_length rfl)))
theorem EW{o1 o2:Obj}{x:P}{Q:MQ V}(hR:Rel X B φ σ s)(hf:o2.isFreed=false)(hx:Is (jb B (s.heap.objs.size+1) o2) (.ref (s.heap.objs.size+1)) x)(z:Q (.p x) σ):QO X B φ s.heap RV Q (.ref (s.heap.push o1).objs.size) {s with heap:=(s.heap.push o1).push o2}:=by
 have k:∀b o,s.heap.get? b=some o→((s.heap.push o1).push o2).get? b=some o:=fun b o e=>a8 _ _ b o (a8 _ _ b o e);have g:=get?_push_size (o:=o2) (s.heap.push o1) hf;rw[size_push]at g ⊢;exact⟨_,φ,σ,.p x,hR.yR (tk:=s.toks) k (le_succ _) g,Step.yR hR k (le_succ _),hx,z⟩
theorem uG{t sl:Addr}{items:Array Value}{vl vu:Value}{lo hi:Option Int}{Q:Value→Shared→Prop}{E}(ht:IsTup s.heap t items)(hs:s.heap.IsSliceOf sl vl vu .none)(pl:IsPart vl lo)(pu:IsPart vu hi)
  (h0:jJ items.size items.toList lo hi=items.toList→Q (.ref t) s)
  (h:Q (.ref s.heap.objs.size) {s with heap:=s.heap.push {cls:=.type "tuple",data:=.seq (jJ items.size items.toList lo hi).toArray}})
  (Hq:items.size≤sizeLine):wpAny X.M X.A (getItem (.ref t) (.ref sl)) Q E s:=by
 obtain⟨os,hos,hcs,hds⟩:=id hs;unfold getItem;refine wpAny_holding ?_;refine wpAny_bind (wpAny_sequenceKey ht.typeIs (by decide) ?_);refine wpAny_bind (wpAny_callSpecial?_slot (name:=Str.ofString "__getitem__") ht.typeIs slot_tuple_getitem (wpAny_call_entry slot_tuple_getitem ht.typeIs entry_tuple_getitem ?_ (args_tuple_getitem _ _)));show wpAny _ _ (Builtin.Tuple.tupleItemsOf (.ref t) >>=_) _ _ s;refine wpAny_bind (tupleItemsOf_ ht (wpAny_bind (wpAny_typeOf (⟨os,hos,hcs⟩:s.TypeIs (.ref sl) "slice") ?_)));refine ER (if_pos (by decide)) ?_;have ap:∀{Q':Int×Int×Nat→Shared→Prop} {A':Around} {E'},Q' (((clip items.size lo 0:Nat):Int),1,clip items.size hi items.size - clip items.size lo 0) s→wpAny (model X.prog X.w) A' (Builtin.Slice.sliceApplied (.ref sl) (pure (items.size:Int))) Q' E' s:=by
  intro Q' A' E' q;unfold Builtin.Slice.sliceApplied Builtin.Slice.sliceFields;refine wpAny_bind (wpAny_bind (wpAny_field hos hds (x:=vl) rfl (wpAny_bind (wpAny_field hos hds (x:=vu) rfl (wpAny_bind (wpAny_field hos hds (x:=.none) rfl (wpAny_pure ?_)))))));refine wpAny_bind (slicePart_none ?_);show wpAny _ _ (if ((1:Int) ==0)=true then _ else _) _ _ s;refine ER (if_neg (by decide)) ?_;refine wpAny_bind (zd (X:={X with A:=A'}) pl (wpAny_bind (zd (X:={X with A:=A'}) pu (wpAny_bind (wpAny_pure ?_)))));show wpAny _ _ (match Builtin.Slice.sliceAdjust lo hi 1 (items.size:Int)with|(a,b)=>pure (a,(1:Int),Builtin.Slice.slicePlaces a b 1)) _ _ s;refine ER (HF ..) ?_;dsimp only;refine ER (HG ..) ?_;exact wpAny_pure q
 refine wpAny_bind (ap ?_);dsimp only;have hd:sizeOk (.seq (jJ items.size items.toList lo hi).toArray):=by
  show(List.toArray _).size≤sizeLine;refine ER size_toArray ?_;exact le_trans Jf Hq
 by_cases c:(((clip items.size lo 0:Nat):Int) ==0&&(1:Int) ==1&&(clip items.size hi items.size - clip items.size lo 0) ==items.size)=true
 ·rw[if_pos c];simp only[and_eq_true,beq_iff_eq]at c;have e2:jJ items.size items.toList lo hi=items.toList:=EV (Int.ofNat.inj c.1.1) c.2;refine wpAny_bind (wpAny_bind (wpAny_typeOf ht.typeIs (wpAny_pure ?_)));refine ER (if_pos (by decide)) ?_
  first
   |exact wpAny_bind (wpAny_rule (wpAny_pure ⟨_,rfl,wpAny_pure (h0 e2)⟩))
   |exact wpAny_bind (wpAny_rule (wpAny_bind (wpAny_pure (wpAny_pure ⟨_,rfl,wpAny_pure (h0 e2)⟩))))
 ·refine ER (if_neg c ..) (ER (M1 ..) ?_)
  first
   |exact wpAny_bind (m:=Builtin.Tuple.tupleExact _) (wpAny_newObj_type (wpAny_pure ⟨_,rfl,wpAny_pure h⟩) hd)
   |exact wpAny_bind (m:=Builtin.Tuple.tupleExact _) (wpAny_newObj_type (wpAny_bind (wpAny_pure (wpAny_pure ⟨_,rfl,wpAny_pure h⟩))) hd)
theorem Kz{x:Str}(h:PyData.strOk x=true)(a k:Nat):PyData.strOk ⟨((x.cps.toList.drop a).take k).toArray⟩=true:=by
 unfold PyData.strOk at *;rw[Array.all_eq_true']at *;intro d hd;exact h d (by have:=List.mem_of_mem_drop (mem_of_mem_take ((by simpa using hd):d∈(x.cps.toList.drop a).take k));simpa using this)
theorem yd(x:Str)(l u:Option (Int×Tok)):slicePicked x l u none=sliceRange ((clip x.length (l.map (·.1)) 0:Nat):Int) ((clip x.length (u.map (·.1)) x.length:Nat):Int) 1:=by
 unfold slicePicked Builtin.Str.strSliceIndices;simp -iota only[Option.map_none,Option.getD_none,((Int.natCast_nonneg _):(1:Int) > 0),if_true];induction l<;>induction u<;>simp only[Option.map_none,Option.map_some,clip,clipAt_cast]<;>rfl
def Cuts(X:Fx)(B:Fz)(φ:AA)(σ:LM)(s:Shared)(o vl vu:Value)(y:P):Prop:=
 ∃T id,s.TypeIs o T∧typeLookup (.type T) "__getitem__" =pure (some (.builtin id))∧
  ∀Q:MQ V,Q (.p y) σ→wpAny X.M X.A (getItem o (.ref s.heap.objs.size)) (QO X B φ s.heap RV Q) (fun U U=>False) {s with heap:=s.heap.push {cls:=.type "slice",data:=.fields #[vl,vu,.none]}}
section
variable {vl vu:Value}{lo hi:Option Int}(hR:Rel X B φ σ s)(pl:IsPart vl lo)(pu:IsPart vu hi)
include hR pl pu
theorem KA{o:Value}{l:Lp}(hl:l.length≤bL)(ho:sI B s.heap o (.list l)):Cuts X B φ σ s o vl vu (.list (jJ l.length l lo hi)):=by
 obtain⟨a,vs,n,rfl,h1,h2⟩:=ho;rw[←h2.length]at hl ⊢;refine⟨"list",_,⟨_,h1,rfl⟩,slot_list_getitem.lookup,fun Q z=>wpAny_getItem_list_slice ⟨_,get?_push_of_some _ h1,rfl,n,rfl⟩ (Heap.IsSliceOf.new s.heap vl vu .none) pl pu .none (by decide) (EW hR rfl ?_ z) (by rw[size_toArray];exact uD hl)⟩;refine .list (n:=0) ?_ (aG.mono (cH (hR.fresh (le_succ _)).1) (Je h2 _ lo hi));refine ER (cU ..) (ER (slicePick_plain ..) (ER (size_toArray ..) ?_));induction lo<;>induction hi<;>rfl
set_option tactic.hygienic true in
theorem HH{o:Value}{l:Lp}(hl:l.length≤bL)(ho:Is B o (.tup l)):Cuts X B φ σ s o vl vu (.tup (jJ l.length l lo hi)):=by
 cases ho with
 |tup h1 h2=>
 rename_i a vs n;have ht:=hR.kB _ _ h1;have h3:=Je h2 vs.length lo hi;rw[←h2.length]at hl ⊢;refine⟨"tuple",_,⟨_,ht,rfl⟩,F.slot_tuple_getitem.lookup,fun Q z=>uG (items:=vs.toArray) ⟨_,get?_push_of_some _ ht,rfl,n,rfl⟩ (Heap.IsSliceOf.new s.heap vl vu .none) pl pu (fun e=>⟨B,φ,σ,.p (.tup _),hR.grow (tk:=s.toks) (a8 _ _),Step.grow (a8 _ _),?_,z⟩) (EW hR rfl ?_ z) (by rw[size_toArray];exact uD hl)⟩
 ·rw[show jJ vs.length vs lo hi=vs from e]at h3;exact .tup h1 h3
 ·exact .tup (n:=0) (cU ..) (aG.mono (cH (hR.fresh (le_succ _)).1) h3)
theorem M3{o:Value}{x:Str}(hl:x.length≤bL)(ho:Is B o (.str x)):Cuts X B φ σ s o vl vu (.str ⟨(jJ x.length x.cps.toList lo hi).toArray⟩):=by
 cases ho with
 |str _ t nP=>
 have pv:∀{v:Value} {p:Option Int},IsPart v p→∃q:Option (Int×Tok),v=partValue q∧q.map (·.1)=p:=fun h=>by
  induction h with
  |none=>exact⟨none,rfl,rfl⟩
  |int i t=>exact⟨some (i,t),rfl,rfl⟩
 obtain⟨l,rfl,e1⟩:=pv pl;obtain⟨u,rfl,e2⟩:=pv pu;have pk:=yd x l u;replace pk:=(sliceRange_one ..)▸(e2 ..)▸(e1 ..)▸pk;refine⟨"str",_,typeIs_str s x t,F.slot_str_getitem.lookup,fun Q z=>wpAny_getItem_str_slice (l:=l) (u:=u) (st:=none) ⟨_,get?_push_size _ rfl,rfl,rfl⟩ rfl ?_⟩;unfold sliceMade;refine iT (fun _=>?_) fun _=>?_
 ·rename_i c;simp only[Option.map_none,Option.getD_none,and_eq_true,beq_iff_eq]at c;have h3:=c.2;rw[pk,length_map,List.length_range]at h3;have h4:=Jd x.length hi x.length (le_refl _);have h6:=Jd x.length lo 0 (zero_le _);have e3:jJ x.length x.cps.toList lo hi=x.cps.toList:=EV (l:=x.cps.toList) (show clip x.length lo 0=0 by lia) h3;rw[e3]at z;exact⟨B,φ,σ,.p (.str x),hR.grow (tk:=s.toks) (a8 _ _),Step.grow (a8 _ _),.str x t nP,z⟩
 ·refine ER ((by refine ER (pk ..) (ER (pick_run ..) ?_);rfl):((slicePicked x l u none).filterMap (x.cps[·]?))=jJ x.length x.cps.toList lo hi) ?_;exact⟨le_trans Jf (uD hl),B,φ,σ,.p (.str ⟨_⟩),hR.grow (tk:=s.toks+1) (a8 _ _),Step.grow (a8 _ _),.str _ _ (Kz nP _ _),z⟩
end
end
def jW(x:P)(lo hi:Option Int)(y:P):Prop:=∀⦃X B φ σ s o vl vu⦄,Rel X B φ σ s→IsPart vl lo→IsPart vu hi→sI B s.heap o x→Cuts X B φ σ s o vl vu y
theorem ze{l:Lp}{lo hi:Option Int}(hl:l.length≤bL):jW (.list l) lo hi (.list (jJ l.length l lo hi)):=fun U U U U U U U U hR pl pu ho=>KA hR pl pu hl ho
theorem CS{l:Lp}{lo hi:Option Int}(hl:l.length≤bL):jW (.tup l) lo hi (.tup (jJ l.length l lo hi)):=fun U U U U U U U U hR pl pu ho=>HH hR pl pu hl ho
theorem cut_str{x:Str}{lo hi:Option Int}(hl:x.length≤bL):jW (.str x) lo hi (.str ⟨(jJ x.length x.cps.toList lo hi).toArray⟩):=fun U U U U U U U U hR pl pu ho=>M3 hR pl pu hl ho
inductive jK (σ:LM) (v l u:V) (Q:MQ V):Prop|mk (x:P) (i j:Option Int) (y:P) (e1:view σ v=some x) (e2:HE l=some i) (e3:HE u=some j) (e4:jW x i j y) (q:Q (.p y) σ)
abbrev Wm(v l:V)(Q:MQ V):MQ V:=fun u σ=>jK σ v l u Q
abbrev Wn(v:V)(hi:ai→M V)(le:ai)(Q:MQ V)(E:ME):MQ V:=fun l σ=>hi le σ (Wm v l Q) E
abbrev Yu(lo hi:ai→M V)(le:ai)(Q:MQ V)(E:ME):MQ V:=fun v σ=>lo le σ (Wn v hi le Q E) E
def iu(a lo hi:ai→M V):ai→M V:=fun le σ Q E=>a le σ (Yu lo hi le Q E) E
theorem holding_pure{α:Type}(vs:Lv)(a:α):holding vs (pure a:Sem α)=pure a:=by unfold holding;split<;>rfl
theorem KC{M:Model}{A:Around}{α β:Type}{vs:Lv}{m:Sem α}{f:α→Sem β}{Q:β→Shared→Prop}{E:Value→Shared→Prop}{s:Shared}(h:wpAny M A (m >>=f) Q E s):wpAny M A (holding vs m >>=f) Q E s:=fun Γ p hΓ=>by
 have:=h Γ p hΓ
 rw[Sem.wp_bind']at this ⊢;rw[Sem.wp_holding];exact this
def Qu(X:Fx)(en:Env)(e:Option Expr)(c:ai→M V):Prop:=
 ∀B φ σ le s,Rel X B φ σ s→Loc B φ en le s.heap→aE X B φ RV (valueOrNone (evalOpt e en)) (c le σ) s
section
variable {X:Fx}{en:Env}{r:Nat}
theorem Qu.no:Qu X en Option.none fi:=fun U U U U U hR U=>aE.pure hR .none
theorem Qu.one{e:Expr}{c:ai→M V}(h:Ev X en e c):Qu X en (Option.some e) c:=h
theorem Ev.cut{a:Expr}{lo hi:Option Expr}{ca cl ch:ai→M V}{p pos}(hE:EnOK X en r)(h1:Ev X en a ca)(h2:Qu X en lo cl)(h3:Qu X en hi ch):Ev X en (.Subscript a (.Slice lo hi Option.none p) pos) (iu ca cl ch):=by
 intro B φ σ le s hR hL;have q:eval (.Subscript a (.Slice lo hi Option.none p) pos) en=(eval a en >>=fun val=>holding [val] (valueOrNone (evalOpt lo en) >>=fun l=>holding [l] (valueOrNone (evalOpt hi en)) >>=fun u=>newFields "slice" [l,u,.none]) >>=fun i=>
   standAt pos >>=fun U=>getitemInPython val >>=fun b=>subscripted (.Slice lo hi Option.none p) b val i >>=fun r=>letTemporaryGo a val r >>=fun U=>pure r):=by
  refine ER (arm_eval_Subscript ..) (ER (arm_eval_Slice ..) ?_);have e0:∀vs,holding vs (valueOrNone (evalOpt Option.none en))=pure Value.none:=fun vs=>holding_pure vs _;simp only[e0,pure_bind]
 refine ER q ?_;refine(h1 B φ σ le s hR hL).bind fun v br val aZ bA aS hR₁ hS₁ hV₁=>?_;have hL₁:=hL.step hS₁ hE.mem;intro Q E z;have goal:aE X bA aS RV (valueOrNone (evalOpt lo en) >>=fun l=>holding [l] (valueOrNone (evalOpt hi en)) >>=fun u=>newFields "slice" [l,u,.none] >>=fun i=>
   standAt pos >>=fun U=>getitemInPython val >>=fun b=>subscripted (.Slice lo hi Option.none p) b val i >>=fun r=>letTemporaryGo a val r >>=fun U=>pure r) (fun Q E=>cl le br (fun l σ=>ch le σ (fun u σ=>jK σ v l u Q) E) E) aZ:=by
  refine(h2 bA aS br le aZ hR₁ hL₁).bind fun l dg lv s₂ B₂ φ₂ hR₂ hS₂ hV₂=>?_;refine(aE.holding (h3 B₂ φ₂ dg le s₂ hR₂ (hL₁.step hS₂ hE.mem))).bind fun u σ₃ uv s₃ B₃ φ₃ hR₃ hS₃ hV₃=>fun Q E hh=>hh.casesOn fun x i j y e1 e2 e3 e4 q=>?_;obtain⟨T,id,hT,hl,hw⟩:=e4 hR₃ (Jc (hV₂.mono hS₃.bB hS₃.pre) e2) (Jc hV₃ e3) (hR₃.sees (hV₁.mono (hS₂.trans hS₃).bB (hS₂.trans hS₃).pre) e1);refine wpAny_bind (wpAny_newObj_type (wpAny_bind (wpAny_standAt ?_)));unfold getitemInPython;have hT':({s₃ with heap:=s₃.heap.push {cls:=.type "slice",data:=.fields #[lv,uv,.none]}}:Shared).TypeIs val T:=by
   induction val with
   |ref a=>obtain⟨o,ho,hc⟩:=hT;exact⟨o,get?_push_of_some _ ho,hc⟩
   |_=>exact hT
  exact wpAny_bind (wpAny_bind (wpAny_specialOf hT' hl (wpAny_pure (wpAny_bind (wpAny_operating (wpAny_mono (hw Q q) (fun r s' h=>wpAny_bind (wpAny_letTemporaryGo (wpAny_pure h))) fun U U h=>h.elim))))))
 refine KC ?_;simp only[bind_assoc];exact goal Q E z
end
inductive Bf where
 |len|int|str|abs|tuple|list|max
noncomputable def Bf.val:Bf→Value
 | .len=>.builtin "len" | .int=>.type "int" | .str=>.type "str" | .abs=>.builtin "abs" | .tuple=>.type "tuple" | .list=>.type "list" | .max=>.builtin "max"
noncomputable def intsOf:Lp→Option (List Int)
 |[]=>some []
 | .int i::l=>(intsOf l).map (i:: ·)
 |_::_=>none
noncomputable def Qv:List Int→Int
 |[]=>0
 |a::l=>l.foldl Max.max a
theorem CT(x:String):PyData.strOk (Str.ofString x)=true:=by
 rw[Str.ofString_eq_toList];unfold PyData.strOk;rw[Array.all_eq_true'];intro c hc;obtain⟨d,_,rfl⟩:=mem_map.mp ((by simpa using hc):c∈x.toList.map Char.toNat);have:=d.valid;simp only[Char.toNat,decide_eq_true_eq];rcases this with h|⟨_,h⟩
 ·exact le_trans ‹_› (bl rfl)
 ·exact h
section
variable {X:Fx}{B:Fz}{φ:AA}{σ:LM}{s:Shared}{r:Nat}
theorem Jg{vs:Lv}{l:Lp}{ns:List Int}(h:aG B vs l)(e:intsOf l=some ns):IntsAre vs ns:=by
 induction vs generalizing l ns with
 |nil=>cases h;obtain rfl:=Option.some.inj e;exact .nil
 |cons v vs ih=>
  cases h with
  |cons h1 h2=>cases h1 with
   |int i t=>
    obtain⟨m,e1,rfl⟩:=map_eq_some_iff.mp e;exact .cons _ _ (ih h2 e1)
   |_=>contradiction
theorem foldl_max(l:List Int)(a:Int):(a≤l.foldl Max.max a)∧(∀x∈l,x≤l.foldl Max.max a)∧(l.foldl Max.max a=a∨l.foldl Max.max a∈l):=by
 induction l generalizing a with
 |nil=>exact⟨le_refl _,(fun U h=>(not_mem_nil h).elim),.inl rfl⟩
 |cons b l ih=>
  obtain⟨h1,h2,h3⟩:=ih (Max.max a b);simp only[List.foldl_cons];refine⟨by lia,fun x hx=>?_,?_⟩
  ·rcases mem_cons.mp hx with rfl|hx
   ·lia
   ·exact h2 x hx
  ·rcases h3 with h3|h3
   ·rw[h3];by_cases q:a≤b
    ·right;rw[show Max.max a b=b by lia];exact .head _
    ·left;lia
   ·exact .inr (.tail _ h3)
theorem Jh{a:Int}{l:List Int}{m:Int}(h1:m∈a::l)(h2:∀x,x∈a::l→x≤m):Qv (a::l)=m:=by
 obtain⟨g1,g2,g3⟩:=foldl_max l a;show l.foldl Max.max a=m;have ge:m≤l.foldl Max.max a:=by
  rcases mem_cons.mp h1 with rfl|h
  ·exact g1
  ·exact g2 m h
 have le:l.foldl Max.max a≤m:=by
  rcases g3 with g3|g3
  ·rw[g3];exact h2 a (.head _)
  ·exact h2 _ (.tail _ g3)
 grind only
theorem HJ{t:Addr}{vs:Lv}{n:Nat}:Meets (Builtin.«tuple.__new__» ⟨[.type "tuple",.ref t],[]⟩) (fun U R s=>s.heap.get? t=some ⟨.type "tuple",none,.seq vs.toArray n,#[]⟩∧R (.ok (.ret (.ref t))) s):=
 .of_wp fun prog w A R s h=>by
  obtain⟨hp,g,d,tk,os⟩:=s;obtain⟨ht,h⟩:=h;have Hx:=sub_tuple_self;have hinit:=init_tuple_lookup;have hmh:=madeHere_tuple;have hT:Shared.TypeIs ⟨hp,g,d,tk,os⟩ (.ref t) "tuple" :=⟨_,ht,rfl⟩;wp_walk using wpAny_loadPart' ht,wpAny_typeOf hT
  exact⟨_,rfl,h⟩
end
def nQ(f:Bf)(x y:P):Prop:=∀⦃X B φ σ s val r⦄,Rel X B φ σ s→Hy X.A r→sI B s.heap val x→aE X B φ RV (call f.val [val]) (fun Q U=>Q (.p y) σ) s
theorem len_list{l:Lp}(hl:l.length≤bL):nQ .len (.list l) (.int l.length):=fun X B φ σ s val r hR U ⟨a,vs,n,e,h1,h2⟩=>by
 subst e;rw[←h2.length]at hl ⊢;exact aE.cC hR (fun Q E q=>call_len_list ⟨_,h1,rfl,n,rfl⟩ (by refine ER size_toArray ?_;unfold bL at hl;omega) q) (.int _ _)
theorem jL{l:Lp}(hl:l.length≤bL):nQ .len (.tup l) (.int l.length):=fun X B φ σ s val r hR U hv=>by
 refine Is.A4 hv fun U U U h1 h2=>?_;rw[←h2.length]at hl ⊢;exact aE.cC hR (fun Q E q=>PySem.P.len_tuple (hR.kB _ _ h1) (by refine ER size_toArray ?_;unfold bL at hl;omega) q) (.int _ _)
theorem len_str{x:Str}(hl:x.length≤bL):nQ .len (.str x) (.int x.length):=fun X B φ σ s val r hR U hv=>by
 obtain⟨_,t,nP⟩:=hv;exact aE.cC hR (fun Q E q=>PySem.P.len_str (by unfold bL at hl;lia) q) (.int _ _)
theorem int_int{i:Int}:nQ .int (.int i) (.int i):=fun X B φ σ s val r hR U hv=>by refine Is.CI hv fun U=>?_;exact aE.cC (tk:=s.toks) hR (fun Q E q=>call_int_int q) (.int _ _)
theorem int_str{x:Str}{n:Int}(hl:x.length≤640)(e:PySem.intText? x=some n):nQ .int (.str x) (.int n):=fun X B φ σ s val r hR U hv=>by refine Is.uA hv fun U U=>?_;exact aE.cC hR (fun Q E q=>KIN.call_text e hl q) (.int _ _)
theorem str_int{i:Int}(hl:small i=true):nQ .str (.int i) (.str (Str.ofString (toString i))):=fun X B φ σ s val r hR U hv=>by
 refine Is.CI hv fun U=>?_;refine aE.cC hR (fun Q E q=>PySem.P.str_of_int ?_ q) (.str _ _ (CT _));have:=vS hl;rcases Nat.eq_zero_or_pos i.natAbs with z|z
 ·rw[z];decide
 ·have:=(Nat.log2_lt (k:=64) (Nat.pos_iff_ne_zero.mp z)).mpr this;exact le_trans ‹_› (bl rfl)
theorem Ji{i:Int}:nQ .abs (.int i) (.int (if i<0 then -i else i)):=fun X B φ σ s val r hR U hv=>by
 refine Is.CI hv fun U=>?_;exact fun U U z=>call_abs_int fun u tk=>⟨B,φ,σ,.p (.int _),hR.grow (h':=s.heap) (fun U U e=>e),Step.grow (fun U U e=>e),.int _ _,z⟩
theorem tuple_list{l:Lp}(hl:l.length≤bL):nQ .tuple (.list l) (.tup l):=fun X B φ σ s val r hR U ⟨a,vs,n,e,h1,h2⟩=>by
 subst e;refine fun U U z=>call_tuple_list (items:=vs.toArray) ⟨_,h1,rfl,n,rfl⟩ (fun h' k=>?_) (jV h2 hl);have R1:=hR.grow (tk:=s.toks) k;exact⟨_,φ,σ,.p (.tup l),R1.yR (tk:=s.toks) (a:=h'.objs.size) (a8 _ _) (le_refl _) (get?_push_size _ rfl),(Step.grow k).trans (Step.yR R1 (a8 _ _) (le_refl _)),.tup (n:=0) (cU ..) (aG.mono (cH (R1.fresh (le_refl _)).1) h2),z⟩
theorem BJ{l:Lp}:nQ .tuple (.tup l) (.tup l):=fun X B φ σ s val r hR U hv=>by
 refine Is.A4 hv fun U U U h1 h2=>?_;exact aE.cC (tk:=s.toks) hR (fun Q E q=>callType_new F.called_tuple (by decide) (F.typeCall_tuple_1 _) (F.newCall_tuple_1 _) (fun obj=>F.args_object_init_2 obj _) F.entry_tuple_new HJ ⟨hR.kB _ _ h1,⟨_,hR.kB _ _ h1,rfl⟩,q⟩) (.tup h1 h2)
section
variable {X:Fx}{B:Fz}{φ:AA}{σ:LM}{s:Shared}
theorem Qw{l:Lp}{vs:Lv}{a:Addr}{n:Nat}{T:String}(hT:T= "list" ∨T= "tuple")(hl:l.length≤bL)(hR:Rel X B φ σ s)(h1:s.heap.get? a=some ⟨.type T,none,.seq vs.toArray n,#[]⟩)(h2:aG B vs l):aE X B φ RV (call (.type "list") [.ref a]) (fun Q U=>Q (.p (.list l)) σ) s:=
 fun U U z=>call_list_seq (items:=vs.toArray) a hT h1 rfl rfl (fun h' c' k hg=>⟨_,φ,σ,.p (.list l),hR.yR (tk:=s.toks) (a:=s.heap.objs.size) k (le_refl _) hg,Step.yR hR k (le_refl _),.list (cU ..) (aG.mono (cH (hR.fresh (le_refl _)).1) h2),z⟩) (jV h2 hl)
end
theorem jX{l:Lp}(hl:l.length≤bL):nQ .list (.tup l) (.list l):=fun X B φ σ s val r hR U hv=>by refine Is.A4 hv fun U U U h1 h2=>?_;exact Qw (.inr rfl) hl hR (hR.kB _ _ h1) h2
theorem max_list{l:Lp}{a:Int}{m:List Int}(q:intsOf l=some (a::m)):nQ .max (.list l) (.int (Qv (a::m))):=fun X B φ σ s val r hR hA ⟨la,vs,n,e,h1,h2⟩=>by
 subst e;obtain⟨xs,e⟩:=(Jg h2 q).allInts.items;have hns:a::m=xs.toList.map (·.1):=EL ((Jg h2 q).numsOf ..) (EL (nums_intItems ..) (EL (e ..) rfl));have Hq:0<xs.size:=by have h3:=congrArg List.length hns;simp only[length_map,Array.length_toList,length_cons]at h3;lia
 have hl:s.heap.IsList la vs.toArray:=⟨_,h1,rfl,n,rfl⟩;rw[e]at hl;refine fun U U z=>max_intList hA.hd hl Hq fun v h' tk hv hk=>?_;obtain⟨t,rfl⟩:=intItems_at hv;obtain⟨g1,g2⟩:=argBest_gt (numAt xs) (xs.size - 1);refine⟨B,φ,σ,.p (.int _),hR.grow hk,Step.grow hk,?_,z⟩;rw[show Qv (a::m)=numAt xs (argBest (fun i j=>decide (numAt xs i > numAt xs j)) (xs.size - 1)) from Jh (by refine ER (hns ..) (ER (numAt_eq ..) ?_);exact getD_mem (by refine ER (length_map ..) (ER (Array.length_toList ..) ?_);omega)) (fun x hx=>by
  rw[hns]at hx;obtain⟨j,hj,rfl⟩:=mem_getD hx;rw[length_map,Array.length_toList]at hj;refine EL (numAt_eq ..) ?_;exact g2 j (by grind only))]
 exact .int _ _
noncomputable def Fx.fr(X:Fx):List Addr:=X.outer.filterMap (·.frame)
structure Quiet (X:Fx) (S:List Addr) (h h':Heap):Prop where
 same:∀b o,b∉X.fr→b∉S→h.get? b=some o→h'.get? b=some o
 slot:∀b o,b∈X.fr→h.get? b=some o→∃sl,h'.get? b=some {o with slots:=sl}
theorem Quiet.trans{X:Fx}{S:List Addr}{h h' CL:Heap}(a:Quiet X S h h')(b:Quiet X S h' CL):Quiet X S h CL:=
 ⟨fun x o n m e=>b.same x o n m (a.same x o n m e),fun x o m e=>by obtain⟨sl,e1⟩:=a.slot x o m e;obtain⟨sl',e2⟩:=b.slot x _ m e1;exact⟨sl',e2⟩⟩
theorem Quiet.mono{X:Fx}{S T:List Addr}{h h':Heap}(a:Quiet X S h h')(k:∀b∈S,b∈T):Quiet X T h h':=
 ⟨fun x o n m e=>a.same x o n (fun q=>m (k x q)) e,a.slot⟩
theorem Quiet.grow{X:Fx}{S:List Addr}{h h':Heap}(k:∀b o,h.get? b=some o→h'.get? b=some o):Quiet X S h h':=
 ⟨fun b o U U e=>k b o e,fun b o U e=>⟨o.slots,k b o e⟩⟩
section
variable {X:Fx}{B:Fz}{φ:AA}{σ:LM}{s:Shared}{S:List Addr}
theorem Quiet.ns{h h':Heap}(q:Quiet X S h h'){L:Addr}{m:Str→Option Value}(hn:h.Ns L m)(hL:L∈X.fr∨L∉S):h'.Ns L m:=by
 obtain⟨o,es,ep,ho,r⟩:=hn;by_cases c:L∈X.fr
 ·obtain⟨sl,e⟩:=q.slot L o c ho;exact⟨_,es,ep,e,r⟩
 ·exact⟨o,es,ep,q.same L o c (hL.resolve_left c) ho,r⟩
theorem Quiet.cell{h h':Heap}(q:Quiet X S h h'){L:Addr}{v:Option Value}(hn:h.IsCell L v)(hL:L∈X.fr∨L∉S):h'.IsCell L v:=by
 obtain⟨o,ho,r⟩:=hn;by_cases c:L∈X.fr
 ·obtain⟨sl,e⟩:=q.slot L o c ho;exact⟨_,e,r⟩
 ·exact⟨o,q.same L o c (hL.resolve_left c) ho,r⟩
theorem qQ{a:Addr}(h:a∈X.fr):a∈X.eS:=mem_append.mpr (.inl h)
theorem Quiet.apart{h h':Heap}(q:Quiet X S h h')(hS:∀a∈S,dB X B φ σ a):∀b o,(∀a∈X.eS,a≠b)→(∀a,dB X B φ σ a→a≠b)→h.get? b=some o→h'.get? b=some o:=
 fun b o n m e=>q.same b o (fun z=>n b (qQ z) rfl) (fun z=>m b (hS b z) rfl) e
theorem Rel.quiet(R:Rel X B φ σ s){h':Heap}{tk:Nat}(q:Quiet X S s.heap h')(hS:∀a∈S,dB X B φ σ a):
  Rel X B φ σ {s with heap:=h',toks:=tk}:=by
 refine⟨R.gl,?_,R.kH,fun b o e=>?_,fun b o e=>?_,R.len,fun i ad o h1 h2=>?_,R.own,R.inj,R.young,fun a ha=>?_,fun e he=>?_,R.sz,R.k0⟩
 ·obtain⟨h,t,e⟩:=R.same;exact⟨h',tk,ER e rfl⟩
 ·refine q.apart hS b o (fun a ha z=>?_) (fun a ha z=>?_) (R.kP b o e)
  ·subst z;rw[(R.cA a ha).2.1]at e;contradiction
  ·subst z;rw[ha.2.1]at e;contradiction
 ·refine q.apart hS b o (fun a ha z=>?_) (fun a ha z=>?_) (R.kB b o e)
  ·subst z;rw[(R.cA a ha).1]at e;contradiction
  ·subst z;rw[ha.1]at e;contradiction
 ·have z:=R.objs i ad o h1 h2;have k:∀b x,b∈fh ad o→s.heap.get? b=some x→h'.get? b=some x:=fun b x hb e=>
   q.apart hS b x (fun a ha z=>by subst z;exact((R.own i ad o) a h1 h2 hb).2.2 ha) (fun a ha z=>by subst z;exact ha.2.2.2 i ad o h1 h2 hb) e
  induction o with
  |list l=>obtain⟨vs,n,e,r⟩:=z;exact⟨vs,n,k _ _ (mem_singleton_self _) e,r⟩
  |inst c fs=>obtain⟨e1,e2,e3,es,n,e4,r⟩:=z;exact⟨k _ _ (.head _) e1,e2,e3,es,n,k _ _ (.tail _ (.head _)) e4,r⟩
  |exc p=>obtain⟨e1,⟨vs,e2,r⟩,es,n,v,e3,r'⟩:=z;exact⟨e1,⟨vs,k _ _ (.head _) e2,r⟩,es,n,v,k _ _ (.tail _ (.head _)) e3,r'⟩
  |gone=>trivial
 ·obtain⟨a1,a2,o,a3⟩:=R.cA a ha;refine⟨a1,a2,?_⟩;by_cases c:a∈X.fr
  ·obtain⟨sl,e⟩:=q.slot a o c a3;exact⟨_,e⟩
  ·exact⟨o,q.same a o c (fun z=>(hS a z).2.2.1 ha) a3⟩
 ·obtain⟨a1,L,m,a2,a3⟩:=R.pg e he;exact⟨a1,L,m,a2,q.ns a3 (.inl (mem_filterMap.mpr ⟨e,he,a2⟩))⟩
theorem Step.quiet{h h':Heap}(q:Quiet X S h h')(hS:∀a∈S,dB X B φ σ a):Step X B φ h B φ h':=by
 have ap:∀a∈X.eS,a∈X.fr∨a∉S:=fun a ha=>.inr fun z=>(hS a z).2.2.1 ha;refine⟨fun U U e=>e,(fun U U e n=>by rw[n]at e;contradiction),prefix_refl _,fun e he=>⟨fun m hm=>?_,fun x hx v hv=>?_⟩,fun e he L m hL hm=>?_⟩
 ·exact q.ns hm (ap _ (mem_append.mpr (.inr (mem_flatMap.mpr ⟨e,he,.head _⟩))))
 ·exact q.cell hv (ap _ (mem_append.mpr (.inr (mem_flatMap.mpr ⟨e,he,.tail _ (mem_map.mpr ⟨x,hx,rfl⟩)⟩))))
 ·exact q.ns hm (ap _ (mem_append.mpr (.inl (mem_filterMap.mpr ⟨e,he,hL⟩))))
theorem CU{h:Heap}:∀{l:List Env},(∀e∈l,e.scope.kind≠ .module∧∃L m,e.frame=some L∧h.Ns L m)→h.FunFrames ({}:Heap) l:=by
 intro rv;induction rv with
 |nil=>exact fun o=>trivial
 |cons e r ih=>
  intro k;obtain⟨a,L,m,b,o,es,ep,c,d,_⟩:=k e (.head _);exact⟨a,⟨L,o,b,by dsimp[Heap.get?],c,fun vs q=>by replace q:=d▸q;cases q⟩,ih fun e' he=>k e' (.tail _ he)⟩
theorem CW(R:Rel X B φ σ s)(sN:X.A.frames=some X.outer){env:Env}{L:Addr}(hf:env.frame=some L)(hc:X.outer.head?.bind (·.frame)=some L){Q:Value→Shared→Prop}{E:Value→Shared→Prop}
  (h:∀h',Quiet X [] s.heap h'→(∀b,b∉X.fr→h'.get? b=s.heap.get? b)→h'.objs.size=s.heap.objs.size→Q (.ref L) {s with heap:=h'}):wpAny X.M X.A (PySem.frameOf env) Q E s:=by
 have hl:=CU R.pg
 generalize ho:X.outer=gg;induction gg with
 |nil=>rw[ho]at hc;contradiction
 |cons c rest=>
  rw[ho]at hc sN hl;have hc:c.frame=some L:=hc;unfold PySem.frameOf;refine wpAny_bind (wpAny_frameEnvs sN ?_);refine ER ((by simp[List.dropWhile,hc,hf]):((c::rest).dropWhile fun x=>x.frame !=env.frame)=c::rest) ?_;unfold frameObject;refine wpAny_bind (wpAny_bind (wpAny_readyFrames_fun hl fun h₁ hs₁=>wpAny_pure ?_));refine ER hc ?_;refine wpAny_pure (h h₁ ⟨fun b o n U e=>?_,fun b o m e=>hs₁.2.2 b o e⟩ (fun b n=>hs₁.2.1 b (by unfold Fx.fr at n;rw[ho]at n;exact n)) hs₁.1);unfold Fx.fr at n;rw[ho]at n;exact(hs₁.2.1 b n).trans e
structure ExcAt (X:Fx) (B:Fz) (φ:AA) (σ:LM) (h:Heap) (p:P) (e dx:Addr):Prop where
 HK:dx≠e∧V2 B h dx p
 free:dB X B φ σ e∧dB X B φ σ dx
 obj:∃vs,h.get? e=some ⟨.ref fY,some dx,.fields vs,#[]⟩∧(∃a0,vs[0]?=some a0)∧(vs[1]?=some .none∨V1 X B φ σ h vs e dx)
theorem Exc.at{h:Heap}{p:P}{e:Addr}(x:Exc X B φ σ h p e):∃dx,ExcAt X B φ σ h p e dx:=by
 obtain⟨dx,vs,h1,h2,h3,h4,h5,h6⟩:=x.obj;exact⟨dx,⟨h3,h4⟩,⟨h5 e (.inl rfl),h5 dx (.inr rfl)⟩,vs,h1,h2,h6⟩
theorem ExcAt.exc{h:Heap}{p:P}{e dx:Addr}(x:ExcAt X B φ σ h p e dx):Exc X B φ σ h p e:=by
 obtain⟨vs,h1,h2,h3⟩:=x.obj;exact⟨dx,vs,h1,h2,x.HK.1,x.HK.2,fun a ha=>by rcases ha with rfl|rfl;exact x.free.1;exact x.free.2,h3⟩
theorem dB.oz{a:Addr}(h:dB X B φ σ a):a∉X.fr:=fun z=>h.2.2.1 (qQ z)
theorem Rel.uH(R:Rel X B φ σ s){a:Addr}(ha:s.heap.objs.size≤a):dB X B φ σ a:=R.fresh ha
theorem vY{h:Heap}{a:Addr}{o o':Obj}(dG:∀x,h.get? x=some o→x=a→o'.isFreed=false)(ho:h.get? a=some o)(f:Obj→Obj)(hf:(f o).isFreed=false)(sN:a∉X.fr):Quiet X [a] h (h.update a f):=
 ⟨fun b x U n e=>(get?_update_other h f (fun q=>n (by refine ER q ?_;exact .head _))).trans e,
 fun b x m e=>⟨x.slots,(get?_update_other h f (fun q=>sN (by rw[q];exact m))).trans e⟩⟩
structure SQ (X:Fx) (B:Fz) (φ:AA) (σ:LM) (s:Shared) (p:P) (e:Addr) (L:Addr) (s':Shared):Prop where
 rel:Rel X B φ σ s'
 step:Step X B φ s.heap B φ s'.heap
 exc:Exc X B φ σ s'.heap p e
 tr:∃o vs T,s'.heap.get? e=some o∧o.data= .fields vs∧vs[1]?=some (.ref T)
theorem zg(R:Rel X B φ σ s)(sN:X.A.frames=some X.outer){env:Env}{L:Addr}(hf:env.frame=some L)(hc:X.outer.head?.bind (·.frame)=some L){p:P}{e dx:Addr}(x:ExcAt X B φ σ s.heap p e dx){head:Value}{Qx:Bool}{E:Value→Shared→Prop}:
  wpAny X.M X.A (do let a ←PySem.frameOf env;let pl ←entryPlaceOf L Qx;let b ←EntryCells.newEntry head a .none (rawInt L) .none pl;setField (.ref e) 1 b) (fun U s'=>SQ X B φ σ s p e L s') E s:=by
 obtain⟨vs,he,⟨a0,h0⟩,h1⟩:=x.obj;obtain⟨hdx,es,n,v,hd,hat,hv⟩:=x.HK;have Hq:1<vs.size:=by
  rcases h1 with h1|⟨T,oT,ts,h1,_⟩<;>exact(Array.getElem?_eq_some_iff.mp h1).1
 refine wpAny_bind (CW R sN hf hc fun h₁ q₁ aaU z₁=>?_);refine wpAny_bind (wpAny_entryPlaceOf fun pl hpl=>?_);unfold EntryCells.newEntry newFields;refine wpAny_bind (wpAny_newObj_type ?_ (hpl.sizeOk5 _ _ _ _ _));have he₁:h₁.get? e=some _:=(aaU e x.free.1.oz).trans he;generalize hob:({cls:=.type "traceback",dict:=none,data:=.fields ([head,.ref L,.none,rawInt L,.none]++(if pl.isEmpty then List.replicate 6 Value.none else pl)).toArray}:Obj)=ob;have he₂:=get?_push_of_some (h:=h₁) ob he₁;have hfd:((⟨.ref fY,some dx,.fields vs,#[]⟩:Obj)).data= .fields vs:=rfl;have hd₃:=Obj.data_mapFields hfd (·.setIfInBounds 1 (Value.ref h₁.objs.size));have hfree:=Obj.isFreed_of_fields hd₃;refine wpAny_setField he₂ rfl Hq ?_;have qs:=vY (X:=X) (o':=Obj.mapFields (·.setIfInBounds 1 (Value.ref h₁.objs.size)) ⟨.ref fY,some dx,.fields vs,#[]⟩) (fun U U U=>hfree) he₂ (Obj.mapFields (·.setIfInBounds 1 (Value.ref h₁.objs.size))) hfree x.free.1.oz;have q:Quiet X [e] s.heap ((h₁.push ob).update e (Obj.mapFields (·.setIfInBounds 1 (Value.ref h₁.objs.size)))):=((q₁.mono fun U h=>(not_mem_nil h).elim).trans (Quiet.grow (a8 h₁ ob))).trans qs;have hS:∀a∈[e],dB X B φ σ a:=fun a ha=>by rw[mem_singleton.mp ha];exact x.free.1
 have R':=R.quiet (tk:=s.toks) q hS;have hTe:h₁.objs.size≠e:=ne_of_gt (lt_size he₁);have he₃:=get?_update_self (Obj.mapFields (·.setIfInBounds 1 (Value.ref h₁.objs.size))) he₂ hfree;have hT₃:=(get?_update_other (h₁.push ob) (Obj.mapFields (·.setIfInBounds 1 (Value.ref h₁.objs.size))) (Ne.symm hTe)).trans (get?_push_size h₁ (by refine EL hob ?_;rfl));have hTd:h₁.objs.size≠dx:=by exact ne_of_gt (lt_size ((aaU dx x.free.2.oz).trans hd))
 refine⟨R',Step.quiet q hS,ExcAt.exc (dx:=dx) ⟨⟨hdx,es,n,v,(q.same dx _ x.free.2.oz (by simp[hdx]) hd),hat,hv⟩,x.free,_,he₃,⟨a0,?_⟩,.inr ⟨h₁.objs.size,ob,_,?_,hT₃,EL hob rfl,?_,hTe,hTd,R.uH (le_of_eq z₁.symm)⟩⟩,_,_,h₁.objs.size,he₃,rfl,?_⟩
 ·show(vs.setIfInBounds 1 _)[0]?=_;rw[Array.getElem?_setIfInBounds_ne (by decide)];exact h0
 ·show(vs.setIfInBounds 1 _)[1]?=_;simp[Hq]
 ·simp only[size_toArray,length_append,length_cons,length_nil];simp+arith
 ·show(vs.setIfInBounds 1 _)[1]?=_;simp[Hq]
theorem qR(R:Rel X B φ σ s)(sN:X.A.frames=some X.outer){env:Env}{L:Addr}(hf:env.frame=some L)(hc:X.outer.head?.bind (·.frame)=some L){p:P}{e:Addr}(x:Exc X B φ σ s.heap p e){E:Value→Shared→Prop}:
  wpAny X.M X.A (noteFrame (.ref e) env) (fun U s'=>SQ X B φ σ s p e L s') E s:=by
 obtain⟨dx,x⟩:=x.at;obtain⟨vs,he,h0,h1⟩:=x.obj;unfold noteFrame;simp only[hf];rcases h1 with h1|⟨T,oT,ts,h1,hT,hTd,Hq,hTe,hTdx,hTf⟩
 ·refine wpAny_bind (wpAny_field he rfl h1 ?_);refine ER (if_neg (by decide)) ?_;exact zg R sN hf hc x
 ·refine wpAny_bind (wpAny_field he rfl h1 ?_);refine ER (if_pos (show(Value.ref T !=Value.none)=true from by rfl)) ?_;obtain⟨v3,h3⟩:∃v,ts[3]?=some v:=⟨ts[3],by simp+arith⟩;refine wpAny_bind (wpAny_field hT hTd h3 ?_);refine iT (fun _=>?_) fun _=>?_
  ·exact wpAny_pure ⟨R,Step.refl ..,x.exc,_,vs,T,he,rfl,h1⟩
  ·refine wpAny_bind (wpAny_setField hT hTd Hq ?_);have hd₃:=Obj.data_mapFields hTd (·.setIfInBounds 3 Value.none);have hfree:=Obj.isFreed_of_fields hd₃;have q:=vY (X:=X) (o':=Obj.mapFields (·.setIfInBounds 3 Value.none) oT) (fun U U U=>hfree) hT (Obj.mapFields (·.setIfInBounds 3 Value.none)) hfree hTf.oz;have hS:∀a∈[T],dB X B φ σ a:=fun a ha=>by rw[mem_singleton.mp ha];exact hTf
   obtain⟨hdx,es,n,v,hd,r⟩:=x.HK;have x':ExcAt X B φ σ (s.heap.update T (Obj.mapFields (·.setIfInBounds 3 Value.none))) p e dx:=⟨⟨hdx,es,n,v,q.same dx _ x.free.2.oz (by simp[Ne.symm hTdx]) hd,r⟩,x.free,vs,
    q.same e _ x.free.1.oz (by simp[Ne.symm hTe]) he,h0,.inr ⟨T,_,_,h1,get?_update_self _ hT hfree,hd₃,by simpa using Hq,hTe,hTdx,hTf⟩⟩
   refine wpAny_mono (zg (s:={s with heap:=s.heap.update T (Obj.mapFields (·.setIfInBounds 3 Value.none))}) (R.quiet (tk:=s.toks) q hS) sN hf hc x') (fun U s' q'=>?_) fun U U z=>z;exact⟨q'.rel,(Step.quiet q hS).trans q'.step,q'.exc,q'.tr⟩
theorem gH(R:Rel X B φ σ s){p:P}{e:Addr}(x:Exc X B φ σ s.heap p e){fl:Option Addr}{Q:Unit→Shared→Prop}{E:Value→Shared→Prop}
  (k:∀s',Rel X B φ σ s'→Step X B φ s.heap B φ s'.heap→Exc X B φ σ s'.heap p e→Q () s'):wpAny X.M X.A (setFlight (.ref e) fl) Q E s:=by
 obtain⟨dx,x⟩:=x.at;obtain⟨vs,he,h0,h1⟩:=x.obj;unfold setFlight;rcases h1 with h1|⟨T,oT,ts,h1,hT,hTd,Hq,hTe,hTdx,hTf⟩
 ·refine wpAny_bind (wpAny_field he rfl h1 ?_);refine ER (if_neg (by decide)) ?_;exact wpAny_pure (k _ R (Step.refl ..) x.exc)
 ·refine wpAny_bind (wpAny_field he rfl h1 ?_);refine ER (if_pos (show(Value.ref T !=Value.none)=true from by rfl)) ?_;refine wpAny_setField hT hTd Hq ?_;generalize (fl.elim Value.none fun f=>rawInt f)=nv;have hd₃:=Obj.data_mapFields hTd (·.setIfInBounds 3 nv);have hfree:=Obj.isFreed_of_fields hd₃;have q:=vY (X:=X) (o':=Obj.mapFields (·.setIfInBounds 3 nv) oT) (fun U U U=>hfree) hT (Obj.mapFields (·.setIfInBounds 3 nv)) hfree hTf.oz;have hS:∀a∈[T],dB X B φ σ a:=fun a ha=>by rw[mem_singleton.mp ha];exact hTf
  obtain⟨hdx,es,n,v,hd,r⟩:=x.HK;exact k _ (R.quiet (tk:=s.toks) q hS) (Step.quiet q hS) (ExcAt.exc (dx:=dx) ⟨⟨hdx,es,n,v,q.same dx _ x.free.2.oz (by simp[Ne.symm hTdx]) hd,r⟩,x.free,vs,
    q.same e _ x.free.1.oz (by simp[Ne.symm hTe]) he,h0,.inr ⟨T,_,_,h1,get?_update_self _ hT hfree,hd₃,by simpa using Hq,hTe,hTdx,hTf⟩⟩)
theorem CX(R:Rel X B φ σ s)(sN:X.A.frames=some X.outer){env:Env}{L:Addr}(hf:env.frame=some L)(hc:X.outer.head?.bind (·.frame)=some L){p:P}{e:Addr}(x:Exc X B φ σ s.heap p e){Q:Unit→Shared→Prop}{E:Value→Shared→Prop}
  (k:∀s',Rel X B φ σ s'→Step X B φ s.heap B φ s'.heap→Exc X B φ σ s'.heap p e→Q () s'):wpAny X.M X.A (leaving env (.ref e)) Q E s:=by
 unfold leaving;refine wpAny_bind (wpAny_mono (qR R sN hf hc x) (fun U s' q=>?_) fun U U z=>z);exact gH q.rel q.exc fun EX a b c=>k EX a (q.step.trans b) c
end
section
set_option backward.match.sparseCases true
inductive Out where
 |next (le:ai)
 |ret (v:V)
structure SStep (X:Fx) (B:Fz) (φ:AA) (h:Heap) (B':Fz) (aP:AA) (h':Heap):Prop where
 bB:∀b o,B b=some o→B' b=some o
 fresh:∀b o,B' b=some o→B b=none→X.n0≤b∧X.P b=none
 pre:φ <+:aP
 outs:∀e∈X.outer.tail,∀L m,e.frame=some L→h.Ns L m→h'.Ns L m
theorem Step.toS{X:Fx}{B B':Fz}{φ aP:AA}{h h':Heap}(a:Step X B φ h B' aP h'):SStep X B φ h B' aP h':=⟨a.bB,a.fresh,a.pre,fun e he=>a.outs e (List.mem_of_mem_tail he)⟩
theorem SStep.trans{X:Fx}{B B' ML:Fz}{φ aP MM:AA}{h h' CL:Heap}(a:SStep X B φ h B' aP h')(b:SStep X B' aP h' ML MM CL):SStep X B φ h ML MM CL where
 bB:=fun x o e=>b.bB x o (a.bB x o e)
 fresh:=fun x o e n=>by
  generalize q:B' x=gg;induction gg with
  |none=>exact b.fresh x o e q
  |some o'=>exact a.fresh x o' q n
 pre:=a.pre.trans b.pre
 outs:=fun e he L m hL hm=>b.outs e he L m hL (a.outs e he L m hL hm)
theorem SStep.refl(X:Fx)(B:Fz)(φ:AA)(h:Heap):SStep X B φ h B φ h:=(Step.refl X B φ h).toS
structure vQ (X:Fx) (en:Env) (r:Nat):Prop extends EnOK X en r where
 envs:X.envs=[en]
 inter:interactive en=false
 frame:en.frame=some en.locals
 apart:∀e∈X.outer.tail,∀L,e.frame=some L→L≠en.locals∧∀c∈en.cells,c.2≠L
 cells:∀c∈en.cells,c.2≠en.locals
 pair:en.cells.Pairwise fun x y=>x.2≠y.2
 cellOf:∀x,en.kindOf x=some .cell→∃c,en.cells.lookup x=some c
structure iw (B:Fz) (φ:AA) (en:Env) (le:ai) (h:Heap):Prop where
 loc:Loc B φ en le h
 cells:∀c∈en.cells,∃v,h.IsCell c.2 v
def RO(en:Env):Fz→AA→Heap→Flow→Out→Prop:=fun B φ h f o=>match o with
 | .next le=>f= .next∧iw B φ en le h
 | .ret v=>∃val,f= .ret val∧dM B φ val v
inductive QS {α β:Type} (X:Fx) (B:Fz) (φ:AA) (h:Heap) (R:Fz→AA→Heap→β→α→Prop) (Q:MQ α) (val:β) (s':Shared):Prop
 |mk (B':Fz) (aP:AA) (ah:LM) (v:α) (r:Rel X B' aP ah s') (a:SStep X B φ h B' aP s'.heap) (q:R B' aP s'.heap val v) (k:Q v ah)
inductive ES (X:Fx) (B:Fz) (φ:AA) (h:Heap) (E:ME) (x:Value) (s':Shared):Prop
 |mk (B':Fz) (aP:AA) (ah:LM) (e:Addr) (p:P) (he:x= .ref e) (r:Rel X B' aP ah s') (a:SStep X B φ h B' aP s'.heap) (q:Exc X B' aP ah s'.heap p e) (k:E p ah)
def bN{α β:Type}(X:Fx)(B:Fz)(φ:AA)(R:Fz→AA→Heap→β→α→Prop)(t:Sem β)(c:WP α)(s:Shared):Prop:=
 ∀Q E,c Q E→wpAny X.M X.A t (QS X B φ s.heap R Q) (ES X B φ s.heap E) s
def Ex(X:Fx)(en:Env)(t:Sem Flow)(c:ai→M Out):Prop:=
 ∀B φ σ le s,Rel X B φ σ s→iw B φ en le s.heap→bN X B φ (RO en) t (c le σ) s
section
variable {X:Fx}{B:Fz}{φ:AA}{σ:LM}{s:Shared}{α β γ δ:Type}{en:Env}{r:Nat}
 {R:Fz→AA→Heap→β→α→Prop} {R':Fz→AA→Heap→δ→γ→Prop}
theorem QO.toS{h:Heap}{Q:MQ α}{val:β}{s':Shared}(q:QO X B φ h R Q val s'):QS X B φ h R Q val s':=(q).casesOn fun B' aP ah v a b c k=>⟨B',aP,ah,v,a,b.toS,c,k⟩
theorem EO.toS{h:Heap}{E:ME}{x:Value}{s':Shared}(q:EO X B φ h E x s'):ES X B φ h E x s':=(q).casesOn fun B' aP ah e p he a b c k=>⟨B',aP,ah,e,p,he,a,b.toS,c,k⟩
theorem aE.toS{t:Sem β}{c:WP α}(h:aE X B φ R t c s):bN X B φ R t c s:=fun U U z=>wpAny_mono (h _ _ z) (fun U U q=>q.toS) fun U U q=>q.toS
theorem QS.after{h h':Heap}{bA:Fz}{aS:AA}(S:SStep X B φ h bA aS h'){Q:MQ α}{val:β}{s':Shared}(q:QS X bA aS h' R Q val s'):QS X B φ h R Q val s':=
 (q).casesOn fun B' aP ah v a b c k=>⟨B',aP,ah,v,a,S.trans b,c,k⟩
theorem ES.after{h h':Heap}{bA:Fz}{aS:AA}(S:SStep X B φ h bA aS h'){E:ME}{x:Value}{s':Shared}(q:ES X bA aS h' E x s'):ES X B φ h E x s':=
 (q).casesOn fun B' aP ah e p he a b c k=>⟨B',aP,ah,e,p,he,a,S.trans b,c,k⟩
theorem bN.bind{t:Sem β}{c:WP α}{k:β→Sem δ}{f:α→M γ}(a:bN X B φ R t c s)
  (b:∀v σ val s' B' aP,Rel X B' aP σ s'→SStep X B φ s.heap B' aP s'.heap→R B' aP s'.heap val v→bN X B' aP R' (k val) (f v σ) s'):bN X B φ R' (t >>=k) (fun Q E=>c (fun v σ=>f v σ Q E) E) s:=
 fun Q E h=>wpAny_bind (wpAny_mono (a _ _ h) (fun val s' hh=>hh.casesOn fun B' aP ah v hR hS hV z=>wpAny_mono (b v ah val s' B' aP hR hS hV Q E z) (fun U U q=>q.after hS) fun U U q=>q.after hS) fun U U q=>q)
theorem bN.pure{val:β}{v:α}(hR:Rel X B φ σ s)(hV:R B φ s.heap val v):bN X B φ R (Pure.pure val) (fun Q U=>Q v σ) s:=(aE.pure hR hV).toS
theorem bN.CM{t:Sem β}{c A:WP α}(d:bN X B φ R t c s)(k:∀Q E,A Q E→c Q E):bN X B φ R t A s:=fun Q E z=>d Q E (k Q E z)
theorem bN.standAt{t:Sem β}{c:WP α}{p:Pos}(h:bN X B φ R t c s):bN X B φ R (PySem.standAt p >>=fun U=>t) c s:=fun U U n=>wpAny_bind (wpAny_standAt (h _ _ n))
theorem iw.step{B':Fz}{aP:AA}{h h':Heap}{le:ai}(x:iw B φ en le h)(a:Step X B φ h B' aP h')(he:en∈X.envs):iw B' aP en le h':=
 ⟨x.loc.step a he,fun c hc=>(x.cells c hc).casesOn fun v hv=>⟨v,(a.envs en he).2 c hc v hv⟩⟩
theorem bN.head{t:Sem β}{c:WP α}{k:β→Sem δ}{f:α→M γ}{le:ai}(hE:EnOK X en r)(a:aE X B φ R t c s)(L:iw B φ en le s.heap)
  (b:∀v σ val s' B' aP,Rel X B' aP σ s'→iw B' aP en le s'.heap→R B' aP s'.heap val v→bN X B' aP R' (k val) (f v σ) s'):bN X B φ R' (t >>=k) (fun Q E=>c (fun v σ=>f v σ Q E) E) s:=
 fun Q E h=>wpAny_bind (wpAny_mono (a _ _ h) (fun val s' hh=>hh.casesOn fun B' aP ah v hR hS hV z=>wpAny_mono (b v ah val s' B' aP hR (L.step hS hE.mem) hV Q E z) (fun U U q=>q.after hS.toS) fun U U q=>q.after hS.toS) fun U U q=>q.toS)
theorem Rel.pw(R:Rel X B φ σ s){a:Addr}(ha:a∈X.eS){h':Heap}{tk:Nat}(hs:Heap.SameBut a s.heap h')(ho:∃o,h'.get? a=some o)(hn:∀m,s.heap.Ns a m→∃m',h'.Ns a m'):Rel X B φ σ {s with heap:=h',toks:=tk}:=by
 have nb:=(R.cA a ha).1
 have np:=(R.cA a ha).2.1
 refine⟨R.gl,?_,R.kH,fun b o e=>?_,fun b o e=>?_,R.len,fun i ad o h1 h2=>?_,R.own,R.inj,R.young,fun b hb=>?_,fun e he=>?_,R.sz,R.k0⟩
 ·obtain⟨h,t,e⟩:=R.same;exact⟨h',tk,ER e rfl⟩
 ·exact(hs.2 b fun q=>by subst q;rw[np]at e;contradiction).trans (R.kP b o e)
 ·exact(hs.2 b fun q=>by subst q;rw[nb]at e;contradiction).trans (R.kB b o e)
 ·have z:=R.objs i ad o h1 h2;have k:∀b,b∈fh ad o→h'.get? b=s.heap.get? b:=fun b hb=>hs.2 b fun q=>by subst q;exact(R.own i ad o b h1 h2 hb).2.2 ha
  induction o with
  |list l=>obtain⟨vs,n,e,r⟩:=z;exact⟨vs,n,(k _ (mem_singleton_self _)).trans e,r⟩
  |inst c fs=>obtain⟨e1,e2,e3,es,n,e4,r⟩:=z;exact⟨(k _ (.head _)).trans e1,e2,e3,es,n,(k _ (.tail _ (.head _))).trans e4,r⟩
  |exc p=>obtain⟨e1,⟨vs,e2,r⟩,es,n,v,e3,r'⟩:=z;exact⟨e1,⟨vs,(k _ (.head _)).trans e2,r⟩,es,n,v,(k _ (.tail _ (.head _))).trans e3,r'⟩
  |gone=>trivial
 ·obtain⟨a1,a2,o,a3⟩:=R.cA b hb;refine⟨a1,a2,?_⟩;by_cases q:b=a
  ·subst q;exact ho
  ·exact⟨o,(hs.2 b q).trans a3⟩
 ·obtain⟨a1,L,m,a2,a3⟩:=R.pg e he;refine⟨a1,L,?_⟩;by_cases q:L=a
  ·subst q;obtain⟨m',z⟩:=hn m a3;exact⟨m',a2,z⟩
  ·exact⟨m,a2,a3.sameBut hs q⟩
theorem SStep.pw{h h':Heap}{a:Addr}(hs:Heap.SameBut a h h')(ha:∀e∈X.outer.tail,∀L,e.frame=some L→L≠a):SStep X B φ h B φ h':=
 ⟨fun U U e=>e,(fun U U e n=>by rw[n]at e;contradiction),prefix_refl _,fun e he L m hL hm=>hm.sameBut hs (ha e he L hL)⟩
theorem BK{h:Heap}{a:Addr}{m m':Str→Option Value}(x:h.Ns a m)(y:h.Ns a m'):m=m':=x.eq_nsMap.trans y.eq_nsMap.symm
theorem EY{h:Heap}{a:Addr}{v:Option Value}{m:Str→Option Value}(hc:h.IsCell a v)(hn:h.Ns a m):False:=by
 obtain⟨o,es,ep,ho,hd,_⟩:=hn;obtain⟨o',ho',hd'⟩:=hc;rw[ho]at ho';obtain rfl:=Option.some.inj ho';rw[hd]at hd';contradiction
theorem fj(hE:vQ X en r):en.locals∈X.eS:=mem_append.mpr (.inr (mem_flatMap.mpr ⟨en,hE.mem,.head _⟩))
theorem KG(hE:vQ X en r){c:Str×Addr}(hc:c∈en.cells):c.2∈X.eS:=mem_append.mpr (.inr (mem_flatMap.mpr ⟨en,hE.mem,.tail _ (mem_map.mpr ⟨c,hc,rfl⟩)⟩))
abbrev RL(en:Env)(le:ai):Fz→AA→Heap→Unit→Unit→Prop:=fun B φ h U U=>iw B φ en le h
theorem Loc.set{x:Str}{v:V}{le:ai}{h h':Heap}(L:Loc B φ en le h)(hx:idOf x<ids.length)(h0:∃m,h'.Ns en.locals m)(new:Qn B φ en h' x v∨Qo B φ en h' x v)(old:∀z w,z≠x→Qn B φ en h z w∨Qo B φ en h z w→Qn B φ en h' z w∨Qo B φ en h' z w):Loc B φ en (bx le (idOf x) v) h':=
 ⟨h0,fun z w hz hi=>by
  rw[qM]at hz;by_cases q:idOf x=idOf z
  ·rw[if_pos q]at hz;obtain rfl:=Option.some.inj hz;refine EL (idOf_inj hx q) ?_;exact new
  ·rw[if_neg q]at hz;exact old z w (fun e=>q (by rw[e])) (L.2 z w hz hi)⟩
theorem Loc.store{h h':Heap}{le:ai}{x:Str}{v:V}{val:Value}{m:Str→Option Value}(L:Loc B φ en le h)(hm:h.Ns en.locals m)(hn:h'.Ns en.locals (fun y=>if y=x then some val else m y))(hs:Heap.SameBut en.locals h h')
  (hk:en.kindOf x=some .local) (hx:idOf x<ids.length) (hc:∀c∈en.cells,c.2≠en.locals) (hV:dM B φ val v):Loc B φ en (bx le (idOf x) v) h':=
 L.set hx ⟨_,hn⟩ (.inl ⟨hk,_,val,hn,if_pos rfl,hV⟩) fun y w hy q=>by
  rcases q with ⟨k,m',mi,a,b,c⟩|⟨k,c,mi,a,b,d⟩
  ·exact .inl ⟨k,_,mi,hn,by refine ER (if_neg hy) (ER (BK hm a) ?_);exact b,c⟩
  ·exact .inr ⟨k,c,mi,a,b.sameBut hs (hc _ (mem_of_lookup a)),d⟩
theorem sO{x:Str}{v:V}{val:Value}{le:ai}(hE:vQ X en r)(hR:Rel X B φ σ s)(L:iw B φ en le s.heap)(hV:dM B φ val v)
  (hk:en.kindOf x=some .local∨en.kindOf x=some .cell) (hx:idOf x<ids.length):bN X B φ (RL en (bx le (idOf x) v)) (storeName en x val) (fun Q U=>Q () σ) s:=fun Q E z=>by
 rcases hk with hk|hk
 ·obtain⟨m,hm⟩:=L.loc.1;exact wpAny_storeName_local hk hm (fun h' hn hs=>⟨B,φ,σ,(),hR.pw (tk:=s.toks+1) (fj hE) hs ⟨_,hn.choose_spec.choose_spec.choose_spec.1⟩ fun U U=>⟨_,hn⟩,SStep.pw hs fun e he L' hL'=>(hE.apart e he L' hL').1,
   ⟨L.loc.store hm hn hs hk hx hE.cells hV,fun c hc=>(L.cells c hc).casesOn fun v' hv'=>⟨v',hv'.sameBut hs (hE.cells c hc)⟩⟩,z⟩) (by refine ER hE.kind ?_;rfl)
 ·obtain⟨c,hc⟩:=hE.cellOf x hk;obtain⟨v₀,hv₀⟩:=L.cells _ (mem_of_lookup hc);have hcl:=hE.cells _ (mem_of_lookup hc);refine wpAny_storeName_cell hE.kind hk hc hv₀ fun h' hn hs=>⟨B,φ,σ,(),hR.pw (tk:=s.toks) (KG hE (mem_of_lookup hc)) hs ⟨_,hn.choose_spec.1⟩ fun m hm=>(EY hv₀ hm).elim,SStep.pw hs fun e he L' hL'=>((hE.apart e he L' hL').2 _ (mem_of_lookup hc)).symm,
   ⟨L.loc.set hx ((L.loc.1).casesOn fun m hm=>⟨m,hm.sameBut hs hcl.symm⟩) (.inr ⟨.inl hk,c,val,hc,hn,hV⟩) fun y w hy q=>?_,fun c' hc'=>?_⟩,z⟩
  ·rcases q with ⟨k,m',mi,a,b,d⟩|⟨k,c',mi,a,b,d⟩
   ·exact .inl ⟨k,m',mi,a.sameBut hs hcl.symm,b,d⟩
   ·exact .inr ⟨k,c',mi,a,b.sameBut hs fun q'=>hy (name_of_addr hE.pair (mem_of_lookup a) (q'.symm▸mem_of_lookup hc)),d⟩
  ·by_cases q:c'.2=c
   ·exact⟨_,by refine ER q ?_;exact hn⟩
   ·obtain⟨v',hv'⟩:=L.cells c' hc';exact⟨v',hv'.sameBut hs q⟩
def ak:ai→M Out:=fun le σ Q U=>Q (.next le) σ
def cB(b:ai→M Out)(Q:MQ Out)(E:ME):MQ Out:=fun o σ=>match o with
 | .next le=>b le σ Q E
 | .ret v=>Q (.ret v) σ
def ae(a b:ai→M Out):ai→M Out:=fun le σ Q E=>a le σ (cB b Q E) E
abbrev Yv(Q:MQ Out):MQ V:=fun v σ=>Q (.ret v) σ
abbrev Yw(x:Nat)(le:ai)(Q:MQ Out):MQ V:=fun v σ=>Q (.next (bx le x v)) σ
abbrev ZW(le:ai)(Q:MQ Out):MQ V:=fun U σ=>Q (.next le) σ
def aX(c:ai→M V):ai→M Out:=fun le σ Q E=>c le σ (Yv Q) E
def aN(x:Nat)(c:ai→M V):ai→M Out:=fun le σ Q E=>c le σ (Yw x le Q) E
def oU(c:ai→M V):ai→M Out:=fun le σ Q E=>c le σ (ZW le Q) E
def dP(t:ai→M Bool)(a b:ai→M Out):ai→M Out:=fun le σ Q E=>t le σ (V8 a b le Q E) E
theorem Ex.nil:Ex X en (execs [] en) ak:=fun U U U U U hR L=>bN.pure hR ⟨rfl,L⟩
theorem Ex.cons{st:Stmt}{rest:List Stmt}{a b:ai→M Out}(h1:Ex X en (exec st en) a)(h2:Ex X en (execs rest en) b):Ex X en (execs (st::rest) en) (ae a b):=fun B φ σ le s hR L=>
 show bN X B φ (RO en) (exec st en >>=fun f=>match f with| .next=>execs rest en|f=>Pure.pure f) (fun Q E=>a le σ (cB b Q E) E) s from
 (h1 B φ σ le s hR L).bind (f:=fun o σ Q E=>cB b Q E o σ) fun o br f aZ bA aS hR₁ hS₁ hV₁=>by
  induction o with
  |next jd=>obtain⟨rfl,L'⟩:=hV₁;exact h2 bA aS br jd aZ hR₁ L'
  |ret v=>obtain⟨val,rfl,hv⟩:=hV₁;exact bN.pure hR₁ ⟨val,rfl,hv⟩
theorem Ex.ret{e:Expr}{c:ai→M V}{pos}(hE:EnOK X en r)(h:Ev X en e c):Ex X en (exec (.Return (some e) pos) en) (aX c):=by
 intro B φ σ le s hR L;refine ER (exec_Return_some ..) ?_;exact bN.standAt (bN.head hE (h B φ σ le s hR L.loc) L (f:=fun v σ Q U=>Q (Out.ret v) σ) fun v br val aZ bA aS hR₁ L₁ hV₁=>bN.pure hR₁ ⟨val,rfl,hV₁⟩)
noncomputable def iy(e:Expr):Bool:=Nat.blt e.ctorIdx 8 || Nat.blt 10 e.ctorIdx
theorem jY{e:Expr}(h:iy e=true)(t:Option Expr)(l:Nat):swapsWith e t l en=Pure.pure false:=by
 unfold swapsWith;cases e<;>first|rfl|(exact Bool.noConfusion ‹_›)
theorem Ex.set{e:Expr}{x:Str}{c:ai→M V}{aaM pos}(hE:vQ X en r)(hx:idOf x<ids.length)(hk:en.kindOf x=some .local∨en.kindOf x=some .cell)(hn:iy e=true)(h:Ev X en e c):Ex X en (exec (.Assign [.Name x aaM] e pos) en) (aN (idOf x) c):=by
 intro B φ σ le s hR L;refine ER (exec_Assign_Name _ _ _ _ _ (jY hn _ _)) ?_;exact bN.standAt (bN.head hE.toEnOK (h B φ σ le s hR L.loc) L (f:=fun v σ Q U=>Q (Out.next (bx le (idOf x) v)) σ) fun v br val aZ bA aS hR₁ L₁ hV₁=>bN.standAt fun Q E z=>
  wpAny_bind (wpAny_bindName (wpAny_mono (sO hE hR₁ L₁ hV₁ hk hx (fun U σ=>Q (Out.next (bx le (idOf x) v)) σ) E z) (fun U s₂ hh=>hh.casesOn fun B' aP ah U R' S' L' k=>wpAny_pure ⟨B',aP,ah,Out.next _,R',S',⟨rfl,L'⟩,k⟩) fun U U z=>z)))
theorem Ex.ZX{t:Expr}{a b:List Stmt}{ct:ai→M Bool}{ca cb:ai→M Out}{pos}(hE:EnOK X en r)(h:Tr X en t ct)(h1:Ex X en (execs a en) ca)(h2:Ex X en (execs b en) cb):Ex X en (exec (.If t a b pos) en) (dP ct ca cb):=by
 intro B φ σ le s hR L;refine ER (exec_If ..) ?_;refine bN.standAt (bN.head hE (h B φ σ le s hR L.loc) L (f:=fun c σ Q E=>aT c (ca le σ Q E) (cb le σ Q E)) fun c br c' aZ bA aS hR₁ L₁ hc=>?_);cases hc;induction c with
 |true=>exact(h1 bA aS br le aZ hR₁ L₁).CM fun U U z=>z.t rfl
 |false=>exact(h2 bA aS br le aZ hR₁ L₁).CM fun U U z=>z.f rfl
end
end
section
variable {X:Fx}{B:Fz}{φ:AA}{σ:LM}{s:Shared}{en:Env}{r:Nat}
theorem EZ(hE:EnOK X en r){L:Addr}(hf:en.frame=some L)(R:Rel X B φ σ s){p:P}{e:Addr}(x:Exc X B φ σ s.heap p e){E:Value→Shared→Prop}
  (k:∀s',Rel X B φ σ s'→Step X B φ s.heap B φ s'.heap→Exc X B φ σ s'.heap p e→E (.ref e) s'):
  notedBy X.M X.A en (fun e s'=>cameBackBy X.M X.A en E e s') (.ref e) s:=by
 unfold notedBy;refine wpAny_mono (qR R hE.MP hf ((by refine EL hE.code ?_;exact hf):X.outer.head?.bind (·.frame)=some L) x) (fun U s' q=>?_) fun U U z=>z;obtain⟨R',S',x',o,vs,T,ho,hd,h1⟩:=q;unfold cameBackBy;refine wpAny_bind (wpAny_field ho hd h1 ?_);refine ER (if_neg (show ¬((Value.ref T ==Value.none)=true) from by simp)) ?_;exact gH R' x' fun EX a b c=>k EX a (S'.trans b) c
abbrev Wo(b:ai→M Out)(go:ai→M Out)(le:ai)(Q:MQ Out)(E:ME):MQ Bool:=fun c σ=>aT c (b le σ (cB go Q E) E) (Q (.next le) σ)
noncomputable def fk:Nat→(ai→M Bool)→(ai→M Out)→ai→M Out
 |0,_,_,_=>fun U U U=>False
 |N+1,t,b,le=>fun σ Q E=>t le σ (Wo b (fk N t b) le Q E) E
inductive Yx (X:Fx) (B:Fz) (φ:AA) (h:Heap) (en:Env) (go:Nat→ai→LM→Prop) (n:Nat) (s':Shared):Prop
 |mk (B':Fz) (aP:AA) (ah:LM) (jd:ai) (r:Rel X B' aP ah s') (l:iw B' aP en jd s'.heap) (a:SStep X B φ h B' aP s'.heap) (g:go n jd ah)
theorem Ex.Wq{t:Expr}{b:List Stmt}{ct:ai→M Bool}{cb:ai→M Out}{pos}(N:Nat)(hE:vQ X en r)(h:Tr X en t ct)(hb:Ex X en (execs b en) cb):Ex X en (exec (.While t b [] pos) en) (fk N ct cb):=by
 intro B φ σ le s hR L Q E z;refine wpAny_While (codeAny_whileLoop (Yx X B φ s.heap en fun n le σ=>fk n ct cb le σ Q E) ?_ N ⟨B,φ,σ,le,hR,L,SStep.refl ..,z⟩);rintro n aZ ⟨bA,aS,br,le₁,gh,L₁,fZ,z⟩;induction n with
 |zero=>exact z.elim
 |succ n=>
  have err:∀{B₂ φ₂ h₂ x s₂},SStep X B φ s.heap B₂ φ₂ h₂→ES X B₂ φ₂ h₂ E x s₂→notedBy X.M X.A en (fun e s'=>cameBackBy X.M X.A en (ES X B φ s.heap E) e s') x s₂:=fun S hh=>hh.casesOn fun B₂ φ₂ dg e p he R₂ S₂ X₂ k=>by
   subst he;exact EZ hE.toEnOK hE.frame R₂ X₂ fun s₃ R₃ S₃ X₃=>⟨B₂,φ₂,dg,e,p,rfl,R₃,(S.trans S₂).trans S₃.toS,X₃,k⟩
  refine wpAny_mono (h bA aS br le₁ aZ gh L₁.loc _ _ z) (fun c' s₂ hh=>hh.casesOn fun B₂ φ₂ dg c R₂ S₂ hc z=>?_) fun x s₂ q=>err fZ q.toS;subst hc;have S:=fZ.trans S₂.toS;have L₂:=L₁.step S₂ hE.mem;induction c' with
  |false=>exact wpAny_execs_nil ⟨B₂,φ₂,dg,Out.next _,R₂,S,⟨rfl,L₂⟩,z.f rfl⟩
  |true=>
   refine wpAny_mono (hb B₂ φ₂ dg le₁ s₂ R₂ L₂ _ _ (z.t rfl)) (fun f s₃ hh=>hh.casesOn fun B₃ φ₃ σ₃ o R₃ S₃ hf z=>?_) fun x s₃ q=>err S q;induction o with
   |next jd=>obtain⟨rfl,L₃⟩:=hf;exact⟨n,lt_succ_self _,B₃,φ₃,σ₃,jd,R₃,L₃,S.trans S₃,z⟩
   |ret v=>obtain⟨val,rfl,hv⟩:=hf;exact⟨B₃,φ₃,σ₃,Out.ret v,R₃,S.trans S₃,⟨val,rfl,hv⟩,z⟩
inductive Wr (t:ai→M Bool) (b:ai→M Out) (le:ai) (σ:LM) (Q:MQ Out) (E:ME):Prop|mk (N:Nat) (q:fk N t b le σ Q E)
def gP(t:ai→M Bool)(b:ai→M Out):ai→M Out:=fun le σ Q E=>Wr t b le σ Q E
theorem Ex.loop{t:Expr}{b:List Stmt}{ct:ai→M Bool}{cb:ai→M Out}{pos}(hE:vQ X en r)(h:Tr X en t ct)(hb:Ex X en (execs b en) cb):Ex X en (exec (.While t b [] pos) en) (gP ct cb):=
 fun B φ σ le s hR L Q E hh=>hh.casesOn fun N z=>Ex.Wq N hE h hb B φ σ le s hR L Q E z
theorem Ex.ZY{e:Expr}{c:ai→M V}{pos}(hE:vQ X en r)(hn:iy e=true)(h:Ev X en e c):Ex X en (exec (.Expr e pos) en) (oU c):=by
 intro B φ σ le s hR L;refine ER (exec_Expr en _ _ hE.inter (jY hn _ _)) ?_;exact bN.standAt (bN.head hE.toEnOK (h B φ σ le s hR L.loc) L (f:=fun U σ Q U=>Q (Out.next le) σ) fun v br val aZ bA aS hR₁ L₁ hV₁=>fun Q E z=>wpAny_dropValue ⟨bA,aS,br,Out.next _,hR₁,SStep.refl ..,⟨rfl,L₁⟩,z⟩)
noncomputable def BL:ai→Ln→Lp→ai
 |le,x::xs,p::ps=>BL (bx le x (.p p)) xs ps
 |le,_,_=>le
def namesOf:List Expr→Option (Ls):=List.rec (some []) fun e l ih=>ja e (fun x p=>ih.map (x:: ·)) fun e=>none
def BN(en:Env)(x:Str):Prop:=(en.kindOf x=some .local∨en.kindOf x=some .cell)∧idOf x<ids.length
inductive zh:List Expr→Ls→Prop
 |nil:zh [] []
 |cons {x:Str} {p} {es:List Expr} {xs:Ls}:zh es xs→zh (.Name x p::es) (x::xs)
theorem uI:∀{es:List Expr} {xs:Ls},namesOf es=some xs→zh es xs:=by
 intro rv;induction rv with
 |nil=>exact fun {U} h=>by obtain rfl:=Option.some.inj h;exact .nil
 |cons e es ih=>
  intro xs h;cases e with
  |Name x p=>obtain⟨xs',h',rfl⟩:=map_eq_some_iff.mp (show(namesOf es).map (x:: ·)=some xs from h);exact .cons (ih h')
  |_=>exact Qm h
theorem KH(hE:vQ X en r){elts:List Expr}{xs:Ls}(hn:zh elts xs):∀{B:Fz} {φ:AA} {σ:LM} {s:Shared} {le:ai} {vals:Lv} {ps:Lp},(∀x∈xs,BN en x)→aG B vals ps→xs.length=vals.length→
  Rel X B φ σ s→iw B φ en le s.heap→bN X B φ (RL en (BL le (xs.map idOf) ps)) (assignInOrder ((assignEach elts en).map (·.2)) vals) (fun Q U=>Q () σ) s:=by
 induction hn with
 |nil=>intro B φ σ s le vals ps _ hv hl hR L;cases hv with
  |nil=>exact bN.pure hR L
  |cons _ _=>trivial
 |@cons x px es xs' hn ih=>intro B φ σ s le vals ps hk hv hl hR L Q E z;cases hv with
  |nil=>trivial
  |@cons val vals p ps hv hvs=>
   show wpAny _ _ (holding vals (assign (.Name x px) en val) >>=fun U=>assignInOrder ((assignEach es en).map (·.2)) vals) _ _ _;refine wpAny_bind (wpAny_holding ?_);refine ER (PySem.assign_Name ..) ?_;refine wpAny_bind (wpAny_standAt (wpAny_bindName (wpAny_mono (sO (v:=.p p) hE hR L hv (hk x (.head _)).1 (hk x (.head _)).2 (fun U σ=>Q () σ) E z) (fun U s₂ hh=>hh.casesOn fun B' aP ah U R' S' L' k=>?_) fun U U z=>z)));exact wpAny_mono (ih (fun y hy=>hk y (.tail _ hy)) (aG.mono S'.bB hvs) (by simpa using hl) R' L' Q E k) (fun U U q=>q.after S') fun U U q=>q.after S'
theorem BO(en:Env){elts:List Expr}{xs:Ls}(h:zh elts xs):(assignEach elts en).length=xs.length∧(assignEach elts en).findIdx? (·.1)=none:=by
 induction h with
 |nil=>exact⟨rfl,rfl⟩
 |@cons x px es xs _ ih=>
  refine⟨congrArg Nat.succ ih.1,?_⟩;show List.findIdx? (·.1) ((false,assign (.Name x px) en)::assignEach es en)=none;rw[List.findIdx?_cons,ih.2];rfl
inductive A5 where
 |one (x:Nat)
 |many (xs:Ln)
def xr:A5→P→ai→Option ai
 | .one x,p,le=>some (bx le x (.p p))
 | .many xs,.tup l,le=>if xs.length=l.length then some (BL le xs l)else none
 |_,_,_=>none
inductive E0 (en:Env):Expr→A5→Prop
 |one {x:Str} {px}:BN en x→E0 en (.Name x px) (.one (idOf x))
 |many {elts:List Expr} {xs:Ls} {k px}:namesOf elts=some xs→(∀x∈xs,BN en x)→E0 en (.Tuple elts k px) (.many (xs.map idOf))
theorem BP{xs:Ln}{p:P}{le jd:ai}(e:xr (.many xs) p le=some jd):∃l,p= .tup l∧xs.length=l.length∧BL le xs l=jd:=by
 cases p with
 |tup l=>obtain⟨h,e⟩:=CN (show(if xs.length=l.length then some (BL le xs l)else none)=some jd from e);exact⟨l,rfl,h,e⟩
 |_=>exact by cases e
theorem xu{tg:Expr}{t:A5}{p:P}{val:Value}{le jd:ai}(hE:vQ X en r)(ht:E0 en tg t)(hR:Rel X B φ σ s)(L:iw B φ en le s.heap)(hV:Is B val p)(e:xr t p le=some jd):
  bN X B φ (RL en jd) (assign tg en val) (fun Q U=>Q () σ) s:=fun Q E z=>by
 induction ht with
 |one hx=>
  obtain rfl:=Option.some.inj e
  refine ER (PySem.assign_Name ..) ?_;exact wpAny_bind (wpAny_standAt (wpAny_bindName (sO (v:=.p p) hE hR L hV hx.1 hx.2 Q E z)))
 |many hn hx=>
  obtain⟨l,rfl,hl,rfl⟩:=BP e;refine Is.A4 hV fun a vs n ht hv=>?_;obtain⟨h1,h2⟩:=BO en (uI hn);rw[length_map]at hl;have aaG:=hv.length;refine assign_Tuple_tuple (items:=vs.toArray) hE.room.hd ⟨_,hR.kB _ _ ht,rfl,n,rfl⟩ (ER h1 (ER hl (ER size_toArray (ER aaG rfl)))) h2 fun h' he=>?_;have k:∀b o,s.heap.get? b=some o→h'.get? b=some o:=fun b o e=>he b o (ne_of_lt (lt_size e)) e;have S':Step X B φ s.heap B φ h':=Step.grow k;exact wpAny_mono (KH hE (uI hn) hx hv (ER hl (ER aaG rfl)) (hR.grow (tk:=s.toks) k) (L.step S' hE.mem) Q E z) (fun U U q=>q.after S'.toS) fun U U q=>q.after S'.toS
inductive Ws (xs:Ln) (le:ai) (v:V) (Q:ai→Prop):Prop|mk (p:P) (jd:ai) (e:v= .p p) (e2:xr (.many xs) p le=some jd) (q:Q jd)
abbrev Wt(Q:MQ Out)(σ:LM):ai→Prop:=fun le=>Q (.next le) σ
abbrev Yy(xs:Ln)(le:ai)(Q:MQ Out):MQ V:=fun v σ=>Ws xs le v (Wt Q σ)
def M5(xs:Ln)(c:ai→M V):ai→M Out:=fun le σ Q E=>c le σ (Yy xs le Q) E
noncomputable def SR(e:Expr):Bool:= !Nat.beq e.ctorIdx 25
theorem Ex.ZZ{elts:List Expr}{xs:Ls}{e:Expr}{c:ai→M V}{k px pos}(hE:vQ X en r)(hn:namesOf elts=some xs)(hx:∀x∈xs,BN en x)(hc:iy e=true)(ht:SR e=true)(h:Ev X en e c):
  Ex X en (exec (.Assign [.Tuple elts k px] e pos) en) (M5 (xs.map idOf) c):=by
 intro B φ σ le s hR L;refine ER (arm_exec_Assign ..) (ER (show swapsWithSole [.Tuple elts k px] e pos.line en=Pure.pure false from jY (en:=en) hc (some (.Tuple elts k px)) pos.line ..) ?_);refine ER (show swappedStores [.Tuple elts k px] e en=Pure.pure none from by unfold swappedStores;cases e<;>first|rfl|(exact Bool.noConfusion ‹_›)) ?_;refine bN.standAt ?_;show bN X B φ (RO en) (eval e en >>=fun v=>assignStores en v none ((assignEach [.Tuple elts k px] en).map (·.2))) _ s;exact bN.head hE.toEnOK (h B φ σ le s hR L.loc) L (f:=fun v σ Q U=>Ws (xs.map idOf) le v fun jd=>Q (Out.next jd) σ) fun v br val aZ bA aS hR₁ L₁ hV₁=>fun Q E hh=>hh.casesOn fun p jd e hle z=>by
  subst e;show wpAny _ _ (assign (.Tuple elts k px) en val >>=fun U=>Pure.pure Flow.next) _ _ _;exact wpAny_bind (wpAny_mono (xu hE (.many hn hx) hR₁ L₁ hV₁ hle (fun U σ=>Q (Out.next jd) σ) E z) (fun U s₂ hh=>hh.casesOn fun B' aP ah U R' S' L' k=>wpAny_pure ⟨B',aP,ah,Out.next _,R',S',⟨rfl,L'⟩,k⟩) fun U U z=>z)
end
set_option tactic.hygienic true in
theorem E1{name:Str}{es:List DictEntry}{r:Option Value}(h:getL name es=some r):(!es.toArray.any (·.key.isStr name)&&es.toArray.any (·.refKey))=false:=by
 refine ER List.any_toArray (ER List.any_toArray ?_);unfold getL at h;split at h
 ·rename_i en he;rw[any_eq_true.mpr ⟨en,List.mem_of_find?_eq_some he,List.find?_some he⟩];rfl
 ·split at h
  ·contradiction
  ·rename_i z;rw[Bool.not_eq_true]at z;exact ER (z ..) (ER (Bool.and_false ..) rfl)
theorem KI{prog:Program}{w:World}{A:Around}{R:Result→Shared→Prop}{s:Shared}{K:Frag}{x dx C:Addr}{es:List DictEntry}{n:Nat}{name:Str}{v:Value}{r:Option Value}{tk:Tok}
  (X:K.In s.heap) (h1:s.heap.get? x=some (instObj C dx)) (h2:s.heap.get? dx=some (dictOf es n)) (hp:plainOver K C=true)
  (ht:takerIn K C name=some none) (hh:hasDictIn K C=true) (hl:getL name es=some r) (hz:es.length≤999)
  (q:R (.ok (.ret .none)) {s with heap:=s.heap.update dx (Obj.putName name (keyHash w.params name) (.str name s.toks) v),toks:=s.toks+1}):codeAny (model prog w) A (.call (.builtin "object.__setattr__") ⟨[.ref x,.str name tk,v],[]⟩) R s:=by
 refine osa_open X (qO h1 h2:InstAt s.heap x (instObj C dx) C (some (dictOf es n))) hp ht fun b=>?_;obtain⟨cd,hc,hd⟩:=any_some hh;have e:=putName_dict name (keyHash w.params name) (.str name s.toks) v es n;have aaG:∀es:List DictEntry,(putL name (keyHash w.params name) (.str name s.toks) v es).length≤es.length+1:=by
  intro es;induction es with
  |nil=>exact succ_pos _
  |cons e r ih=>unfold putL;refine iT (fun _=>?_) fun _=>?_<;>(first|exact le_add_right _ _|simp)<;>omega
 have D':=get?_update_self (Obj.putName name (keyHash w.params name) (.str name s.toks) v) h2 (by rw[e];rfl);rw[e]at D';refine wpAny_bind (wpAny_pure (wpAny_bind (wpAny_bind (wpAny_loadPart h1 (wpAny_bind ((looks_clsIn X hc).here ?_))))));refine ER hd ?_;refine wpAny_pure (a:=some dx) (wpAny_bind (wpAny_pure (wpAny_bind ?_)));unfold nsSet;refine wpAny_bind (wpAny_bind (wpAny_askSetting (wpAny_pure (wpAny_bind (wpAny_mkText (wpAny_bind (wpAny_loadPart h2 ?_)))))));dsimp only[dictOf];refine ER (aRefKeyMayBeTheName_at ..) (ER (E1 hl ..) ?_);refine wpAny_updatePart h2 ?_;refine wpAny_bind (wpAny_lookBehind D' (pastItsLine_dict (by refine ER size_toArray (ER sizeLine_eq ?_);have:=aaG es;lia)) ?_);exact wpAny_pure q
theorem HL{prog:Program}{w:World}{A:Around}{E:Value→Shared→Prop}{s:Shared}{K:Frag}{x dx C:Addr}{es:List DictEntry}{n:Nat}{name:Str}{v:Value}{r:Option Value}{Q:Unit→Shared→Prop}
  (X:K.In s.heap) (h1:s.heap.get? x=some (instObj C dx)) (h2:s.heap.get? dx=some (dictOf es n)) (hs:findIn K (.ref C) "__setattr__" =some (some (.builtin "object.__setattr__"))) (hp:plainOver K C=true)
  (ht:takerIn K C name=some none) (hh:hasDictIn K C=true) (hl:getL name es=some r) (hz:es.length≤999)
  (q:Q () {s with heap:=s.heap.update dx (Obj.putName name (keyHash w.params name) (.str name (s.toks+1)) v),toks:=s.toks+2}):wpAny (model prog w) A (setAttr (.ref x) name v) Q E s:=
 set_plain X (qO h1 h2) hs (KI (s:={s with toks:=s.toks+1}) X h1 h2 hp ht hh hl hz q)
theorem BQ{α:Type}{i n:Nat}{v w:α}{r:List (Nat×α)}:bx ((i,w)::r) n v=if i=n then(n,v)::r else(i,w)::bx r n v:=rfl
set_option tactic.hygienic true in
theorem qL.put{B:Fz}{φ:AA}{c:Nat}{es:List DictEntry}{fs:List (Nat×V)}(h:qL B φ c es fs){i:Nat}(hi:Internal.Hp c i=true)(hs:Int)(t:Tok){val:Value}{v:V}(hv:dM B φ val v):
  qL B φ c (putL (ident i) hs (.str (ident i) t) val es) (bx fs i v):=by
 induction h with
 |nil=>exact .cons hi hv .nil
 |cons hj hw r ih=>
  rename_i hh t' j w x es fs;show qL B φ c (if Value.isStr (.str (ident j) t') (ident i)=true then _ else _) _;rw[BQ];by_cases q:j=i
  ·subst q;have:(Value.isStr (.str (ident j) t') (ident j))=true:=by show((ident j) ==(ident j))=true;exact decide_eq_true rfl
   rw[if_pos this,if_pos rfl];exact .cons hj hv r
  ·have:(Value.isStr (.str (ident j) t') (ident i))=false:=by
    show((ident j) ==(ident i))=false;rw[beq_eq_false_iff_ne];exact fun e=>q (BH (zb hj) (zb hi) e)
   rw[if_neg (by rw[this];exact Bool.false_ne_true),if_neg q];exact .cons hj hw ih
theorem qL.length{B:Fz}{φ:AA}{c:Nat}{es:List DictEntry}{fs:List (Nat×V)}(h:qL B φ c es fs):es.length=fs.length:=by
 induction h with
 |nil=>rfl
 |cons _ _ _ ih=>simp[ih]
noncomputable def HM(n:Nat):V→Bool
 | .p _=>true
 | .ref m=>decide (m<n)
theorem KJ{n:Nat}{v:V}(h:HM n v=true):r8 n v:=by
 induction v with
 |p=>trivial
 |ref m=>simpa [HM,r8]using h
inductive jZ (i:Nat) (o v:V) (σ:LM) (Q:LM→Prop):Prop|mk (n c:Nat) (fs:List (Nat×V)) (e1:o= .ref n) (e2:σ[n]?=some (.inst c fs)) (h:(Hp c i&&HM n v&&decide (fs.length≤999))=true) (q:Q (σ.set n (.inst c (bx fs i v))))
theorem HN{n:Nat}{fs:List (Nat×V)}{i:Nat}{v:V}(h:∀f∈fs,r8 n f.2)(hv:r8 n v):∀f∈bx fs i v,r8 n f.2:=by
 induction fs with
 |nil=>intro f hf;rw[mem_singleton.mp hf];exact hv
 |cons g fs ih=>
  obtain⟨j,w⟩:=g;intro f hf;rw[BQ]at hf;by_cases q:j=i
  ·rw[if_pos q]at hf;exact(mem_cons.mp hf).elim (fun e=>by rw[e];exact hv) fun hf=>h f (.tail _ hf)
  ·rw[if_neg q]at hf;exact(mem_cons.mp hf).elim (fun e=>by rw[e];exact h _ (.head _)) (ih (fun g hg=>h g (.tail _ hg)) f)
section
variable {X:Fx}{B:Fz}{φ:AA}{σ:LM}{s:Shared}{en:Env}{r:Nat}
abbrev RU:Fz→AA→Heap→Unit→Unit→Prop:=fun U U U U U=>True
theorem qL.Yz{c:Nat}{es:List DictEntry}{fs:List (Nat×V)}(h:qL B φ c es fs){i:Nat}(hi:i<ids.length):∃r,getL (ident i) es=some r:=by
 generalize e:bW fs i=gg;induction gg with
 |none=>exact⟨_,h.Wf hi e⟩
 |some v=>obtain⟨w,e,_⟩:=h.We hi e;exact⟨_,e⟩
theorem M6{i:Nat}{o v:V}{ov val:Value}(hR:Rel X B φ σ s)(ho:dM B φ ov o)(hv:dM B φ val v):aE X B φ RU (setAttr ov (ident i) val) (fun Q U=>jZ i o v σ (Q ())) s:=fun Q E hh=>hh.casesOn fun n c fs e dF hk z=>by
 subst e;simp only[and_eq_true,decide_eq_true_eq]at hk;obtain⟨⟨nP,hold⟩,aaG⟩:=hk;obtain⟨ad,fW,rfl⟩:=ho;obtain⟨h1,dG,hol,es,m,h2,h3⟩:=hR.objs n ad _ fW dF;obtain⟨p1,p2,p3,p4,p5,p6⟩:=hR.gl.MW nP;obtain⟨rr,hg⟩:=h3.Yz (zb nP);refine HL hR.Ks h1 h2 p4 p5 p6 p2 hg (by refine ER h3.length ?_;exact aaG) ?_;have e:=putName_dict (ident i) (keyHash X.w.params (ident i)) (.str (ident i) (s.toks+1)) val es m;generalize Obj.putName (ident i) (keyHash X.w.params (ident i)) (.str (ident i) (s.toks+1)) val=f at e ⊢;have D':=get?_update_self f h2 (by refine ER e ?_;rfl);rw[e]at D';have k:∀b,b∉fh ad (.inst c fs)→(s.heap.update ad.2 f).get? b=s.heap.get? b:=fun b hb=>get?_update_other _ _ fun q=>hb (by refine EL q ?_;exact .tail _ (.head _));exact⟨B,φ,_,(),hR.turn (tk:=s.toks+2) (o':=.inst c (bx fs i v)) fW dF (fun a ha=>ha) k ⟨((get?_update_other s.heap f (Ne.symm dG)).trans h1),dG,HN hol (KJ hold),_,_,D',h3.put nP _ _ hv⟩,Step.turn hR fW dF k,trivial,z⟩
abbrev Wu(i:Nat)(v:V)(le:ai)(Q:MQ Out):MQ V:=fun ov σ=>jZ i ov v σ (Q (.next le))
abbrev YA(i:Nat)(o:ai→M V)(le:ai)(Q:MQ Out)(E:ME):MQ V:=fun v σ=>o le σ (Wu i v le Q) E
def kW(i:Nat)(o c:ai→M V):ai→M Out:=fun le σ Q E=>c le σ (YA i o le Q E) E
theorem Ex.put{o e:Expr}{x:Str}{co c:ai→M V}{aaM pos}(hE:vQ X en r)(hx:idOf x<ids.length)(hn:iy e=true)(ho:Ev X en o co)(h:Ev X en e c):
  Ex X en (exec (.Assign [.Attribute o x aaM] e pos) en) (kW (idOf x) co c):=by
 intro B φ σ le s hR L;refine ER (plainObj_exec_Assign_Attribute _ _ _ _ _ (jY hn _ _)) ?_;refine bN.standAt (bN.head hE.toEnOK (h B φ σ le s hR L.loc) L (f:=fun v σ Q E=>co le σ (fun ov σ=>jZ (idOf x) ov v σ (Q (Out.next le))) E) fun v br val aZ bA aS hR₁ L₁ hV₁=>?_);refine ER (arm_assign_Attribute ..) ?_;simp only[bind_assoc];intro Q E z;refine wpAny_bind (wpAny_mono (aE.holding (ho bA aS br le aZ hR₁ L₁.loc) _ _ z) (fun zj s₂ hh=>hh.casesOn fun B₂ φ₂ dg ov hR₂ hS₂ hV₂ z=>?_) fun U U q=>q.toS);have d:=M6 (i:=idOf x) hR₂ hV₂ (hV₁.mono hS₂.bB hS₂.pre) (fun U σ=>Q (Out.next le) σ) E z;rw[gu hx]at d;exact wpAny_bind (wpAny_standAt (wpAny_bind (wpAny_holding (wpAny_mono d (fun U s₃ hh=>hh.casesOn fun B₃ φ₃ σ₃ U hR₃ hS₃ U z=>wpAny_bind (wpAny_release (wpAny_pure ⟨B₃,φ₃,σ₃,Out.next _,hR₃,(hS₂.trans hS₃).toS,⟨rfl,(L₁.step hS₂ hE.mem).step hS₃ hE.mem⟩,z⟩))) fun U U q=>(q.after hS₂).toS))))
end
section
set_option backward.match.sparseCases true
structure XY (K:Frag) (a:Addr) (fd:FuncData) (body:List Stmt) (ns:Ls):Prop where
 look:∃o,K.lookup a=some o∧o.data= .func fd
 body:fd.body= .stmts body
 Z0:fd.closure=[]
 glob:fd.globals=mainGlobals
 blt:fd.builtins=builtinsNs
 code:codeIn K fd.code fd.qualname=true
 co:fd.scope.isCoroutine=false
 gen:fd.scope.isGenerator=false
 kind:fd.scope.kind= .function
 bind:∀vals:Lv,vals.length=ns.length→bindArgs fd ⟨vals,[]⟩=pure (ns.zip vals)
 names:∀x∈ns,(fd.scope.names.lookup x=some .local∨fd.scope.names.lookup x=some .cell)∧idOf x<ids.length
 nodup:ns.Nodup
 cells:∀x,fd.scope.names.lookup x=some .cell→x∈(cellsFrom 0 fd.scope.names []).map (·.1)
 Z1:((cellsFrom 0 fd.scope.names []).map (·.1)).Nodup
inductive zk (k:Nat) (ah:LM):Out→V→LM→Prop
 |next (le:ai):zk k ah (.next le) (.p .none) (ah.take k)
 |old {n:Nat} (hn:n<k):zk k ah (.ret (.ref n)) (.ref n) (ah.take k)
 |exc {n:Nat} {x:P} (hn:k≤n) (e:ah[n]?=some (.exc x)):zk k ah (.ret (.ref n)) (.ref k) (ah.take k++[.exc x])
 |list {n:Nat} {l:Lp} (hn:k≤n) (e:ah[n]?=some (.list l)):zk k ah (.ret (.ref n)) (.ref k) (ah.take k++[.list l])
 |P7 {v:V} {x:P} {bj:LM} (z:MY k ah v x bj):zk k ah (.ret v) (.p x) (bj.take k)
inductive cz (k:Nat) (ah:LM) (o:Out) (Q:MQ V):Prop|mk (w:V) (bj:LM) (z:zk k ah o w bj) (q:Q w bj)
def Qy(ns:Ls)(vs:List V):ai:=(ns.map idOf).zip vs
noncomputable def HO:Ln→List V→Prop→Prop
 |[],[],p=>p
 |_::xs,_::vs,p=>HO xs vs p
 |_,_,_=>False
theorem KL{ns:Ls}{vs:List V}{p:Prop}(h:HO (ns.map idOf) vs p):vs.length=ns.length∧p:=by
 induction ns generalizing vs with
 |nil=>induction vs with
  |nil=>exact⟨rfl,h⟩
  |cons v vs=>exact h.elim
 |cons n ns ih=>induction vs with
  |nil=>exact h.elim
  |cons v vs=>exact⟨congrArg Nat.succ (ih h).1,(ih h).2⟩
abbrev YB(k:Nat)(Q:MQ V):MQ Out:=fun o ah=>cz k ah o Q
abbrev back(k:Nat)(E:ME):ME:=fun x σ=>E x (σ.take k)
def bK(xs:Ln)(c:Nat→ai→M Out):List V→M V:=fun vs σ Q E=>HO xs vs (c σ.length (xs.zip vs) σ (YB σ.length Q) (back σ.length E))
def Z2(X:Fx)(B:Fz)(φ:AA)(h:Heap)(Q:MQ V)(E:ME)(rr:Result)(s':Shared):Prop:=match rr with| .ok (.ret v)=>QO X B φ h RV Q v s'| .ok _=>False| .error e=>EO X B φ h E e s'
def E2(X:Fx)(B:Fz)(φ:AA)(c:Code)(r:WP V)(s:Shared):Prop:=∀Q E,r Q E→codeAny X.M X.A c (Z2 X B φ s.heap Q E) s
def gQ(K:Frag)(H0:Heap)(a:Value)(need:Nat)(f:List V→M V):Prop:=
 ∀(X:Fx),X.K=K→X.H0=H0→∀B φ σ s r vs vals,Rel X B φ σ s→Hy X.A r→need≤r→X.A.frames=some X.outer→oS B φ vals vs→E2 X B φ (.call a ⟨vals,[]⟩) (f vs σ) s
theorem E2.Qz{X:Fx}{B:Fz}{φ:AA}{a:Value}{vals:Lv}{r:WP V}{s:Shared}(h:E2 X B φ (.call a ⟨vals,[]⟩) r s):aE X B φ RV (call a vals) r s:=fun Q E n=>wpAny_call (h Q E n)
theorem vZ{n:Nat}{names:List (Str×NameKind)}{x:Str}(h:x∈(cellsFrom 0 names []).map (·.1)):∃c,(cellsFrom n names []).lookup x=some c:=by
 rw[cellsFrom_names names 0 n [] [] rfl]at h;obtain⟨⟨y,c⟩,hm,rfl⟩:=mem_map.mp h;generalize cellsFrom n names []=l at hm;induction l with
 |nil=>contradiction
 |cons p l ih=>
  refine ER lookup_cons ?_;generalize q:(y ==p.1)=gg;induction gg with
  |true=>exact⟨_,rfl⟩
  |false=>
   rcases mem_cons.mp hm with rfl|hm
   ·simp at q
   ·exact ih hm
section
variable {ko:Str→Option NameKind}
theorem E3{x:Str}:∀{bs:List (Str×Value)} {m:Str→Option Value},x∉bs.map (·.1)→bindL ko bs m x=m x:=by
 intro rv;induction rv with
 |nil=>exact fun {U} U=>rfl
 |cons xx r ih=>
  obtain⟨n,v⟩:=xx;intro m h;simp only[map_cons,mem_cons,not_or]at h;unfold bindL;rw[ih h.2];refine iT (fun _=>?_) fun _=>?_
  ·exact if_neg h.1
  ·rfl
theorem BR{x:Str}{v:Value}:∀{bs:List (Str×Value)} {m:Str→Option Value},(bs.map (·.1)).Nodup→(x,v)∈bs→ko x=some .local→bindL ko bs m x=some v
 |(n,w)::r,m,hd,hm,hk=>by
  rw[map_cons,nodup_cons]at hd;unfold bindL;rcases mem_cons.mp hm with e|hm
  ·cases e;rw[E3 hd.1,if_pos hk];simp
  ·exact BR hd.2 hm hk
theorem E4{x:Str}:∀{bs:List (Str×Value)} {m:Str→Option Value},x∉bs.map (·.1)→bindC ko bs m x=m x:=by
 intro rv;induction rv with
 |nil=>exact fun {U} U=>rfl
 |cons xx r ih=>
  obtain⟨n,v⟩:=xx;intro m h;simp only[map_cons,mem_cons,not_or]at h;unfold bindC;rw[ih h.2];refine iT (fun _=>?_) fun _=>?_
  ·rfl
  ·exact if_neg h.1
theorem BS{x:Str}{v:Value}:∀{bs:List (Str×Value)} {m:Str→Option Value},(bs.map (·.1)).Nodup→(x,v)∈bs→ko x≠some .local→bindC ko bs m x=some v
 |(n,w)::r,m,hd,hm,hk=>by
  rw[map_cons,nodup_cons]at hd;unfold bindC;rcases mem_cons.mp hm with e|hm
  ·cases e;rw[E4 hd.1,if_neg hk];simp
  ·exact BS hd.2 hm hk
end
theorem v5{ns:Ls}{vals:Lv}(h:vals.length=ns.length):(ns.zip vals).map (·.1)=ns:=List.map_fst_zip (by simp+arith [*])
theorem M7{B:Fz}{φ:AA}{ns:Ls}{vs:List V}{vals:Lv}{x:Str}{v:V}(hv:oS B φ vals vs)(h:bW (Qy ns vs) (idOf x)=some v)(hx:idOf x<ids.length):∃val,(x,val)∈ns.zip vals∧dM B φ val v:=by
 induction hv generalizing ns with
 |nil=>induction ns<;>exact Qm h
 |@cons val vals w vs hv hr ih=>induction ns with
  |nil=>exact Qm h
  |cons n ns=>
   have h:(if idOf n=idOf x then some w else bW (Qy ns vs) (idOf x))=some v:=h;by_cases q:idOf n=idOf x
   ·rw[if_pos q]at h;exact⟨val,(idOf_inj hx q.symm)▸ .head _,(Option.some.inj h)▸hv⟩
   ·rw[if_neg q]at h;exact(ih h).elim fun val hh=>⟨val,.tail _ hh.1,hh.2⟩
section
variable {X:Fx}{B:Fz}{φ:AA}{σ:LM}{s:Shared}{r:Nat}
open Classical in
def inner(X:Fx)(φ:AA)(σ:LM)(h:Heap):Fz:=fun a=>
 if a∈X.fr∨∃(i:Nat) (ad:Addr×Addr) (o:MO),φ[i]?=some ad∧σ[i]?=some o∧a∈fh ad o then none else h.get? a
def Fx.P8(X:Fx)(φ:AA)(σ:LM)(s:Shared)(en:Env):Fx:=
 {X with A:=X.A.deeper en,P:=inner X φ σ s.heap,n0:=en.locals,k0:=σ.length,s0:=s,outer:=en::X.outer,envs:=[en]}
theorem nR{h:Heap}{a:Addr}{o:Obj}(e:inner X φ σ h a=some o):h.get? a=some o:=by
 unfold inner at e;split at e
 ·contradiction
 ·exact e
theorem uJ(R:Rel X B φ σ s){a:Addr}{o:Obj}(e:X.P a=some o):inner X φ σ s.heap a=some o:=by
 unfold inner;rw[if_neg]
 ·exact R.kP a o e
 ·rintro(h|⟨i,ad,o',h1,h2,h3⟩)
  ·rw[(R.cA a (qQ h)).2.1]at e;contradiction
  ·rw[(R.own i ad o' a h1 h2 h3).2.1]at e;contradiction
theorem jO(R:Rel X B φ σ s){a:Addr}(h:a∈X.eS)(hf:a∉X.fr):∃o,inner X φ σ s.heap a=some o:=by
 obtain⟨o,e⟩:=(R.cA a h).2.2;refine⟨o,?_⟩;unfold inner;rw[if_neg]
 ·exact e
 ·rintro(q|⟨i,ad,o',h1,h2,h3⟩)
  ·exact hf q
  ·exact(R.own i ad o' a h1 h2 h3).2.2 h
theorem Rel.there(R:Rel X B φ σ s){i:Nat}{ad:Addr×Addr}{o:MO}{a:Addr}(h1:φ[i]?=some ad)(h2:σ[i]?=some o)(h3:a∈fh ad o):∃x,s.heap.get? a=some x:=by
 have z:=R.objs i ad o h1 h2
 induction o with
 |list l=>obtain⟨vs,n,e,_⟩:=z;simp[fh]at h3;subst h3;exact⟨_,e⟩
 |inst c fs=>obtain⟨e1,_,_,es,n,e4,_⟩:=z;simp[fh]at h3;rcases h3 with rfl|rfl;exact⟨_,e1⟩;exact⟨_,e4⟩
 |exc p=>obtain⟨_,⟨vs,e2,_⟩,es,n,v,e3,_⟩:=z;simp[fh]at h3;rcases h3 with rfl|rfl;exact⟨_,e2⟩;exact⟨_,e3⟩
 |gone=>contradiction
theorem Rel.enter(R:Rel X B φ σ s){en:Env}{m cm:Str→Option Value}{aZ:Shared}(Y:InCallC s en.locals m en.cells cm aZ)(hf:en.frame=some en.locals)(hk:en.scope.kind≠ .module)(hL:en.locals=s.heap.objs.size)
  (hc:∀c∈en.cells,∃v,aZ.heap.IsCell c.2 v):
  Rel (X.P8 φ σ s en) B φ σ aZ:=by
 obtain⟨h',tk,rfl,keep⟩:=Y.done;have fresh:∀a,s.heap.objs.size≤a→s.heap.get? a=none:=fun a ha=>by
  cases e:s.heap.get? a with
  |none=>rfl
  |some o'=>exact absurd (lt_size e) (not_lt.mpr ha)
 have notB:∀a,s.heap.objs.size≤a→B a=none∧inner X φ σ s.heap a=none:=fun a ha=>by
  refine⟨(R.fresh ha).1,?_⟩;generalize e:inner X φ σ s.heap a=gg;induction gg with
  |none=>rfl
  |some o=>have:=nR e;rw[fresh a ha]at this;contradiction
 have above:∀c∈en.cells,s.heap.objs.size≤c.2:=fun c hc'=>le_of_lt (hL▸Y.above c.1 c.2 hc');refine⟨⟨R.gl.K,R.gl.attr,R.gl.top,R.gl.A2⟩,⟨h',tk,rfl⟩,R.kH,fun b o e=>keep b o (nR e),fun b o e=>keep b o (R.kB b o e),R.len,fun i ad o h1 h2=>(R.objs i ad o h1 h2).grow keep,
  fun i ad o a h1 h2 h3=>⟨(R.own i ad o a h1 h2 h3).1,?_,?_⟩,R.inj,fun i ad hi h1=>?_,fun a ha=>?_,fun e he=>?_,?_,le_refl _⟩
 ·show inner X φ σ s.heap a=none;unfold inner;rw[if_pos (.inr ⟨i,ad,o,h1,h2,h3⟩)]
 ·obtain⟨x,hx⟩:=R.there h1 h2 h3;have hlt:=lt_size hx;intro hm;rcases mem_append.mp hm with hm|hm
  ·obtain⟨e,he,hfe⟩:=mem_filterMap.mp hm;rcases mem_cons.mp he with rfl|he
   ·rw[hf]at hfe;obtain rfl:=Option.some.inj hfe;rw[hL]at hlt;exact lt_irrefl _ hlt
   ·exact(R.own i ad o a h1 h2 h3).2.2 (qQ (mem_filterMap.mpr ⟨e,he,hfe⟩))
  ·obtain⟨e,he,hfe⟩:=mem_flatMap.mp hm;replace hfe:=(mem_singleton.mp he)▸hfe;rcases mem_cons.mp hfe with rfl|hfe
   ·rw[hL]at hlt;exact lt_irrefl _ hlt
   ·obtain⟨c,hc',rfl⟩:=mem_map.mp hfe;exact lt_irrefl _ (lt_of_lt_of_le hlt (above c hc'))
 ·have:=(List.getElem?_eq_some_iff.mp h1).1;have hi:σ.length≤i:=hi;rw[R.len]at this;lia
 ·rcases mem_append.mp ha with hm|hm
  ·obtain⟨e,he,hfe⟩:=mem_filterMap.mp hm;rcases mem_cons.mp he with rfl|he
   ·rw[hf]at hfe;obtain rfl:=Option.some.inj hfe;refine hide fun gG kK=>?_;obtain⟨o,es,ep,ho,_⟩:=Y.toInCall.ns;refine kK ?_;exact⟨(notB _ (le_of_eq hL.symm)).1,(notB _ (le_of_eq hL.symm)).2,o,ho⟩
   ·have sN:a∈X.fr:=mem_filterMap.mpr ⟨e,he,hfe⟩;refine hide fun gG kK=>?_;obtain⟨a1,a2,o,a3⟩:=R.cA a (qQ sN);refine kK ?_;exact⟨a1,by show inner X φ σ s.heap a=none;unfold inner;rw[if_pos (.inl sN)],o,keep a o a3⟩
  ·obtain⟨e,he,hfe⟩:=mem_flatMap.mp hm;replace hfe:=(mem_singleton.mp he)▸hfe;rcases mem_cons.mp hfe with rfl|hfe
   ·refine hide fun gG kK=>?_;obtain⟨o,es,ep,ho,_⟩:=Y.toInCall.ns;refine kK ?_;exact⟨(notB _ (le_of_eq hL.symm)).1,(notB _ (le_of_eq hL.symm)).2,o,ho⟩
   ·refine hide fun gG kK=>?_;obtain⟨c,hc',rfl⟩:=mem_map.mp hfe;obtain⟨v,o,ho,_⟩:=hc c hc';refine kK ?_;exact⟨(notB _ (above c hc')).1,(notB _ (above c hc')).2,o,ho⟩
 ·rcases mem_cons.mp he with rfl|he
  ·exact⟨hk,_,m,hf,Y.toInCall.ns⟩
  ·obtain⟨a1,L,m',a2,a3⟩:=R.pg e he;exact⟨a1,L,m',a2,a3.keeps keep⟩
 ·show en.locals∈_;exact mem_append.mpr (.inr (mem_flatMap.mpr ⟨en,.head _,.head _⟩))
theorem dB.back{en:Env}(R:Rel X B φ σ s){B':Fz}{aP:AA}{ah:LM}{s':Shared}(R':Rel (X.P8 φ σ s en) B' aP ah s'){a:Addr}(F:dB (X.P8 φ σ s en) B' aP ah a):dB X B' φ (ah.take σ.length) a∨¬φ <+:aP:=by
 by_cases hp:φ <+:aP
 ·left
  refine⟨F.1,?_,fun hm=>?_,fun i ad o h1 h2=>?_⟩
  ·generalize e:X.P a=gg;induction gg with
   |none=>rfl
   |some o=>have:=uJ R e;have h2:inner X φ σ s.heap a=none:=F.2.1;rw[h2]at this;contradiction
  ·by_cases hf:a∈X.fr
   ·obtain⟨e,he,hfe⟩:=mem_filterMap.mp hf;exact F.oz (mem_filterMap.mpr ⟨e,.tail _ he,hfe⟩)
   ·obtain⟨o,e⟩:=jO R hm hf;have h2:inner X φ σ s.heap a=none:=F.2.1;rw[h2]at e;contradiction
  ·obtain⟨t,rfl⟩:=hp;have hi:=(List.getElem?_eq_some_iff.mp h1).1;refine F.2.2.2 i ad o (by rw[getElem?_append_left hi];exact h1) ?_;rw[getElem?_take]at h2;split at h2
   ·exact h2
   ·contradiction
 ·exact .inr hp
theorem dM.r8{B:Fz}{φ t:AA}{val:Value}{v:V}{n:Nat}(h:dM B (φ++t) val v)(ho:r8 n v)(hn:n≤φ.length):dM B φ val v:=by
 induction v with
 |p x=>exact h
 |ref m=>
  obtain⟨ad,e,r⟩:=h;exact⟨ad,by rw[getElem?_append_left (lt_of_lt_of_le (ho:m<n) hn)]at e;exact e,r⟩
theorem qL.Ud{B:Fz}{φ t:AA}{c n:Nat}{es:List DictEntry}{fs:List (Nat×V)}(h:qL B (φ++t) c es fs)(ho:∀f∈fs,Internal.r8 n f.2)(hn:n≤φ.length):qL B φ c es fs:=by
 induction h with
 |nil=>exact .nil
 |cons hj hv _ ih=>exact .cons hj (hv.r8 (ho _ (.head _)) hn) (ih fun f hf=>ho f (.tail _ hf))
theorem Rel.back{en:Env}(R:Rel X B φ σ s){B':Fz}{aP:AA}{ah:LM}{s':Shared}(R':Rel (X.P8 φ σ s en) B' aP ah s')(hp:φ <+:aP)(hB:∀b o,B b=some o→B' b=some o)
  (sN:∀b o,B' b=some o→B b=none→s.heap.objs.size≤b∧inner X φ σ s.heap b=none):Rel X B' φ (ah.take σ.length) s':=by
 obtain⟨t,rfl⟩:=hp;have hk:σ.length≤ah.length:=R'.k0;have gt:∀(i:Nat) o,(ah.take σ.length)[i]?=some o→ah[i]?=some o:=fun i o h2=>by
  rw[getElem?_take]at h2;split at h2
  ·exact h2
  ·contradiction
 have gf:∀(i:Nat) ad,φ[i]?=some ad→(φ++t)[i]?=some ad:=fun i ad h1=>by rw[getElem?_append_left (List.getElem?_eq_some_iff.mp h1).1];exact h1
 have kP:∀b o,inner X φ σ s.heap b=some o→s'.heap.get? b=some o:=R'.kP;have notP:∀a,inner X φ σ s.heap a=none→X.P a=none:=fun a h=>by
  generalize e:X.P a=gg;induction gg with
  |none=>rfl
  |some o=>have:=uJ R e;rw[h]at this;contradiction
 refine⟨R.gl,?_,R'.kH,fun b o e=>kP b o (uJ R e),R'.kB,?_,fun i ad o h1 h2=>?_,fun i ad o a h1 h2 h3=>?_,fun i j ad1 o1 ad2 o2 a h1 h2 h3 h4 h5 h6=>?_,R.young,fun a ha=>?_,fun e he=>?_,R.sz,?_⟩
 ·obtain⟨h1,t1,e1⟩:=R'.same;obtain⟨h2,t2,e2⟩:=R.same;exact⟨h1,t1,by refine ER e1 ?_;show({s with heap:=h1,toks:=t1}:Shared)=_;exact ER e2 rfl⟩
 ·exact ER length_take (ER (min_eq_left hk) (ER R.len rfl))
 ·have z:=R'.objs i ad o (gf i ad h1) (gt i o h2);induction o with
  |list l=>exact z
  |inst c fs=>
   obtain⟨e1,e2,e3,es,n,e4,e5⟩:=z;exact⟨e1,e2,e3,es,n,e4,e5.Ud e3 (le_of_lt (List.getElem?_eq_some_iff.mp h1).1)⟩
  |exc p=>exact z
  |gone=>trivial
 ·have z:=R'.own i ad o a (gf i ad h1) (gt i o h2) h3;refine⟨z.1,notP a z.2.1,fun hm=>?_⟩;by_cases hf:a∈X.fr
  ·obtain⟨e,he,hfe⟩:=mem_filterMap.mp hf;exact z.2.2 (mem_append.mpr (.inl (mem_filterMap.mpr ⟨e,.tail _ he,hfe⟩)))
  ·obtain⟨o,e⟩:=jO R hm hf;have h2:inner X φ σ s.heap a=none:=z.2.1;rw[h2]at e;contradiction
 ·exact R'.inj i j ad1 o1 ad2 o2 a (gf _ _ h1) (gt _ _ h2) (gf _ _ h3) (gt _ _ h4) h5 h6
 ·obtain⟨a1,a2,o,a3⟩:=R.cA a ha;refine⟨?_,a2,?_⟩
  ·generalize e:B' a=gg;induction gg with
   |none=>rfl
   |some o'=>have:=(sN a o' e a1).1;exact absurd (lt_size a3) (not_lt.mpr this)
  ·by_cases hf:a∈X.fr
   ·obtain⟨e,he,hfe⟩:=mem_filterMap.mp hf;exact(R'.cA a (mem_append.mpr (.inl (mem_filterMap.mpr ⟨e,.tail _ he,hfe⟩)))).2.2
   ·obtain⟨o',e⟩:=jO R ha hf;exact⟨o',kP a o' e⟩
 ·exact R'.pg e (.tail _ he)
 ·refine ER length_take (ER (min_eq_left hk) ?_);exact R.k0
theorem Step.back{en:Env}(R:Rel X B φ σ s){B':Fz}{aP:AA}{ah:LM}{s':Shared}(R':Rel (X.P8 φ σ s en) B' aP ah s')(hB:∀b o,B b=some o→B' b=some o)
  (sN:∀b o,B' b=some o→B b=none→s.heap.objs.size≤b∧inner X φ σ s.heap b=none) (outs:∀e∈X.outer,∀L m,e.frame=some L→s.heap.Ns L m→s'.heap.Ns L m) (t:AA):Step X B φ s.heap B' (φ++t) s'.heap:=by
 have kP:∀b o,inner X φ σ s.heap b=some o→s'.heap.get? b=some o:=R'.kP;have notP:∀a,inner X φ σ s.heap a=none→X.P a=none:=fun a h=>by
  generalize e:X.P a=gg;induction gg with
  |none=>rfl
  |some o=>have:=uJ R e;rw[h]at this;contradiction
 refine⟨hB,fun b o e n=>⟨le_trans (le_of_lt R.xm) (sN b o e n).1,notP b (sN b o e n).2⟩,prefix_append _ _,fun e he=>⟨fun m hm=>?_,fun x hx v hv=>?_⟩,outs⟩
 ·by_cases hf:e.locals∈X.fr
  ·obtain⟨e',he',hfe⟩:=mem_filterMap.mp hf;exact outs e' he' _ m hfe hm
  ·refine hide fun gG kK=>?_;obtain⟨o,q⟩:=jO R (mem_append.mpr (.inr (mem_flatMap.mpr ⟨e,he,.head _⟩))) hf;obtain⟨oL,es,ep,hL,rr⟩:=hm;refine kK ?_;have:=nR q;rw[hL]at this;obtain rfl:=Option.some.inj this;exact⟨_,es,ep,kP _ _ q,rr⟩
 ·by_cases hf:x.2∈X.fr
  ·obtain⟨e',he',hfe⟩:=mem_filterMap.mp hf;obtain⟨_,L,m,hL,hn⟩:=R.pg e' he';rw[hfe]at hL;obtain rfl:=Option.some.inj hL;obtain⟨oL,es,ep,hL,hd,_⟩:=hn;obtain⟨o,ho,hd'⟩:=hv;rw[hL]at ho;obtain rfl:=Option.some.inj ho;rw[hd]at hd';contradiction
  ·obtain⟨o,q⟩:=jO R (mem_append.mpr (.inr (mem_flatMap.mpr ⟨e,he,.tail _ (mem_map.mpr ⟨x,hx,rfl⟩)⟩))) hf;obtain⟨o',ho,hd⟩:=hv;have:=nR q;rw[ho]at this;injection this with this;subst this;exact⟨_,kP _ _ q,hd⟩
theorem M8{α:Type}{l:List α}{n i:Nat}{o:α}(h:(l.take n)[i]?=some o):l[i]?=some o∧i<n:=by
 rw[getElem?_take]at h;by_cases q:i<n
 ·rw[if_pos q]at h;exact⟨h,q⟩
 ·rw[if_neg q]at h;contradiction
noncomputable def SV:Flow→Value
 | .ret v=>v
 |_=>.none
theorem Ue{en:Env}(R:Rel X B φ σ s){B':Fz}{aP:AA}{ah:LM}{s':Shared}(R':Rel (X.P8 φ σ s en) B' aP ah s')(hp:φ <+:aP)(hB:∀b o,B b=some o→B' b=some o)(hL:en.locals=s.heap.objs.size)
  (sN:∀b o,B' b=some o→B b=none→s.heap.objs.size≤b∧inner X φ σ s.heap b=none) (outs:∀e∈X.outer,∀L m,e.frame=some L→s.heap.Ns L m→s'.heap.Ns L m) {o:Out} {fl:Flow} (hO:RO en B' aP s'.heap fl o) {w:V} {bj:LM} (F:zk σ.length ah o w bj) {Q:MQ V} (z:Q w bj):
  QO X B φ s.heap RV Q (SV fl) s':=by
 have hk:σ.length≤ah.length:=R'.k0;have Rb:=R.back R' hp hB sN;have St:=Step.back R R' hB sN outs;have nil:φ++[]=φ:=append_nil _;have S0:=St [];replace S0:=nil▸S0;have again:∀{n ad o'},aP[n]?=some ad→ah[n]?=some o'→σ.length≤n→(∀c fs,o'≠ .inst c fs)→o'≠ .gone→Q (.ref σ.length) (ah.take σ.length++[o'])→QO X B φ s.heap RV Q (.ref ad.1) s':=fun {n ad o'} fW dF hn hi hg z=>by
  have ho:=R'.objs n ad o' fW dF
  have lt:∀(i:Nat) (ic:Addr×Addr) (QA:MO),φ[i]?=some ic→(ah.take σ.length)[i]?=some QA→aP[i]?=some ic∧ah[i]?=some QA∧i<n:=fun i ic QA h1 h2=>by
   have hl:=(List.getElem?_eq_some_iff.mp h1).1
   rw[R.len]at hl;obtain⟨t,rfl⟩:=hp;exact⟨by rw[getElem?_append_left (List.getElem?_eq_some_iff.mp h1).1];exact h1,(M8 h2).1,lt_of_lt_of_le hl hn⟩
  have fr:∀a∈fh ad o',B' a=none∧X.P a=none∧a∉X.eS∧∀(i:Nat) ic QA,φ[i]?=some ic→(ah.take σ.length)[i]?=some QA→a∉fh ic QA:=fun a ha=>by
   have z:=R'.own n ad o' a fW dF ha
   have zP:inner X φ σ s.heap a=none:=z.2.1;refine⟨z.1,?_,fun hm=>?_,fun i ic QA h1 h2 h3=>?_⟩
   ·generalize e:X.P a=gg;induction gg with
    |none=>rfl
    |some o=>have:=uJ R e;rw[zP]at this;contradiction
   ·by_cases hf:a∈X.fr
    ·obtain⟨e,he,hfe⟩:=mem_filterMap.mp hf;exact z.2.2 (mem_append.mpr (.inl (mem_filterMap.mpr ⟨e,.tail _ he,hfe⟩)))
    ·obtain⟨o,e⟩:=jO R hm hf;rw[zP]at e;contradiction
   ·obtain⟨g1,g2,g3⟩:=lt i ic QA h1 h2;exact ne_of_lt g3 (R'.inj i n ic QA ad o' a g1 g2 fW dF h3 ha)
  have hy:s.heap.objs.size≤ad.1∧s.heap.objs.size≤ad.2:=hL▸R'.young n ad hn fW;have ho':ou B' (φ++[ad]) s'.heap (ah.take σ.length).length ad o':=by
   induction o' with
   |list l=>exact ho
   |inst c fs=>exact absurd rfl (hi c fs)
   |exc p=>exact ho
   |gone=>exact absurd rfl hg
  exact⟨B',φ++[ad],_,.ref σ.length,Rb.bh fr ⟨le_trans (le_of_lt R.xm) hy.1,le_trans (le_of_lt R.xm) hy.2⟩ ho',St [ad],⟨ad,by refine EL R.len ?_;simp,rfl⟩,z⟩
 induction F with
 |next le=>obtain⟨rfl,_⟩:=hO;exact⟨B',φ,_,.p .none,Rb,S0,.none,z⟩
 |@old n hn=>
  obtain⟨_,rfl,ad,fW,rfl⟩:=hO;refine⟨B',φ,_,.ref n,Rb,S0,⟨ad,?_,rfl⟩,z⟩;obtain⟨t,rfl⟩:=hp;rw[getElem?_append_left (by refine ER R.len ?_;exact hn)]at fW;exact fW
 |exc hn dF=>obtain⟨_,rfl,ad,fW,rfl⟩:=hO;exact again fW dF hn (fun U U h=>by cases h) (fun h=>by cases h) z
 |list hn dF=>obtain⟨_,rfl,ad,fW,rfl⟩:=hO;exact again fW dF hn (fun U U h=>by cases h) (fun h=>by cases h) z
 |@P7 v x bj zf=>
  obtain⟨_,rfl,hV⟩:=hO;obtain⟨ML,R'',S'',V''⟩:=P7 (X:=X.P8 φ σ s en) (le_refl _) R' hV zf;have hB2:∀b o,B b=some o→ML b=some o:=fun b o e=>S''.bB b o (hB b o e);have hfr2:∀b o,ML b=some o→B b=none→s.heap.objs.size≤b∧inner X φ σ s.heap b=none:=fun b o e n=>by
   generalize q:B' b=gg;induction gg with
   |some o'=>exact sN b o' q n
   |none=>have:=S''.fresh b o e q;refine EL hL ?_;exact this
  have S2:=Step.back R R'' hB2 hfr2 outs []
  rw[nil]at S2;exact⟨ML,φ,_,.p x,R.back R'' hp hB2 hfr2,S2,V'',z⟩
end
theorem QB{K:Frag}{H0:Heap}{a:Addr}{fd:FuncData}{body:List Stmt}{ns:Ls}(D:XY K a fd body ns)(c:Nat→ai→M Out)(need:Nat)
  (hb:∀X en r,X.K=K→X.H0=H0→vQ X en r→en.scope=fd.scope→need≤r→Ex X en (execs body en) (c X.k0)):gQ K H0 (.ref a) (need+1) (bK (ns.map idOf) c):=by
 intro X hK hH B φ σ s r vs vals R hA hr sN hv Q E z;refine hide fun gG kK=>?_;obtain⟨aaG,z⟩:=KL z;obtain⟨o,hlo,hdo⟩:=D.look;have hlv:=hv.length;obtain⟨p,loose,mg,mb,T⟩:=R.gl.top;refine kK ?_;refine codeAny_call_cells (o:=o) (fd:=fd) (body:=body) (binds:=ns.zip vals) ?_ ?_ hdo ?_ ?_ D.body (D.bind vals (by simp+arith [*])) D.Z0 ?_ (fun aZ Y=>?_) D.co D.gen D.kind
 ·have:=hA.dp;show X.A.depth<1000;lia
 ·exact R.Ks a o (hK▸hlo)
 ·exact T.nolimit.keeps fun b o e=>R.kB b o (R.kH b o e)
 ·exact codeRec_of R.Ks (hK▸D.code)
 ·intro x hx;rcases(D.names _ ((by refine EL (v5 (vals:=vals) (by simp+arith [*]:vals.length=ns.length)) ?_;exact mem_map_of_mem hx):x.1∈ns)).1 with h|h
  ·exact .inl h
  ·refine .inr ⟨h,?_⟩;obtain⟨c,e⟩:=vZ (n:=s.heap.objs.size+1) (D.cells _ h);refine ER e ?_;rfl
 ·generalize hen:callEnvC fd s.heap.objs.size a=en at Y;have e1:en.scope=fd.scope:=by refine EL hen ?_;rfl
  have e2:en.locals=s.heap.objs.size:=by refine EL hen ?_;rfl
  have e3:en.cells=cellsFrom (s.heap.objs.size+1) fd.scope.names []:=by refine EL hen ?_;rfl
  have e4:en.frame=some en.locals:=by refine EL hen ?_;rfl
  have e5:en.globals=mainGlobals:=by refine EL hen ?_;exact D.glob
  have e6:en.builtins=builtinsNs:=by refine EL hen ?_;exact D.blt
  have hkind:en.scope.kind= .function:=by refine ER e1 ?_;exact D.kind
  have look:∀c∈en.cells,en.cells.lookup c.1=some c.2:=fun c hc=>by
   refine lookup_of_mem_nodup ?_ hc;refine ER e3 (ER (cellsFrom_names fd.scope.names (s.heap.objs.size+1) 0 [] [] rfl) ?_);exact D.Z1
  have hcells:∀c∈en.cells,∃v,aZ.heap.IsCell c.2 v:=fun c hc=>⟨_,Y.cell c.1 c.2 (look c hc)⟩;have R':=R.enter Y e4 (by refine ER hkind ?_;decide) e2 hcells;have hlt:∀e∈X.outer,∀L,e.frame=some L→L<s.heap.objs.size:=fun e he L hL=>by
   obtain⟨_,L',m,h1,h2⟩:=R.pg e he;rw[hL]at h1;obtain rfl:=Option.some.inj h1;exact h2.lt
  have hE:vQ (X.P8 φ σ s en) en (r - 1):={
   kind:=hkind,Qq:=e5,blt:=e6,mem:=.head _,
   room:=⟨hA.hd,by show X.A.depth+1+4 * (r - 1)≤990;have:=hA.dp;lia,by show X.A.units+3+64 * (r - 1)≤9000;have:=hA.un;lia⟩
   code:=rfl,MP:=by(show X.A.frames.map _=_);refine ER sN ?_;rfl
   ne:=by intro h;contradiction
   envs:=rfl
   inter:=by unfold interactive;refine ER hkind ?_;rfl
   frame:=e4
   apart:=fun e he L hL=>⟨fun q=>by have:=hlt e he L hL;rw[q,e2]at this;exact lt_irrefl _ this,fun c hc q=>by
    have h1:=hlt e he L hL;have h2:=Y.above c.1 c.2 hc;rw[e2,q]at h2;exact lt_irrefl _ (Nat.lt_trans h1 h2)⟩
   cells:=fun c hc=>ne_of_gt (Y.above c.1 c.2 hc)
   pair:=Y.apart
   cellOf:=fun x hx=>by refine ER e3 ?_;exact vZ (D.cells x (by refine EL e1 ?_;exact hx))}
  have VP:((ns.zip vals).map (·.1)).Nodup:=by rw[v5 (by simp+arith [*])];exact D.nodup
  have L:iw B φ en (Qy ns vs) aZ.heap:=⟨⟨⟨_,Y.toInCall.ns⟩,fun x v hx hi=>by
   obtain⟨val,hm,hV⟩:=M7 hv hx hi;have hx':x∈ns:=by refine EL (v5 (vals:=vals) (by simp+arith [*]:vals.length=ns.length)) ?_;exact mem_map_of_mem hm
   have ek:en.kindOf x=fd.scope.names.lookup x:=by refine EL e1 ?_;rfl
   rcases(D.names _ hx').1 with h|h
   ·exact .inl ⟨by rw[ek];exact h,_,val,Y.toInCall.ns,BR VP hm (by rw[ek];exact h),hV⟩
   ·obtain⟨c,hc⟩:=vZ (n:=s.heap.objs.size+1) (D.cells x h);rw[←e3]at hc;refine .inr ⟨.inl (by refine ER ek ?_;exact h),c,val,hc,?_,hV⟩;have:=Y.cell x c hc;rw[BS VP hm (by refine ER ek (ER h ?_);decide)]at this;exact this⟩,hcells⟩
  have keep1:∀b o,s.heap.get? b=some o→aZ.heap.get? b=some o:=Y.toInCall.keep;refine wpAny_mono ((hb (X.P8 φ σ s en) en (r - 1) hK hH hE e1 (by grind only) B φ σ (Qy ns vs) aZ R' L) _ _ z) (fun fl s' ⟨B',aP,ah,o,R'',S',hO,w,bj,F,z⟩=>?_) fun x s' hh=>hh.casesOn fun B' aP ah e p he R'' S' hX z=>?_
  ·show QO X B φ s.heap RV Q (SV fl) s';exact Ue R R'' S'.pre S'.bB e2 (fun b o e n=>by have:=S'.fresh b o e n;refine EL e2 ?_;exact this) (fun e he L m hL hm=>S'.outs e he L m hL (hm.keeps keep1)) hO F z
  ·subst he;refine CX R'' hE.MP e4 (by show en.frame=_;exact e4) hX fun EX R₃ S₃ X₃=>?_;have hB:=S'.bB;have hfr2:∀b o,B' b=some o→B b=none→s.heap.objs.size≤b∧inner X φ σ s.heap b=none:=fun b o e n=>by have:=S'.fresh b o e n;refine EL e2 ?_;exact this
   have nil:φ++[]=φ:=append_nil _;have S0:=Step.back R R₃ hB hfr2 (fun e he L m hL hm=>S₃.outs e (.tail _ he) L m hL (S'.outs e he L m hL (hm.keeps keep1))) [];rw[nil]at S0;have fb:∀a,dB (X.P8 φ σ s en) B' aP ah a→dB X B' φ (ah.take σ.length) a:=fun a F=>(dB.back R R₃ F).resolve_right fun n=>n S'.pre;obtain⟨dx,x⟩:=X₃.at;obtain⟨vs,h1,h2,h3⟩:=x.obj;exact⟨B',φ,_,e,p,rfl,R.back R₃ S'.pre hB hfr2,S0,ExcAt.exc (dx:=dx) ⟨x.HK,⟨fb _ x.free.1,fb _ x.free.2⟩,vs,h1,h2,h3.imp id fun hh=>hh.casesOn fun T oT ts a1 a2 a3 a4 a5 a6 a7=>⟨T,oT,ts,a1,a2,a3,a4,a5,a6,fb _ a7⟩⟩,z⟩
end
end
section
open PySem PySem.W PySem.Calls PyProof.Rows
open AutoSeq1 (wpAny_loadPart')
def mO(items:Lp)(watch:Option Nat)(σ:LM):Prop:=∀n,watch=some n→σ[n]?=some (.list items)
structure YC (X:Fx) (own:List Addr) (St:Nat→Fz→AA→Heap→Prop) (B:Fz) (φ:AA) (σ:LM) (s:Shared) (i:Nat) (x:P) (v:Value) (s':Shared) (B':Fz):Prop where
 rel:Rel X B' φ σ s'
 step:Step X B φ s.heap B' φ s'.heap
 keep:∀b o,b∉own→s.heap.get? b=some o→s'.heap.get? b=some o
 val:Is B' v x
 free:∀a∈own,dB X B' φ σ a∧∃o,s'.heap.get? a=some o
 st:St (i+1) B' φ s'.heap
 new:∀b o,B' b=some o→B b=none→s.heap.objs.size≤b
structure VQ (X:Fx) (tg:Expr) (it:Addr) (own:List Addr) (items:Lp) (watch:Option Nat) (St:Nat→Fz→AA→Heap→Prop):Prop where
 keep:∀{i B φ h B' aP h'},St i B φ h→(∀a∈own,∀o,h.get? a=some o→h'.get? a=some o)→(∀b o,B b=some o→B' b=some o)→φ <+:aP→St i B' aP h'
 item:∀{B φ σ s i x},Rel X B φ σ s→(∀a∈own,dB X B φ σ a∧∃o,s.heap.get? a=some o)→St i B φ s.heap→mO items watch σ→items[i]?=some x→∀E E',
  wpAny X.M X.A (pyNext (.ref it)) (fun r aZ=>∃v,r=some v∧wpAny X.M X.A (letOwnedTupleGo tg (.ref it) v) (fun U s₂=>∃B',YC X own St B φ σ s i x v s₂ B') E' aZ) E s
 done:∀{B φ σ s i},Rel X B φ σ s→(∀a∈own,dB X B φ σ a∧∃o,s.heap.get? a=some o)→St i B φ s.heap→mO items watch σ→items[i]?=none→∀E,
  wpAny X.M X.A (pyNext (.ref it)) (fun r aZ=>r=none∧Rel X B φ σ aZ∧Step X B φ s.heap B φ aZ.heap∧(∀b o,b∉own→s.heap.get? b=some o→aZ.heap.get? b=some o)) E s
 self:∀{B φ i s},St i B φ s.heap→∀Q E,Q (.ref it) s→wpAny X.M X.A (pyIter (.ref it)) Q E s
section
variable {X:Fx}{B:Fz}{φ:AA}{σ:LM}{s:Shared}
theorem c8{h h':Heap}{own:List Addr}(hF:∀a∈own,dB X B φ σ a)(k:∀b o,b∉own→h.get? b=some o→h'.get? b=some o):Quiet X own h h':=
 ⟨fun b o U n e=>k b o n e,fun b o m e=>⟨o.slots,k b o (fun q=>(hF b q).oz m) e⟩⟩
def sP(B:Fz)(φ:AA)(ax:Addr)(items:Lp):Option Nat→Prop
 |none=>∃vs n,B ax=some ⟨.type "list",none,.seq vs.toArray n,#[]⟩∧aG B vs items
 |some n=>∃a2,φ[n]?=some (ax,a2)
noncomputable def je(e:Expr):Bool:= !Nat.beq e.ctorIdx 24
theorem sP.src{ax it:Addr}{items:Lp}{watch:Option Nat}(R:Rel X B φ σ s)(hF:dB X B φ σ it)(hW:mO items watch σ)(h:sP B φ ax items watch):∃vs n,s.heap.get? ax=some ⟨.type "list",none,.seq vs.toArray n,#[]⟩∧aG B vs items∧ax≠it:=by
 induction watch with
 |none=>
  obtain⟨vs,n,h1,h2⟩:=h;exact⟨vs,n,R.kB _ _ h1,h2,fun q=>by replace h1:=hF.1▸q▸h1;cases h1⟩
 |some n=>
  obtain⟨a2,h1⟩:=h;have h2:=hW n rfl;obtain⟨vs,m,h3,h4⟩:=R.objs n _ _ h1 h2;exact⟨vs,m,h3,h4,fun q=>hF.2.2.2 n _ _ h1 h2 (by refine EL q ?_;exact .head _)⟩
theorem sP.keep{ax:Addr}{items:Lp}{watch:Option Nat}(h:sP B φ ax items watch){B':Fz}{aP:AA}(kB:∀b o,B b=some o→B' b=some o)(p:φ <+:aP):sP B' aP ax items watch:=by
 induction watch with
 |none=>obtain⟨vs,n,h1,h2⟩:=h;exact⟨vs,n,kB _ _ h1,aG.mono kB h2⟩
 |some n=>obtain⟨a2,h1⟩:=h;obtain⟨t,rfl⟩:=p;exact⟨a2,by rw[getElem?_append_left (List.getElem?_eq_some_iff.mp h1).1];exact h1⟩
def Ug(it ax:Addr)(items:Lp)(watch:Option Nat):Nat→Fz→AA→Heap→Prop:=fun i B φ h=>h.IsListIter it ax i∧sP B φ ax items watch
theorem zl{tg:Expr}{it:Addr}{v:Value}{E:Value→Shared→Prop}(ht:je tg=true)(h:∀elts k px T,v= .ref T→wpAny X.M X.A (letOwnedTupleGo (.Tuple elts k px) (.ref it) (.ref T)) (fun U s₂=>s₂=s) E s):wpAny X.M X.A (letOwnedTupleGo tg (.ref it) v) (fun U s₂=>s₂=s) E s:=by
 cases tg with
 |Tuple elts k px=>
  induction v with
  |ref T=>exact h elts k px T rfl
  |_=>exact wpAny_pure rfl
 |List elts px=>exact Bool.noConfusion ht
 |_=>exact wpAny_pure rfl
abbrev d8(X:Fx)(B:Fz)(φ:AA)(σ:LM)(h:Heap)(own:List Addr):Prop:=∀a∈own,dB X B φ σ a∧∃o,h.get? a=some o
theorem M9{tg:Expr}{it ax:Addr}{items:Lp}{watch:Option Nat}(hh:X.A.handled=none)(ht:je tg=true):VQ X tg it [it] items watch (Ug it ax items watch):=by
 refine⟨fun {i B φ h B' aP h'} st k kB p=>⟨st.1.at fun o e=>k it (.head _) o e,st.2.keep kB p⟩,fun {B φ σ s i x} R hF st hW hx E E'=>?_,fun {B φ σ s i} R hF st hW hx E=>?_,fun st Q E q=>wpAny_pyIter_listiter st.1 q⟩
 ·obtain⟨vs,n,h1,h2,dG⟩:=st.2.src R (hF it (.head _)).1 hW;obtain⟨v,hv,hV⟩:=h2.get hx;refine wpAny_pyNext_list_item st.1 (⟨_,h1,rfl,n,rfl⟩:s.heap.IsList ax vs.toArray) (x:=v) (by simpa using hv) fun h' hit' KN=>⟨v,rfl,?_⟩;have kp:∀b o,b∉[it]→s.heap.get? b=some o→h'.get? b=some o:=fun b o nb e=>(KN.2 b (by simpa using nb)).trans e;have Q:=c8 (own:=[it]) (fun a ha=>(hF a ha).1) kp;refine wpAny_mono (zl ht fun elts k px T U=>wpAny_letOwnedTupleGo_listiter hit' rfl) (fun U s₂ e=>?_) fun U U z=>z;subst e;exact⟨B,R.quiet Q fun a ha=>(hF a ha).1,Step.quiet Q fun a ha=>(hF a ha).1,kp,hV,fun a ha=>⟨(hF a ha).1,by rw[mem_singleton.mp ha];obtain⟨o,ho,_⟩:=hit';exact⟨o,ho⟩⟩,⟨hit',st.2⟩,fun b o e n=>by rw[n]at e;cases e⟩
 ·obtain⟨vs,n,h1,h2,dG⟩:=st.2.src R (hF it (.head _)).1 hW;refine wpAny_pyNext_list_end hh st.1 (⟨_,h1,rfl,n,rfl⟩:s.heap.IsList ax vs.toArray) (by have:=h2.length;simp at hx ⊢;simp+arith [*]) fun h' he'=>?_;have kp:∀b o,b∉[it]→s.heap.get? b=some o→h'.get? b=some o:=fun b o nb e=>he' b o (by simpa using nb) e;have Q:=c8 (own:=[it]) (fun a ha=>(hF a ha).1) kp;exact⟨rfl,R.quiet Q fun a ha=>(hF a ha).1,Step.quiet Q fun a ha=>(hF a ha).1,kp⟩
def Wv(it ax:Addr)(items:Lp):Nat→Fz→AA→Heap→Prop:=fun i B U h=>IsTupIter h it ax i∧∃vs n,B ax=some ⟨.type "tuple",none,.seq vs.toArray n,#[]⟩∧aG B vs items
theorem Na{cls:String}{o:Obj}{it T:Addr}{elts:List Expr}{k px}{E:Value→Shared→Prop}(ho:s.heap.get? it=some o)(hc:o.cls= .type cls)(hn:["enumerate","zip","dict_itemiterator","dict_reverseitemiterator","odict_iterator","itertools.zip_longest","itertools.pairwise"].contains cls=false):
  wpAny X.M X.A (letOwnedTupleGo (.Tuple elts k px) (.ref it) (.ref T)) (fun U s₂=>s₂=s) E s:=by
 unfold letOwnedTupleGo;refine wpAny_bind (wpAny_load ho ?_);refine ER hc ?_;cases o.data with
 |fields vs=>
  show wpAny _ _ (if (["enumerate","zip","dict_itemiterator","dict_reverseitemiterator","odict_iterator","itertools.zip_longest","itertools.pairwise"].contains cls&&vs[0]? ==some (rawInt T))=true then _ else _) _ _ _;refine ER (hn ..) (ER (Bool.false_and ..) (ER (if_neg (by decide) ..) ?_));exact wpAny_pure rfl
 |_=>exact wpAny_pure rfl
theorem QC{tg:Expr}{it ax:Addr}{items:Lp}(hh:X.A.handled=none)(ht:je tg=true):VQ X tg it [it] items none (Wv it ax items):=by
 refine⟨fun {i B φ h B' aP h'} st k kB p=>⟨?_,?_⟩,fun {B φ σ s i x} R hF st hW hx E E'=>?_,fun {B φ σ s i} R hF st hW hx E=>?_,fun st Q E q=>wpAny_pyIter_tupleiter st.1 q⟩
 ·obtain⟨⟨o,e,r⟩,_⟩:=st;exact⟨o,k it (.head _) o e,r⟩
 ·obtain⟨_,vs,n,h1,h2⟩:=st;exact⟨vs,n,kB _ _ h1,aG.mono kB h2⟩
 ·obtain⟨hi,vs,n,h1,h2⟩:=st;obtain⟨v,hv,hV⟩:=h2.get hx;refine next_tuple_item hi (items:=vs.toArray) ⟨_,R.kB _ _ h1,rfl,n,rfl⟩ (x:=v) (by simpa using hv) fun h' hit' KN=>⟨v,rfl,?_⟩;have kp:∀b o,b∉[it]→s.heap.get? b=some o→h'.get? b=some o:=fun b o nb e=>(KN.2 b (by simpa using nb)).trans e;have Q:=c8 (own:=[it]) (fun a ha=>(hF a ha).1) kp;obtain⟨oi,hoi,hci,hdi⟩:=id hit';refine wpAny_mono (zl ht fun elts k px T U=>Na hoi hci (by decide)) (fun U s₂ e=>?_) fun U U z=>z;subst e;exact⟨B,R.quiet Q fun a ha=>(hF a ha).1,Step.quiet Q fun a ha=>(hF a ha).1,kp,hV,fun a ha=>⟨(hF a ha).1,by rw[mem_singleton.mp ha];exact⟨oi,hoi⟩⟩,⟨hit',vs,n,h1,h2⟩,fun b o e n=>by rw[n]at e;cases e⟩
 ·obtain⟨hi,vs,n,h1,h2⟩:=st;refine next_tuple_end hh hi (items:=vs.toArray) ⟨_,R.kB _ _ h1,rfl,n,rfl⟩ (by have:=h2.length;simp at hx ⊢;simp+arith [*]) fun h' he'=>?_;have kp:∀b o,b∉[it]→s.heap.get? b=some o→h'.get? b=some o:=fun b o nb e=>he' b o (by simpa using nb) e;have Q:=c8 (own:=[it]) (fun a ha=>(hF a ha).1) kp;exact⟨rfl,R.quiet Q fun a ha=>(hF a ha).1,Step.quiet Q fun a ha=>(hF a ha).1,kp⟩
noncomputable def gj(a:Int):Nat→Lp
 |0=>[]
 |n+1=>.int a::gj (a+1) n
theorem Jj(n:Nat)(a:Int)(i:Nat):(gj a n)[i]?=if i<n then some (P.int (a+i))else none:=by
 induction n generalizing a i with
 |zero=>rfl
 |succ n ih=>induction i with
  |zero=>exact congrArg (fun z=>some (P.int z)) (Int.add_zero a).symm
  |succ i=>
   refine(ih (a+1) i).trans ?_;by_cases h:i<n
   ·rw[if_pos h,if_pos (Nat.succ_lt_succ h),Int.add_assoc,Int.add_comm 1];rfl
   ·rw[if_neg h,if_neg fun q=>h (lt_of_succ_lt_succ q)]
def Jk(it:Addr)(a:Int)(n:Nat):Nat→Fz→AA→Heap→Prop:=fun i U U h=>IsRangeIter h it (a+(i:Nat)) ((n:Int) - (i:Nat)) 1
theorem KO{tg:Expr}{it:Addr}{a:Int}{n:Nat}(hh:X.A.handled=none)(ht:je tg=true):VQ X tg it [it] (gj a n) none (Jk it a n):=by
 refine⟨fun {i B φ h B' aP h'} st k kB p=>k it (.head _) _ st,fun {B φ σ s i x} R hF st hW hx E E'=>?_,fun {B φ σ s i} R hF st hW hx E=>?_,fun st Q E q=>wpAny_pyIter_rangeiter st q⟩
 ·rw[Jj]at hx;split at hx
  ·rename_i hi;obtain rfl:=Option.some.inj hx;refine wpAny_pyNext_range_item st (by simp+arith [*]) fun h' hit' KN=>⟨_,rfl,?_⟩;have kp:∀b o,b∉[it]→s.heap.get? b=some o→h'.get? b=some o:=fun b o nb e=>(KN.2 b (by simpa using nb)).trans e;have Q:=c8 (own:=[it]) (fun a ha=>(hF a ha).1) kp;refine wpAny_mono (zl ht fun elts k px T e=>by contradiction) (fun U s₂ e=>?_) fun U U z=>z;subst e;refine⟨B,R.quiet Q fun a ha=>(hF a ha).1,Step.quiet Q fun a ha=>(hF a ha).1,kp,.int _ _,fun a ha=>⟨(hF a ha).1,by rw[mem_singleton.mp ha];exact⟨_,hit'⟩⟩,?_,fun b o e n=>by rw[n]at e;cases e⟩;unfold Jk;have e1:a+((i+1:Nat):Int)=a+(i:Int)+1:=by push_cast;simp+arith
   refine ER e1 (ER ((by push_cast;simp+arith):(n:Int) - ((i+1:Nat):Int)=(n:Int) - (i:Int) - 1) ?_);exact hit'
  ·contradiction
 ·rw[Jj]at hx;split at hx
  ·contradiction
  ·rename_i hi;refine wpAny_pyNext_range_end hh st (by lia) fun h' he'=>?_;have kp:∀b o,b∉[it]→s.heap.get? b=some o→h'.get? b=some o:=fun b o nb e=>he' b o (by simpa using nb) e;have Q:=c8 (own:=[it]) (fun a ha=>(hF a ha).1) kp;exact⟨rfl,R.quiet Q fun a ha=>(hF a ha).1,Step.quiet Q fun a ha=>(hF a ha).1,kp⟩
end
section
variable {prog:Program}{w:World}{A:Around}{E:Value→Shared→Prop}{s:Shared}
theorem yf{it l:Addr}{i:Nat}{items:Array Value}{x:Value}{Q:Value→Shared→Prop}(hit:IsTupIter s.heap it l i)(hl:IsTup s.heap l items)(hx:items[i]?=some x)
  (hQ:∀h',IsTupIter h' it l (i+1)→Heap.SameBut it s.heap h'→Q x {s with heap:=h'}):wpAny (model prog w) A (Builtin.SmallTypes.nextOf (.ref it)) Q E s:=by
 obtain⟨o,ho,hc,hd⟩:=id hit;obtain⟨ol,hol,_,nl,hdl⟩:=hl;unfold Builtin.SmallTypes.nextOf;refine wpAny_bind (wpAny_callSpecial?_slot (name:=Str.ofString "__next__") hit.typeIs slot_tupleiter_next
  (wpAny_call_entry slot_tupleiter_next hit.typeIs entry_tupleiter_next ?_ (args_tupleiter_next _)))
 show wpAny _ _ (field (.ref it) 0 >>=_) _ _ s;refine wpAny_bind (wpAny_field ho hd (x:=.ref l) rfl ?_);show wpAny _ _ (if (Value.ref l ==Value.none)=true then _ else _) _ _ s;rw[if_neg (show ¬((Value.ref l ==Value.none)=true) from Bool.false_ne_true)];show wpAny _ _ (field (.ref it) 1 >>=_) _ _ s;refine wpAny_bind (wpAny_field ho hd (x:=.int i 0) rfl ?_);show wpAny _ _ (seqItems? (.ref l) >>=_) _ _ s;refine wpAny_bind (wpAny_seqItems hol hdl ?_);simp only[toNat_natCast,hx];refine wpAny_bind (wpAny_setField ho hd (lt_succ_self _) (wpAny_pure ⟨x,rfl,wpAny_pure (hQ _ ?_ (Heap.SameBut.update ..))⟩));exact⟨_,get?_update_self _ ho (Obj.isFreed_of_fields (Obj.data_mapFields hd _)),(Obj.cls_mapFields ..).trans hc,by
  rw[Obj.data_mapFields hd];rfl⟩
theorem zm{it l:Addr}{i:Nat}{items:Array Value}{Q:Value→Shared→Prop}(hh:A.handled=none)(hit:IsTupIter s.heap it l i)(hl:IsTup s.heap l items)(hx:items[i]?=none)
  (hE:∀h' e,Heap.ExtBut it s.heap h'→(∃o,h'.get? e=some o∧o.cls= .type "StopIteration")→E (.ref e) {s with heap:=h'}):wpAny (model prog w) A (Builtin.SmallTypes.nextOf (.ref it)) Q E s:=by
 obtain⟨o,ho,hc,hd⟩:=id hit;obtain⟨ol,hol,_,nl,hdl⟩:=hl;unfold Builtin.SmallTypes.nextOf;refine wpAny_bind (wpAny_callSpecial?_slot (name:=Str.ofString "__next__") hit.typeIs slot_tupleiter_next
  (wpAny_call_entry slot_tupleiter_next hit.typeIs entry_tupleiter_next ?_ (args_tupleiter_next _)))
 show wpAny _ _ (field (.ref it) 0 >>=_) _ _ s;refine wpAny_bind (wpAny_field ho hd (x:=.ref l) rfl ?_);show wpAny _ _ (if (Value.ref l ==Value.none)=true then _ else _) _ _ s;rw[if_neg (show ¬((Value.ref l ==Value.none)=true) from Bool.false_ne_true)];show wpAny _ _ (field (.ref it) 1 >>=_) _ _ s;refine wpAny_bind (wpAny_field ho hd (x:=.int i 0) rfl ?_);show wpAny _ _ (seqItems? (.ref l) >>=_) _ _ s;refine wpAny_bind (wpAny_seqItems hol hdl ?_);simp only[toNat_natCast,hx];refine wpAny_bind (wpAny_rule (wpAny_bind (wpAny_setField ho hd (le_add_right _ _) ?_)));show wpAny _ _ (newExc (.type "StopIteration") [] >>=_) _ _ _;refine wpAny_bind ?_;simp only[newExc,newTuple];refine wpAny_bind (wpAny_newObj_type ?_ (by size_fits));refine wpAny_bind (m:=firstArgMember _ _) (wpAny_of_eq (a:=Value.none) (by first|rfl|(simp only[firstArgMember];rfl)) ?_);refine wpAny_newObj_type ?_ (by size_fits);dsimp only[raiseNew];refine wpAny_bind (wpAny_handled ?_)
 first|refine ER (show A.in1.handled=none from hh) ?_|rw[hh]
 refine wpAny_bind (wpAny_pure (wpAny_throw ?_));exact hE _ _ (((Heap.SameBut.update ..).extBut.push _).push _) ⟨_,get?_push_size _ rfl,rfl⟩
theorem KQ(hh:A.handled=none)(it l:Addr)(dG:l≠it)(items:Array Value):Draws prog w A it [it,l] items.size (fun i v=>items[i]?=some v) (fun i h=>IsTupIter h it l i∧IsTup h l items) where
 live:=fun U U st=>let ⟨o,ho,_⟩:=st.1;⟨o,ho⟩
 frame:=fun U U U st hk=>⟨let ⟨o,ho,r⟩:=st.1;⟨o,hk it (.head _) o ho,r⟩,(st.2).casesOn fun o hh=>hh.casesOn fun ho r=>⟨o,hk l (.tail _ (.head _)) o ho,r⟩⟩
 item:=fun i s Q E hi st hQ=>by
  refine yf st.1 st.2 (x:=items[i]) (by simp+arith) fun h' hit' KN=>?_;exact hQ _ h' s.toks (by simp+arith) ⟨hit',(st.2).casesOn fun o hh=>hh.casesOn fun ho r=>⟨o,KN.extBut l o dG ho,r⟩⟩ KN
 done:=fun s Q E st hE=>zm hh st.1 st.2 (by simp) hE
theorem Nb{α:Type}{M:Model}{A:Around}{E:Value→Shared→Prop}{Q:α→Shared→Prop}{s:Shared}{a:α}(h:∀b,Q b s):wpAny M A (pure a) Q E s:=wpAny_pure (h a)
theorem CY(l:Addr)(items:Array Value)(n:Nat):
  Meets (Builtin.«enumerate.__new__» ⟨[.type "enumerate",.ref l],[]⟩) (fun U R s=>s.heap.get? l=some {cls:=.type "tuple",dict:=none,data:=.seq items n,slots:=#[]}∧
   R (.ok (.ret (.ref (s.heap.push {cls:=.type "tuple_iterator",data:=.fields #[.ref l,.int 0 0]}).objs.size)))
    {s with heap:=(s.heap.push {cls:=.type "tuple_iterator",data:=.fields #[.ref l,.int 0 0]}).push {cls:=.type "enumerate",data:=.fields #[.none,.bool false,.ref s.heap.objs.size,rawInt 0,.none,.none]}}):=
 .of_wp fun prog w A R s h=>by
  obtain⟨hp,g,d,tk,os⟩:=s;obtain⟨hl,h⟩:=h;have Hx:=sub_enumerate;have hL:IsTup (Shared.heap ⟨hp,g,d,tk,os⟩) l items:=⟨_,hl,rfl,n,rfl⟩;wp_walk using wpAny_loadPart' hl;refine wpAny_stack_any fun st=>Nb fun b=>?_;induction b with
  |false=>wp_walk using wpAny_loadPart' hl,iter_tuple hL;exact⟨_,rfl,h⟩
  |true=>wp_walk using wpAny_loadPart' hl,iter_tuple hL;exact⟨_,rfl,h⟩
theorem A6{l:Addr}{items:Array Value}{n:Nat}{Q:Value→Shared→Prop}(hL:s.heap.get? l=some {cls:=.type "tuple",dict:=none,data:=.seq items n,slots:=#[]})
  (h:∀h',IsEnum h' (s.heap.objs.size+1) s.heap.objs.size 0 .none→IsTupIter h' s.heap.objs.size l 0→h'.objs.size=s.heap.objs.size+2→
   (∀b o,s.heap.get? b=some o→h'.get? b=some o)→Q (.ref (s.heap.objs.size+1)) {s with heap:=h'}):
  wpAny (model prog w) A (call (.type "enumerate") [.ref l]) Q E s:=by
 refine callType_new F.called_enumerate (by decide) (F.typeCall_enumerate_1 _) (F.newCall_enumerate_1 _) (fun obj=>F.args_object_init_2 obj _) F.entry_enumerate_new
  (CY l items n) ⟨hL,?_⟩
 have hz:(s.heap.push {cls:=.type "tuple_iterator",data:=.fields #[.ref l,.int 0 0]}).objs.size=s.heap.objs.size+1:=size_push ..;show _∧_;refine ER hz ?_;have he:=get?_push_size (s.heap.push {cls:=.type "tuple_iterator",data:=.fields #[.ref l,.int 0 0]})
   (o:={cls:=.type "enumerate",data:=.fields #[.none,.bool false,.ref s.heap.objs.size,rawInt 0,.none,.none]}) rfl
 rw[hz]at he;refine⟨⟨_,he,rfl⟩,h _ he ⟨_,get?_push_of_some _ (get?_push_size _ rfl),rfl,rfl⟩ (ER (size_push ..) (ER (hz ..) rfl)) fun b o y=>get?_push_of_some _ (get?_push_of_some _ y)⟩
end
noncomputable def A7:Nat→Lp→Lp
 |_,[]=>[]
 |i,x::l=>.tup [.int i,x]::A7 (i+1) l
theorem E5(l:Lp)(j i:Nat):(A7 j l)[i]?=(l[i]?).map fun x=>P.tup [.int ((j+i:Nat):Int),x]:=by
 induction l generalizing j i with
 |nil=>rfl
 |cons x l ih=>induction i with
  |zero=>rfl
  |succ i=>exact(ih (j+1) i).trans (by rw[Nat.succ_add_eq_add_succ];rfl)
noncomputable def CZ(e:Expr):Bool:=Nat.beq e.ctorIdx 25
section
variable {X:Fx}{B:Fz}{φ:AA}{σ:LM}{s:Shared}
def oA(ls:Bool)(B:Fz)(it ax:Addr)(items:Lp)(i:Nat)(h:Heap):Prop:=
 if ls then h.IsListIter it ax i∧∃vs n,B ax=some ⟨.type "list",none,.seq vs.toArray n,#[]⟩∧aG B vs items
 else IsTupIter h it ax i∧∃vs n,B ax=some ⟨.type "tuple",none,.seq vs.toArray n,#[]⟩∧aG B vs items
structure Uh (ls:Bool) (e it ax:Addr) (items:Lp) (i:Nat) (B:Fz) (h:Heap):Prop where
 ne:e≠it
 le:i≤items.length
 en:∃old,IsEnum h e it i old
 sq:oA ls B it ax items i h
def Ui(ls:Bool)(e it ax:Addr)(items:Lp):Nat→Fz→AA→Heap→Prop:=fun i B U h=>Uh ls e it ax items i B h
inductive YD (X:Fx) (ls:Bool) (B:Fz) (it ax:Addr) (items:Lp) (i:Nat) (h:Heap):Prop
 |mk (dG:ax≠it) (D:Nat→Heap→Prop) (vs:Lv) (hD:Draws X.prog X.w X.A.in1 it [it,ax] vs.toArray.size (fun i v=>vs.toArray[i]?=some v) D) (hd:D i h) (hv:aG B vs items) (ho:∃o,B ax=some o) (back:∀j h',D j h'→(∀b o,B b=some o→h'.get? b=some o)→oA ls B it ax items j h')
theorem oA.draws{ls:Bool}{it ax:Addr}{items:Lp}{i:Nat}(hh:X.A.handled=none)(R:Rel X B φ σ s)(hF:dB X B φ σ it)(h:oA ls B it ax items i s.heap):
  YD X ls B it ax items i s.heap:=by
 unfold oA at h;split at h
 ·rename_i q;obtain⟨h1,vs,n,h2,h3⟩:=h;have dG:ax≠it:=fun q=>by rw[q,hF.1]at h2;contradiction
  refine⟨dG,(fun i h=>h.IsListIter it ax i∧h.IsList ax vs.toArray),vs,Draws.list (A:=X.A.in1) hh it ax dG vs.toArray,⟨h1,⟨_,R.kB _ _ h2,rfl,n,rfl⟩⟩,h3,⟨_,h2⟩,fun j h' st U=>?_⟩;unfold oA;rw[if_pos q];exact⟨st.1,vs,n,h2,h3⟩
 ·rename_i q;obtain⟨h1,vs,n,h2,h3⟩:=h;have dG:ax≠it:=fun q=>by rw[q,hF.1]at h2;contradiction
  refine⟨dG,(fun i h=>IsTupIter h it ax i∧IsTup h ax vs.toArray),vs,KQ (A:=X.A.in1) hh it ax dG vs.toArray,⟨h1,⟨_,R.kB _ _ h2,rfl,n,rfl⟩⟩,h3,⟨_,h2⟩,fun j h' st U=>?_⟩;unfold oA;rw[if_neg q];exact⟨st.1,vs,n,h2,h3⟩
theorem oA.mono{ls:Bool}{B':Fz}{it ax:Addr}{items:Lp}{i:Nat}{h h':Heap}(x:oA ls B it ax items i h)(k:∀o,h.get? it=some o→h'.get? it=some o)(kB:∀b o,B b=some o→B' b=some o):oA ls B' it ax items i h':=by
 unfold oA at x ⊢;split at x
 ·rename_i q;rw[if_pos q];obtain⟨⟨o,e,r⟩,vs,n,h1,h2⟩:=x;exact⟨⟨o,k o e,r⟩,vs,n,kB _ _ h1,aG.mono kB h2⟩
 ·rename_i q;rw[if_neg q];obtain⟨⟨o,e,r⟩,vs,n,h1,h2⟩:=x;exact⟨⟨o,k o e,r⟩,vs,n,kB _ _ h1,aG.mono kB h2⟩
theorem Nc{tg:Expr}{ls:Bool}{e it ax:Addr}{items:Lp}(hh:X.A.handled=none)(ht:CZ tg=true):VQ X tg e [e,it] (A7 0 items) none (Ui ls e it ax items):=by
 refine⟨fun {i B φ h B' aP h'} st k kB p=>⟨st.ne,st.le,?_,st.sq.mono (k it (.tail _ (.head _))) kB⟩,fun {B φ σ s i x} R hF st hW hx E E'=>?_,fun {B φ σ s i} R hF st hW hx E=>?_,fun st Q E q=>?_⟩
 ·obtain⟨old,e1⟩:=st.en;exact⟨old,k e (.head _) _ e1⟩
 ·obtain⟨dG,hle,⟨old,he⟩,hs⟩:=st;obtain⟨hax,D,vs,hD,hd,hv,⟨ox,hox⟩,back⟩:=hs.draws hh R (hF it (.tail _ (.head _))).1;replace hx:=(E5 ..)▸hx;obtain⟨y,hy,rfl⟩:=map_eq_some_iff.mp hx;obtain⟨v,hv1,hV⟩:=hv.get hy;have hlt:i<vs.toArray.size:=by have:=(List.getElem?_eq_some_iff.mp hv1).1;simpa using this
  have hef:e∉[it,ax]:=by
   intro q;rcases mem_cons.mp q with q|q
   ·exact dG q
   ·rw[mem_singleton.mp q]at hF;have:=(hF ax (.head _)).1.1;rw[hox]at this;contradiction
  refine wpAny_pyNext_enum_itemD hD he hd hlt dG hef fun x' h' tk hP ho hd' hT Hq hk=>⟨_,rfl,?_⟩;have hx':x'=v:=by rw[List.getElem?_toArray]at hP;rw[hv1]at hP;exact(Option.some.inj hP).symm
  subst hx';cases tg<;>first|(exact Bool.noConfusion ‹_›;done)|skip
  refine wpAny_letOwnedTupleGo_enum ho fun CL he'' hs''=>?_;have C0:e<s.heap.objs.size:=lt_size he;have kp:∀b o,b∉[e,it]→s.heap.get? b=some o→CL.get? b=some o:=fun b o nb q=>by
   simp only[mem_cons,not_mem_nil,or_false,not_or]at nb;exact(hs''.2 b nb.1).trans (hk b o nb.1 nb.2 q)
  have Q:=c8 (own:=[e,it]) (fun a ha=>(hF a ha).1) kp
  have R2:=R.quiet (tk:=tk+1) Q fun a ha=>(hF a ha).1
  have S2:=Step.quiet Q fun a ha=>(hF a ha).1
  have hT'':CL.get? s.heap.objs.size=some {cls:=.type "tuple",data:=.seq #[.int i tk,x']}:=(hs''.2 _ (ne_of_gt C0)).trans hT;have F:=R.uH (le_refl s.heap.objs.size);have R3:=R2.mL F.1 F.2.2.1 F.2.2.2 hT'';have S3:=S2.trans (Step.mL (o:={cls:=.type "tuple",data:=.seq #[.int i tk,x']}) F.1 F.2.1 (le_of_lt R.xm));have mono:=cH (o:=({cls:=.type "tuple",data:=.seq #[.int i tk,x']}:Obj)) F.1;refine⟨_,R3,S3,kp,.tup (n:=0) (vs:=[.int i tk,x']) (cU ..) (.cons (by refine ER (zero_add ..) ?_;exact .int _ _) (.cons (Is.mono mono hV) .nil)),fun a ha=>?_,⟨dG,(List.getElem?_eq_some_iff.mp hy).1,⟨x',?_⟩,?_⟩,fun b o e n=>?_⟩
  ·have hf:=(hF a ha);refine⟨⟨?_,hf.1.2.1,hf.1.2.2.1,hf.1.2.2.2⟩,?_⟩
   ·unfold jb;refine ER (if_neg (ne_of_lt ((hf.2).casesOn fun U e=>lt_size e))) ?_;exact hf.1.1
   ·rcases mem_cons.mp ha with rfl|ha
    ·exact⟨_,he''⟩
    ·refine ER (mem_singleton.mp ha) ?_;obtain⟨o,q⟩:=hD.live _ _ hd';exact⟨o,(hs''.2 it (Ne.symm dG)).trans q⟩
  ·have:((i+1:Nat):Int)=(i:Int)+1:=by push_cast;rfl
   refine ER this ?_;exact he''
  ·exact(back (i+1) h' hd' fun b o q=>hk b o (fun z=>by subst z;rw[(hF b (.head _)).1.1]at q;contradiction) (fun z=>by subst z;rw[(hF b (.tail _ (.head _))).1.1]at q;contradiction) (R.kB b o q)).mono (fun o q=>(hs''.2 it (Ne.symm dG)).trans q) mono
  ·unfold jb at e;split at e
   ·rename_i q;exact le_of_eq q.symm
   ·rw[n]at e;contradiction
 ·refine hide fun gG kK=>?_;obtain⟨dG,hle,⟨old,he⟩,hs⟩:=st;obtain⟨hax,D,vs,hD,hd,hv,⟨ox,hox⟩,back⟩:=hs.draws hh R (hF it (.tail _ (.head _))).1;refine kK ?_;rw[E5,Option.map_eq_none_iff]at hx;have hl:=hv.length;have hi:i=vs.toArray.size:=by
   have:=List.getElem?_eq_none_iff.mp hx
   refine ER size_toArray ?_;lia
  subst hi;refine wpAny_pyNext_enum_endD hD he hd fun h' he'=>?_;have kp:∀b o,b∉[e,it]→s.heap.get? b=some o→h'.get? b=some o:=fun b o nb q=>he' b o (fun z=>nb (by refine ER z ?_;exact .tail _ (.head _))) q;have Q:=c8 (own:=[e,it]) (fun a ha=>(hF a ha).1) kp;exact⟨rfl,R.quiet Q fun a ha=>(hF a ha).1,Step.quiet Q fun a ha=>(hF a ha).1,kp⟩
 ·obtain⟨old,he⟩:=st.en;exact wpAny_pyIter_enum he q
end
end
section
open PySem PySem.W PySem.Calls PyProof.Rows
noncomputable def notStar(e:Expr):Bool:= !Nat.beq e.ctorIdx 22
def cu(es:List Expr):Bool:=es.all notStar
theorem cZ{e:Expr}{es:List Expr}{en:Env}(h:notStar e=true):starEach (e::es) en=(false,eval e en)::starEach es en:=by
 cases e<;>first|rfl|(exact Bool.noConfusion ‹_›)
theorem plain_any{pos:Pos}{en:Env}:∀{es:List Expr},cu es=true→(backTo pos (starEach es en)).any (·.1)=false:=by
 intro rv;induction rv with
 |nil=>exact fun o=>rfl
 |cons e es ih=>
  intro h;simp only[cu,all_cons,and_eq_true]at h;refine ER (cZ h.1) ?_;show(false || (backTo pos (starEach es en)).any (·.1))=false;refine ER (ih h.2) ?_;rfl
section
variable {X:Fx}{B:Fz}{φ:AA}{σ:LM}{s:Shared}{en:Env}{r:Nat}
theorem call_plain{f:Value}{first:Lv}{es:List Expr}{pos:Pos}{Q E:Value→Shared→Prop}(hp:cu es=true)(hk:∀h,X.K.In h→∃k,(k=Keeper.frame∨k=Keeper.machine∨k=Keeper.boundFrame)∧Looks X.M h (keeperOf f) k)
  (key:wpAny X.M X.A (spliced (backTo pos (starEach es en))) (fun vs aZ=>X.K.In aZ.heap∧wpAny X.M X.A (call f (first++vs) []) Q E aZ) E s):wpAny X.M X.A (callWith pos f first (backTo pos (starEach es en)) []) Q E s:=by
 refine callWith_of (P:=X.K.In) (by refine ER (plain_any hp) ?_;rfl) hk ?_;induction es with
 |nil=> 
  unfold evalArgs;show wpAny _ _ (spliced [] >>=_) _ _ s;exact wpAny_bind (wpAny_mono key (fun vs s' h=>wpAny_bind (wpAny_pure (wpAny_holding (wpAny_bind (wpAny_pure (wpAny_bind (wpAny_pure (wpAny_pure h)))))))) fun U U h=>h)
 |cons e es=>
  have hp:=(and_eq_true_iff.mp (show(notStar e&&cu es)=true from hp)).1
  rw[cZ hp]at key ⊢;exact evalArgs_plain key
theorem mP{f:Value}{first:Lv}{es:List Expr}{cs:List (ai→M V)}{g:List V→M V}{pos:Pos}{le:ai}(hs:vP X en es cs)(hp:cu es=true)
  (hk:∀h,X.K.In h→∃k,(k=Keeper.frame∨k=Keeper.machine∨k=Keeper.boundFrame)∧Looks X.M h (keeperOf f) k) (hR:Rel X B φ σ s) (L:Loc B φ en le s.heap)
  (hc:∀B' aP ah s' vs vals,Rel X B' aP ah s'→Step X B φ s.heap B' aP s'.heap→oS B' aP vals vs→aE X B' aP RV (call f (first++vals)) (g vs ah) s'):
  aE X B φ RV (callWith pos f first (backTo pos (starEach es en)) []) (fun Q E=>ow cs le σ (fun vs σ=>g vs σ Q E) E) s:=fun Q E z=>
 call_plain hp hk (wpAny_mono (hs pos B φ σ le s hR L _ _ z) (fun vals aZ hh=>hh.casesOn fun bA aS br vs gh fZ V₁ z=>⟨gh.Ks,wpAny_mono (hc bA aS br aZ vs vals gh fZ V₁ Q E z) (fun U U h=>h.after fZ) fun U U h=>h.after fZ⟩) fun U U h=>h)
inductive dC (f:Bf) (σ:LM) (v:V) (Q:MQ V):Prop|mk (x y:P) (e1:view σ v=some x) (e2:nQ f x y) (q:Q (.p y) σ)
theorem dC.pp{f:Bf}{σ:LM}{Q:MQ V}{x y:P}(e:nQ f x y)(q:Q (.p y) σ):dC f σ (.p x) Q:=.mk x y rfl e q
abbrev Z3(f:Bf)(Q:MQ V):MQ V:=fun v σ=>dC f σ v Q
def cT(f:Bf)(c:ai→M V):ai→M V:=fun le σ Q E=>c le σ (Z3 f Q) E
def one(g:V→M V):List V→M V:=fun vs σ Q E=>match vs with|[v]=>g v σ Q E|_=>False
theorem call_one{f:Value}{first:Lv}{e:Expr}{c:ai→M V}{g:V→M V}{pos:Pos}{le:ai}(hE:EnOK X en r)(h:Ev X en e c)(hp:notStar e=true)
  (hk:∀h,X.K.In h→∃k,(k=Keeper.frame∨k=Keeper.machine∨k=Keeper.boundFrame)∧Looks X.M h (keeperOf f) k) (hR:Rel X B φ σ s) (L:Loc B φ en le s.heap)
  (hc:∀B' aP ah s' v val,Rel X B' aP ah s'→Step X B φ s.heap B' aP s'.heap→dM B' aP val v→aE X B' aP RV (call f (first++[val])) (g v ah) s'):
  aE X B φ RV (callWith pos f first (backTo pos (starEach [e] en)) []) (fun Q E=>c le σ (fun v σ=>g v σ Q E) E) s:=
 mP (g:=one g) (vP.cons hE h vP.nil (cZ hp)) (show(notStar e&&true)=true by refine ER hp ?_;rfl) hk hR L fun B' aP ah s' vs vals R' S' V'=>by
  induction V' with
  |nil=>exact fun U U z=>z.elim
  |cons hv hr=>induction hr with
   |nil=>exact hc _ _ _ _ _ _ R' S' hv
   |cons=>exact fun U U z=>z.elim
theorem gR{f:Value}(h:keeperOf f=pure .machine):∀h',X.K.In h'→∃k,(k=Keeper.frame∨k=Keeper.machine∨k=Keeper.boundFrame)∧Looks X.M h' (keeperOf f) k:=
 fun U U=>⟨.machine,.inr (.inl rfl),Looks.of_pure h⟩
theorem jM{x:Str}{val:Value}{Q:Value→Shared→Prop}{E}(hE:EnOK X en r)(hR:Rel X B φ σ s)(hx:en.kindOf x=some .globalImplicit)(e:nsIn X.K mainGlobals x=some none)(hb:bootBuiltins x=some val)(hn:x≠ "__name__")(hd:(x ==("__debug__" :Str))=false){pos}(q:Q val s):
  wpAny X.M X.A (eval (.Name x pos) en) Q E s:=by
 obtain⟨p,loose,mg,mb,T⟩:=hR.gl.top;have k:∀b o,X.H0.get? b=some o→s.heap.get? b=some o:=fun b o z=>hR.kB b o (hR.kH b o z);have b:s.heap.Ns en.builtins mb:=by rw[hE.blt];exact T.b.keeps k
 exact Name_function_global hE.kind hx (loadGlobal_builtin ((by rw[hE.Qq];exact T.g.keeps k):s.heap.Ns en.globals mg) (mg_none_of hR.gl.K T.g e) b ((T.builtins x hn).trans hb) q) hd
noncomputable def YE:List (Str×Bf):=[("len",.len),("int",.int),("str",.str),("abs",.abs),("tuple",.tuple),("list",.list),("max",.max)]
theorem QD(f:Bf):keeperOf f.val=pure .machine:=by induction f<;>rfl
theorem Ev.bf{x:Str}{f:Bf}{e:Expr}{c:ai→M V}{p pos}(hE:EnOK X en r)(hx:en.kindOf x=some .globalImplicit)(hk:nsIn X.K mainGlobals x=some none)(hb:bootBuiltins x=some f.val)(hn:x≠ "__name__")(hd:(x ==("__debug__" :Str))=false)(hs:notStar e=true)(h:Ev X en e c):
  Ev X en (.Call (.Name x p) [e] [] pos) (cT f c):=by
 intro B φ σ le s hR L Q E z;refine ER (arm_eval_Call_Name' ..) ?_;exact wpAny_bind (jM hE hR hx hk hb hn hd ((call_one (first:=[]) (g:=fun v σ Q U=>dC f σ v Q) hE h hs (gR (QD f)) hR L fun B' aP ah s' v val R' U V' Q E hh=>hh.casesOn fun x y e1 e2 q=>e2 R' hE.room (R'.sees V' e1) Q E q).at z))
inductive Bm where
 |append|index|count|join
noncomputable def zo:Lp→Option (Ls)
 |[]=>some []
 | .str x::l=>(zo l).map (x:: ·)
 |_::_=>none
theorem v7{vs:Lv}{l:Lp}{ys:Ls}(h:aG B vs l)(e:zo l=some ys):StrsAre vs ys:=by
 induction vs generalizing l ys with
 |nil=>cases h;obtain rfl:=Option.some.inj e;exact .nil
 |cons v vs ih=>
  cases h with
  |cons h1 h2=>cases h1 with
   |str x t=>
    obtain⟨m,e1,rfl⟩:=map_eq_some_iff.mp e;exact .cons _ _ (ih h2 e1)
   |_=>contradiction
inductive Nd (ov:V) (v:V) (σ:LM) (Q:MQ V):Bm→Prop
 |append (n:Nat) (x:P) (l:Lp) (h1:ov= .ref n) (h2:v= .p x) (e:σ[n]?=some (.list l)) (hl:l.length≤bL) (q:Q (.p .none) (σ.set n (.list (l++[x])))):Nd ov v σ Q .append
 |index (l:Lp) (ys:Ls) (x:Str) (e:view σ ov=some (.list l)) (h2:v= .p (.str x)) (hy:zo l=some ys) (hx:x∈ys) (hl:ys.length≤bL) (q:Q (.p (.int (ys.idxOf x:Nat))) σ):Nd ov v σ Q .index
 |count (l:Lp) (ys:Ls) (x:Str) (e:view σ ov=some (.list l)) (h2:v= .p (.str x)) (hy:zo l=some ys) (q:Q (.p (.int (ys.count x:Nat))) σ):Nd ov v σ Q .count
 |join (l:Lp) (ys:Ls) (x:Str) (h1:ov= .p (.str x)) (e:view σ v=some (.list l)) (hy:zo l=some ys) (hl:(ys.map (·.length)).sum+ys.length * x.length≤bL) (q:Q (.p (.str (Str.join x ys))) σ):Nd ov v σ Q .join
theorem HP{prog:Program}{w:World}{A:Around}{E:Value→Shared→Prop}{s:Shared}{l:Addr}{vs:Lv}{ys:Ls}{k:Str}{t:Tok}{Q:Value→Shared→Prop}(hl:s.heap.IsList l vs.toArray)(hi:StrsAre vs ys)
  (hk:k∈ys) (hz:ys.length≤bL) (h:Q (.int (ys.idxOf k:Nat) s.toks) {s with toks:=s.toks+1}):
  wpAny (model prog w) A (call (.builtin "list.index") [.ref l,.str k t]) Q E s:=by
 obtain⟨⟨cls,dd,data,sl⟩,ho,hc,n,hd⟩:=id hl;simp only at hc hd;subst hc hd;have at_:∀{vs:Lv} {ys:Ls},StrsAre vs ys→vs.length=ys.length∧∀(j:Nat) (h1:j<vs.length) (h2:j<ys.length),isStrOf k vs[j]=(ys[j] ==k):=by
  intro vs ys h;induction h with
  |nil=>exact⟨rfl,fun j h1=>absurd h1 (not_lt_zero _)⟩
  |cons n u _ ih=>
   refine⟨by simp[ih.1],fun j h1 h2=>?_⟩;induction j with
   |zero=>rfl
   |succ j=>exact ih.2 j (lt_of_succ_lt_succ h1) (lt_of_succ_lt_succ h2)
 obtain⟨aaG,at_⟩:=at_ hi;have hj:ys.idxOf k<ys.length:=List.idxOf_lt_length_iff.mpr hk;refine call_meets PySem.F.slot_list_index ⟨_,ho,rfl⟩ PySem.F.entry_list_index (PySem.F.args_list_index_2 _ _)
  (SeqAt.list_indexAt l vs.toArray n dd sl (.str k t) (isStrOf k) (ys.idxOf k) (by simpa [aaG]using hj) (by unfold bL at hz;lia) ?_ ?_) ⟨ho,fun y hy=>(eq_isStrOf k t hi y (by simpa using hy)).at _ _,h⟩
 ·show isStrOf k vs[ys.idxOf k]=true;refine ER (at_ _ (by omega) hj) ?_;simp
 ·intro j hjs hlt;have hjs:j<vs.length:=by simpa using hjs
  show isStrOf k vs[j]=false;refine ER (at_ j hjs (by simp_all+arith)) ?_;rw[beq_eq_false_iff_ne];intro e;have h2:j<ys.length:=by simp_all+arith
  have:=List.not_of_lt_findIdx (p:=(· ==k)) (xs:=ys) (i:=j) hlt
  simp[e]at this
theorem count_is(k:Str):∀ys:Ls,PySem.Spec.countIn (.str k) (ys.map PyData.str)=(ys.count k:Nat):=by
 intro rv;induction rv with
 |nil=>exact rfl
 |cons y ys ih=>
  rw[map_cons,PySem.Spec.countIn,ih,count_cons];simp only[PySem.Spec.same];rcases Bool.eq_false_or_eq_true (y ==k)with hb|hb<;>simp only[hb,false_eq_true,if_true,if_false]<;>push_cast<;>simp+arith
theorem Nf{B:Fz}{vs:Lv}{l:Lp}{ys:Ls}(h:aG B vs l)(e:zo l=some ys):∀y∈ys,PyData.strOk y=true:=by
 induction vs generalizing l ys with
 |nil=>cases h;obtain rfl:=Option.some.inj e;intro _ h;contradiction
 |cons v vs ih=>
  cases h with
  |cons h1 h2=>cases h1 with
   |str x t nP=>
    obtain⟨m,e1,rfl⟩:=map_eq_some_iff.mp e;intro y hy;rcases mem_cons.mp hy with rfl|hy
    ·exact nP
    ·exact ih h2 e1 y hy
   |_=>contradiction
theorem zp{x:Str}(hx:PyData.strOk x=true):∀{ys:Ls},(∀y∈ys,PyData.strOk y=true)→PyData.strOk (Str.join x ys)=true
 |[],_=>by unfold Str.join;decide+kernel
 |[y],h=>h y (.head _)
 |y::z::r,h=>by
  unfold Str.join;exact nL (nL (h y (.head _)) hx) (zp hx fun w hw=>h w (.tail _ hw))
noncomputable def Bm.id:Bm→String
 | .append=> "list.append" | .index=> "list.index" | .count=> "list.count" | .join=> "str.join"
theorem QE{m:Bm}{ov v:V}{zj val:Value}(hR:Rel X B φ σ s)(ho:dM B φ zj ov)(hv:dM B φ val v):
  aE X B φ RV (call (.builtin m.id) [zj,val]) (fun Q U=>Nd ov v σ Q m) s:=fun Q E z=>by
 induction z with
 |append n x l h1 h2 dF hl z=>
  subst h1 h2;obtain⟨ad,fW,rfl⟩:=ho;obtain⟨vs,m,h1,h2⟩:=hR.objs n ad _ fW dF;have h1':s.heap.get? ad.1=some {cls:=.type "list",dict:=none,data:=.seq vs.toArray m,slots:=#[]}:=h1;refine call_meets PySem.F.slot_list_append ⟨_,h1,rfl⟩ PySem.F.entry_list_append (PySem.F.args_list_append_2 _ _) (list_append ad.1 vs.toArray m val (jV h2 hl)) ⟨h1,?_⟩;have k:∀b,b∉fh ad (.list l)→(s.heap.update ad.1 (Obj.mapSeq fun x=>x.push val)).get? b=s.heap.get? b:=fun b hb=>get?_update_other _ _ fun q=>hb (by refine EL q ?_;exact mem_singleton_self _);exact⟨B,φ,_,.p .none,hR.turn (tk:=s.toks) (o':=.list (l++[x])) fW dF (fun a ha=>ha) k ⟨vs++[val],_,by refine ER (get?_update_self _ h1' rfl) ?_;simp[Obj.mapSeq];rfl,h2.append (.cons hv .nil)⟩,Step.turn hR fW dF k,.none,z⟩
 |index l ys x e h2 hy hx hl z=>
  subst h2;obtain⟨a,vs,n,rfl,h1,h2⟩:=hR.sees ho e;refine Is.uA hv fun U U=>?_;exact aE.at (aE.cC (v:=V.p (P.int _)) hR (fun Q E q=>HP ⟨_,h1,rfl,n,rfl⟩ (v7 h2 hy) hx hl q) (.int _ _)) z
 |count l ys x e h2 hy z=>
  subst h2;obtain⟨a,vs,n,rfl,h1,h2⟩:=hR.sees ho e;refine Is.uA hv fun U U=>?_;exact aE.at (aE.cC (v:=V.p (P.int _)) hR (fun Q E q=>count_list_strs ⟨_,h1,rfl,n,rfl⟩ (v7 h2 hy) (by refine ER (count_is ..) ?_;exact q)) (.int _ _)) z
 |join l ys x h1 e hy hl z=>
  subst h1;obtain⟨a,vs,n,rfl,h1,h2⟩:=hR.sees hv e;cases ho with
  |str _ t nP=>
  refine join_list ⟨_,h1,rfl,n,rfl⟩ (v7 h2 hy) (le_trans hl (by decide)) fun t' k=>⟨B,φ,σ,_,hR.toks k,Step.refl ..,?_,z⟩;refine ER (show Txt.join x ys=Str.join x ys from StrLaws.glued_eq_join x ys) ?_;exact .str _ _ (zp nP (Nf h2 hy))
end
noncomputable def Bm.name:Bm→Str
 | .append=> "append" | .index=> "index" | .count=> "count" | .join=> "join"
inductive v8 (σ:LM) (ov:V):Bm→Prop
 |append (l:Lp) (e:view σ ov=some (.list l)):v8 σ ov .append
 |index (l:Lp) (e:view σ ov=some (.list l)):v8 σ ov .index
 |count (l:Lp) (e:view σ ov=some (.list l)):v8 σ ov .count
 |join (x:Str) (e:ov= .p (.str x)):v8 σ ov .join
structure Ng (A B:Prop):Prop where
 a:A
 b:B
abbrev YF(m:Bm)(ov:V)(Q:MQ V):MQ V:=fun v σ=>Nd ov v σ Q m
abbrev Z4(m:Bm)(c:ai→M V)(le:ai)(Q:MQ V)(E:ME):MQ V:=fun ov σ=>Ng (v8 σ ov m) (c le σ (YF m ov Q) E)
def ry(m:Bm)(o c:ai→M V):ai→M V:=fun le σ Q E=>o le σ (Z4 m c le Q E) E
structure Run (f:List V→M V) (vs:List V) (σ:LM) (Q:MQ V) (E:ME):Prop where
 q:f vs σ Q E
abbrev Ww(f:List V→M V)(Q:MQ V)(E:ME):MQ (List V):=fun vs σ=>Run f vs σ Q E
def ay(f:List V→M V)(cs:List (ai→M V)):ai→M V:=fun le σ Q E=>ow cs le σ (Ww f Q E) E
abbrev E6:=Nat→Nat→Option (List V→M V)
inductive Nh (mt:E6) (nm:Nat) (σ:LM) (ov:V) (Q:(List V→M V)→Prop):Prop|mk (c:Nat) (fs:List (Nat×V)) (f:List V→M V) (e1:CR σ ov=some (c,fs)) (e2:bW fs nm=none) (e3:mt c nm=some f) (q:Q f)
abbrev YG(ov:V)(f:List V→M V)(Q:MQ V)(E:ME):MQ (List V):=fun vs σ=>Run f (ov::vs) σ Q E
abbrev Uj(ov:V)(c:M (List V))(σ:LM)(Q:MQ V)(E:ME):(List V→M V)→Prop:=fun f=>c σ (YG ov f Q E) E
abbrev Wx(mt:E6)(nm:Nat)(c:M (List V))(Q:MQ V)(E:ME):MQ V:=fun ov σ=>Nh mt nm σ ov (Uj ov c σ Q E)
def aM(mt:E6)(nm:Nat)(o:ai→M V)(cs:List (ai→M V)):ai→M V:=fun le σ Q E=>o le σ (Wx mt nm (ow cs le) Q E) E
section
variable {X:Fx}{B:Fz}{φ:AA}{σ:LM}{s:Shared}{en:Env}{r:Nat}
theorem Uk{m:Bm}{ov:V}{zj:Value}{pl:Sem Bool}{Q:Value×Lv→Shared→Prop}{E:Value→Shared→Prop}(hR:Rel X B φ σ s)(ho:dM B φ zj ov)(h:v8 σ ov m)(q:Q (.builtin m.id,[zj]) s):
  wpAny X.M X.A (getMethod zj m.name pl) Q E s:=by
 induction h with
 |append l e=>obtain⟨a,vs,n,rfl,e,_⟩:=hR.sees ho e;exact getMethod_list_of PySem.F.slot_list_append PySem.F.type_list_append ⟨_,e,rfl,n,rfl⟩ ⟨_,e,rfl⟩ q
 |index l e=>obtain⟨a,vs,n,rfl,e,_⟩:=hR.sees ho e;exact getMethod_list_of PySem.F.slot_list_index PySem.F.type_list_index ⟨_,e,rfl,n,rfl⟩ ⟨_,e,rfl⟩ q
 |count l e=>obtain⟨a,vs,n,rfl,e,_⟩:=hR.sees ho e;exact getMethod_list_of PySem.F.slot_list_count PySem.F.type_list_count ⟨_,e,rfl,n,rfl⟩ ⟨_,e,rfl⟩ q
 |join x e=>subst e;cases ho;exact GM.join q
noncomputable def qS(es:List Expr):Bool:=decide (es.length<30)
theorem BU{o:Expr}{name:Str}{aaJ pos:Pos}{es:List Expr}(hs:jU o=true)(hp:cu es=true)(hf:qS es=true)(hl:(aaJ.endLine ==pos.line)=true):
  eval (.Call (.Attribute o name aaJ) es [] pos) en=(eval o en >>=fun ov=>standAt aaJ.atName >>=fun U=>holding [ov] (getMethod ov name (do return (←importBound o en).getD true)) >>=fun fx=>callWith pos fx.1 fx.2 (backTo pos (starEach es en)) []):=by
 have e1:methodCallForm (es.length+0) (backTo pos (starEach es en)) []=true:=by
  unfold methodCallForm;have:=plain_any (pos:=pos) (en:=en) hp;rw[any_eq_false]at this;simp only[qS,decide_eq_true_eq]at hf;simp only[all_nil,Bool.and_true,List.isEmpty_nil,if_true,and_eq_true,decide_eq_true_eq];exact⟨all_eq_true.mpr fun x hx=>by simpa using this x hx,hf⟩
 refine ER (arm_eval_Call ..) (ER (iq hs ..) ?_);show(eval o en >>=fun ov=>standAt aaJ.atName >>=fun U=>methodCall o name aaJ pos en ov (es.length+0) (backTo pos (starEach es en)) [])=_
 congr 1;funext ov;congr 1;funext _
 unfold methodCall;refine ER e1 ?_;unfold methodCallPos calleeOf;simp -iota only[hl,Bool.not_true,Bool.false_or,if_true];rfl
theorem Ev.bm{m:Bm}{o e:Expr}{co c:ai→M V}{aaJ pos}(hE:EnOK X en r)(hs:jU o=true)(hp:notStar e=true)(hl:(aaJ.endLine ==pos.line)=true)(ho:Ev X en o co)(h:Ev X en e c):
  Ev X en (.Call (.Attribute o m.name aaJ) [e] [] pos) (ry m co c):=by
 intro B φ σ le s hR L;refine ER (BU hs (by simp[cu,hp]) (by rfl) hl) ?_;refine(ho B φ σ le s hR L).bind fun ov br zj aZ bA aS hR₁ hS₁ hV₁=>aE.standAt fun Q E hh=>hh.casesOn fun hb z=>?_;exact wpAny_bind (wpAny_holding (Uk hR₁ hV₁ hb ((call_one (first:=[zj]) (g:=fun v σ Q U=>Nd ov v σ Q m) hE h hp (gR (by induction m<;>rfl)) hR₁ (L.step hS₁ hE.mem) fun B' aP ah s' v val R' S' V'=>QE R' (hV₁.mono S'.bB S'.pre) V').at z)))
theorem Ev.call{x:Str}{a:Addr}{f:List V→M V}{es:List Expr}{cs:List (ai→M V)}{p pos}{need:Nat}(hE:EnOK X en r)(hx:en.kindOf x=some .globalImplicit)(hk:nsIn X.K mainGlobals x=some (some (.ref a)))(hd:(x ==("__debug__" :Str))=false)
  (hf:gQ X.K X.H0 (.ref a) need f) (hn:need≤r) (Wy:keepIn X.K (.ref a)=true) (hp:cu es=true) (hs:vP X en es cs):Ev X en (.Call (.Name x p) es [] pos) (ay f cs):=by
 intro B φ σ le s hR L Q E z;refine ER (arm_eval_Call_Name' ..) ?_;exact wpAny_bind (lB hE hR hx hk hd ((mP (first:=[]) (g:=Run f) hs hp (keeps_K Wy) hR L (fun B' aP ah s' vs vals R' U V'=>(hf X rfl rfl B' aP ah s' r vs vals R' hE.room hn hE.MP V').Qz.CM fun U U z=>z.q)).at z))
def Wz(K:Frag)(H0:Heap)(need:Nat)(mt:E6):Prop:=∀c nm f,mt c nm=some f→nm<ids.length∧∃a,plainGet K c (ident nm)=true∧findIn K (.ref c) (ident nm)=some (some (.ref a))∧isFn K (.ref a)=true∧keepIn K (.ref a)=true∧gQ K H0 (.ref a) need f
theorem Ev.bJ{mt:E6}{o:Expr}{x:Str}{es:List Expr}{co:ai→M V}{cs:List (ai→M V)}{aaJ pos}{need:Nat}(hE:EnOK X en r)(hx:idOf x<ids.length)(hm:Wz X.K X.H0 need mt)(hn:need≤r)(P9:jU o=true)(hp:cu es=true)(Ni:qS es=true)
  (hl:(aaJ.endLine ==pos.line)=true) (ho:Ev X en o co) (hs:vP X en es cs):Ev X en (.Call (.Attribute o x aaJ) es [] pos) (aM mt (idOf x) co cs):=by
 intro B φ σ le s hR L;refine ER (BU P9 hp Ni hl) ?_;refine(ho B φ σ le s hR L).bind fun ov br zj aZ bA aS hR₁ hS₁ hV₁=>aE.standAt fun Q E hh=>hh.casesOn fun c fs f e1 e2 e3 z=>?_;obtain⟨hi,a,h1,h2,h3,h4,h5⟩:=hm c _ f e3;rw[gu hx]at h1 h2;obtain⟨oa,dx,es',n,rfl,g1,g2,g3⟩:=hR₁.inst hV₁ e1;have q:=g3.Wf hi e2;rw[gu hx]at q;exact wpAny_bind (wpAny_holding (method_fn hR₁.Ks (qO g1 g2) (plainGet_of h1).1 (plainGet_of h1).2 h2 (beq_iff_eq.mp h3) (by show(lookIn x (dictOf es' n)).map _=_;refine ER (lookIn_dict ..) (ER (q ..) ?_);rfl)
  ((mP (first:=[.ref oa]) (g:=fun vs=>Run f (ov::vs)) hs hp (keeps_K h4) hR₁ (L.step hS₁ hE.mem) (fun B' aP ah s' vs vals R' S' V'=>(h5 X rfl rfl B' aP ah s' r (ov::vs) (.ref oa::vals) R' hE.room hn hE.MP (.cons (hV₁.mono S'.bB S'.pre) V')).Qz.CM fun U U z=>z.q)).at z)))
end
structure Src where
 items:Lp
 watch:Option Nat
inductive QF (σ:LM):V→Src→Prop
 |list (l:Lp):QF σ (.p (.list l)) ⟨l,none⟩
 |tup (l:Lp):QF σ (.p (.tup l)) ⟨l,none⟩
 |ref {n:Nat} {l:Lp} (h:σ[n]?=some (.list l)):QF σ (.ref n) ⟨l,some n⟩
inductive Nj (σ:LM) (v:V) (Q:MQ Src):Prop|mk (src:Src) (z:QF σ v src) (hl:src.items.length≤bL) (q:Q src σ)
abbrev YH(Q:MQ Src):MQ V:=fun v σ=>Nj σ v Q
def fM(c:ai→M V):ai→M Src:=fun le σ Q E=>c le σ (YH Q) E
inductive Hr (v:V) (K:Int→Prop):Prop|mk (n:Int) (e:v= .p (.int n)) (hf:ir n=true) (hl:n.toNat≤bL) (k:K n)
abbrev Z5(Q:MQ Src)(σ:LM):Int→Prop:=fun n=>Q ⟨gj 0 n.toNat,none⟩ σ
abbrev Z6(Q:MQ Src):MQ V:=fun v σ=>Hr v (Z5 Q σ)
def cX(c:ai→M V):ai→M Src:=fun le σ Q E=>c le σ (Z6 Q) E
inductive WA (v u:V) (K:Int→Int→Prop):Prop|mk (a b:Int) (e:v= .p (.int a)) (e':u= .p (.int b)) (hf:ir a=true) (ZD:ir b=true) (hl:(b - a).toNat≤bL) (k:K a b)
def uK(c d:ai→M V):ai→M Src:=fun le σ Q E=>c le σ (fun v σ=>d le σ (fun u σ=>WA v u fun a b=>Q ⟨gj a (b - a).toNat,none⟩ σ) E) E
inductive ZE (v:V) (K:Lp→Prop):Prop|mk (l:Lp) (e:v= .p (.list l)∨v= .p (.tup l)) (hl:l.length≤bL) (k:K l)
abbrev Z7(Q:MQ Src):MQ V:=fun v σ=>ZE v fun l=>Q ⟨A7 0 l,none⟩ σ
def Jl(c:ai→M V):ai→M Src:=fun le σ Q E=>c le σ (Z7 Q) E
section
variable {X:Fx}{B:Fz}{φ:AA}{σ:LM}{s:Shared}{en:Env}{r:Nat}
inductive QI (X:Fx) (B:Fz) (φ:AA) (h:Heap) (tg:Expr) (Q:MQ Src) (YI:Value) (s':Shared):Prop
 |mk (B':Fz) (aP:AA) (ah:LM) (src:Src) (it:Addr) (own:List Addr) (St:Nat→Fz→AA→Heap→Prop) (h1:YI= .ref it) (h2:Rel X B' aP ah s') (h3:Step X B φ h B' aP s'.heap) (h4:d8 X B' aP ah s'.heap own) (h5:∀X':Fx,X'.A.handled=none→VQ X' tg it own src.items src.watch St) (h6:St 0 B' aP s'.heap) (h7:mO src.items src.watch ah) (h8:src.items.length≤bL) (k:Q src ah)
def iR(X:Fx)(en:Env)(tg:Expr)(e:Expr)(c:ai→M Src):Prop:=
 (∀x,foldedSetIterable e en x=pure x)∧∀B φ σ le s,Rel X B φ σ s→Loc B φ en le s.heap→∀Q E,c le σ Q E→∀E',(∀x s',EO X B φ s.heap E x s'→E' x s')→
  wpAny X.M X.A (eval e en) (fun x aZ=>wpAny X.M X.A (pyIter x) (QI X B φ s.heap tg Q) E' aZ) E' s
theorem zq{f:Value}{first:Lv}{es:List Expr}{cs:List (ai→M V)}{pos:Pos}{le:ai}{Q' E':Value→Shared→Prop}{G:MQ (List V)}{E:ME}(hs:vP X en es cs)(hp:cu es=true)
  (hk:∀h,X.K.In h→∃k,(k=Keeper.frame∨k=Keeper.machine∨k=Keeper.boundFrame)∧Looks X.M h (keeperOf f) k) (hR:Rel X B φ σ s) (L:Loc B φ en le s.heap) (z:ow cs le σ G E)
  (hc:∀B' aP ah s' vs vals,Rel X B' aP ah s'→Step X B φ s.heap B' aP s'.heap→oS B' aP vals vs→G vs ah→wpAny X.M X.A (call f (first++vals)) Q' E' s') (he:∀x s',EO X B φ s.heap E x s'→E' x s'):
  wpAny X.M X.A (callWith pos f first (backTo pos (starEach es en)) []) Q' E' s:=
 call_plain hp hk (wpAny_mono (hs pos B φ σ le s hR L _ _ z) (fun vals aZ hh=>hh.casesOn fun bA aS br vs gh fZ V₁ z=>⟨gh.Ks,hc bA aS br aZ vs vals gh fZ V₁ z⟩) he)
def Ul(K:V→LM→Prop):MQ (List V):=fun vs σ=>match vs with|[v]=>K v σ|_=>False
def WB(K:V→V→LM→Prop):MQ (List V):=fun vs σ=>match vs with|[v,u]=>K v u σ|_=>False
theorem Jm{K:V→LM→Prop}{vs:List V}{vals:Lv}(h:Ul K vs σ)(v:oS B φ vals vs):∃x val,vals=[val]∧dM B φ val x∧K x σ:=by
 cases v with
 |nil=>exact h.elim
 |cons hv hr=>induction hr with
  |nil=>exact⟨_,_,rfl,hv,h⟩
  |cons=>exact h.elim
theorem QG{K:V→V→LM→Prop}{vs:List V}{vals:Lv}(h:WB K vs σ)(v:oS B φ vals vs):∃x y val mi,vals=[val,mi]∧dM B φ val x∧dM B φ mi y∧K x y σ:=by
 cases v with
 |nil=>exact h.elim
 |cons hv hr=>cases hr with
  |nil=>exact h.elim
  |cons hw hr=>induction hr with
   |nil=>exact⟨_,_,_,_,rfl,hv,hw,h⟩
   |cons=>exact h.elim
theorem Rel.owned(R:Rel X B φ σ s){h':Heap}{own:List Addr}(ha:∀a∈own,s.heap.objs.size≤a∧∃o,h'.get? a=some o):d8 X B φ σ h' own:=fun a h=>⟨R.uH (ha a h).1,(ha a h).2⟩
noncomputable def Nk(e:Expr):Bool:= !Nat.beq e.ctorIdx 7
theorem nS{e:Expr}(h:Nk e=true)(x:Value):foldedSetIterable e en x=pure x:=by
 unfold foldedSetIterable;cases e<;>first|rfl|(exact Bool.noConfusion ‹_›)
theorem BV{tg:Expr}{E7:Fz}{xw:AA}{aaO:Heap}{Q:MQ Src}{E':Value→Shared→Prop}{src:Src}{ax:Addr}{vs:Array Value}{n:Nat}(ht:je tg=true)(R:Rel X B φ σ s)(S:Step X E7 xw aaO B φ s.heap)
  (hg:s.heap.get? ax=some ⟨.type "list",none,.seq vs n,#[]⟩) (hl:sP B φ ax src.items src.watch) (hw:mO src.items src.watch σ) (aaG:src.items.length≤bL) (z:Q src σ):wpAny X.M X.A (pyIter (.ref ax)) (QI X E7 xw aaO tg Q) E' s:=by
 refine wpAny_pyIter_list ⟨_,hg,rfl,n,rfl⟩ ?_;have it:=get?_push_size s.heap (o:={cls:=.type "list_iterator",data:=.fields #[.ref ax,.int 0 0]}) rfl;exact⟨B,φ,σ,src,_,_,_,rfl,R.grow (tk:=s.toks) (a8 _ _),S.trans (Step.grow (a8 _ _)),R.owned (own:=[s.heap.objs.size]) (fun a ha=>by refine ER (mem_singleton.mp ha) ?_;exact⟨le_refl _,_,it⟩),fun U hh=>M9 (ax:=ax) hh ht,⟨⟨_,it,rfl,rfl⟩,hl⟩,hw,aaG,z⟩
theorem iR.of{tg e:Expr}{c:ai→M V}(hE:EnOK X en r)(hn:Nk e=true)(ht:je tg=true)(h:Ev X en e c):iR X en tg e (fM c):=by
 refine⟨nS hn,fun B φ σ le s hR L Q E z E' hEx=>wpAny_mono (h B φ σ le s hR L _ _ z) (fun val aZ ⟨bA,aS,ah,v,gh,fZ,V₁,src,z,aaG,k⟩=>?_) hEx⟩;induction z with
 |list l=>refine Is.listE V₁ fun U U U h1 h2=>?_;exact BV (src:=⟨l,none⟩) ht gh fZ (gh.kB _ _ h1) ⟨_,_,h1,h2⟩ (fun U h=>nomatch h) aaG k
 |tup l=>
  refine Is.A4 V₁ fun ax vs n h1 h2=>?_;refine iter_tuple (items:=vs.toArray) ⟨_,gh.kB _ _ h1,rfl,n,rfl⟩ ?_;have it:=get?_push_size aZ.heap (o:={cls:=.type "tuple_iterator",data:=.fields #[.ref ax,.int 0 0]}) rfl;exact⟨bA,aS,ah,⟨l,none⟩,_,_,_,rfl,gh.grow (tk:=aZ.toks) (a8 _ _),fZ.trans (Step.grow (a8 _ _)),gh.owned (own:=[aZ.heap.objs.size]) (fun a ha=>by refine ER (mem_singleton.mp ha) ?_;exact⟨le_refl _,_,it⟩),fun U hh=>QC (ax:=ax) hh ht,⟨⟨_,it,rfl,rfl⟩,vs,n,h1,h2⟩,(fun U h=>nomatch h),aaG,k⟩
 |@ref n l dF=>
  obtain⟨ad,fW,rfl⟩:=V₁;obtain⟨vs,m,h1,h2⟩:=gh.objs _ ad _ fW dF;exact BV (src:=⟨l,some n⟩) ht gh fZ h1 ⟨ad.2,fW⟩ (fun k h=>by obtain rfl:=Option.some.inj h;exact dF) aaG k
end
section
variable {X:Fx}{B:Fz}{φ:AA}{σ:LM}{s:Shared}{en:Env}{r:Nat}
theorem E8{tg:Expr}{E7:Fz}{xw:AA}{aaO:Heap}{aZ:Shared}{E':Value→Shared→Prop}{Q:MQ Src}{ra:Addr}{a b:Int}{t u v:Tok}(ht:je tg=true)(gh:Rel X B φ σ aZ)(fZ:Step X E7 xw aaO B φ aZ.heap)
  (hr:IsRange aZ.heap ra a b 1 t u v) (ha:ir a=true) (hb:ir b=true) {m:Nat} (hm:(b - a).toNat=m) (aaG:(gj a m).length≤bL) (z:Q ⟨gj a m,none⟩ σ):wpAny X.M X.A (pyIter (.ref ra)) (QI X E7 xw aaO tg Q) E' aZ:=by
 subst hm;have ha:=uF ha;have hb:=uF hb;refine wpAny_pyIter_range hr (small_one (by omega) (by simp_all+arith) (by omega) (by simp_all+arith)) ?_;have it:=get?_push_size aZ.heap (o:={cls:=.type "range_iterator",data:=.fields #[rawInt a,rawInt (Builtin.Range.rangeSize a b 1),rawInt 1]}) rfl;have Hq:Builtin.Range.rangeSize a b 1=(((b - a).toNat:Nat):Int):=by rw[rangeSize_one];refine iT (fun _=>?_) fun _=>?_<;>lia
 refine⟨B,φ,σ,⟨gj a (b - a).toNat,none⟩,_,_,_,rfl,gh.grow (tk:=aZ.toks) (a8 _ _),fZ.trans (Step.grow (a8 _ _)),gh.owned (own:=[aZ.heap.objs.size]) (fun a ha=>?_),fun U hh=>KO (a:=a) (n:=(b - a).toNat) hh ht,?_,(fun U h=>by cases h),aaG,z⟩
 ·refine ER (mem_singleton.mp ha) ?_;exact⟨le_refl _,_,it⟩
 ·show IsRangeIter _ _ (a+((0:Nat):Int)) ((((b - a).toNat:Nat):Int) - ((0:Nat):Int)) 1;refine EL Hq ?_;simp only[Int.natCast_zero,Int.add_zero,Int.sub_zero];exact it
theorem zr:∀(n:Nat) (a:Int),(gj a n).length=n:=by
 intro rv;induction rv with
 |zero=>exact fun o=>rfl
 |succ n ih=>exact fun a=>congrArg Nat.succ (ih _)
theorem E9:∀(l:Lp) (i:Nat),(A7 i l).length=l.length:=by
 intro rv;induction rv with
 |nil=>exact fun o=>rfl
 |cons x l ih=>exact fun i=>congrArg Nat.succ (ih _)
theorem boot_range:bootBuiltins "range" =some (.type "range"):=by kernel_rfl
theorem KR:bootBuiltins "enumerate" =some (.type "enumerate"):=by kernel_rfl
theorem iR.Um{tg e:Expr}{c:ai→M V}{p pos}(hE:EnOK X en r)(hx:en.kindOf "range" =some .globalImplicit)(hk:nsIn X.K mainGlobals "range" =some none)(hs:notStar e=true)(ht:je tg=true)(h:Ev X en e c):iR X en tg (.Call (.Name "range" p) [e] [] pos) (cX c):=by
 refine⟨nS rfl,fun B φ σ le s hR L Q E z E' hEx=>?_⟩;rw[arm_eval_Call_Name'];refine wpAny_bind (jM hE hR hx hk boot_range (by decide+kernel) (by decide+kernel) ?_);refine zq (first:=[]) (G:=Ul fun v σ=>Hr v fun n=>Q ⟨gj 0 n.toNat,none⟩ σ) (vP.cons hE h vP.nil (cZ hs)) (show(notStar e&&true)=true by rw[hs];rfl) (gR rfl) hR L z (fun B' aP ah s' vs vals R' S' V' z=>?_) hEx;obtain⟨x,val,rfl,hv,n,rfl,hf,hl,k⟩:=Jm z V';obtain⟨t,rfl⟩:=Is.vU hv;exact call_range_1 (E8 (a:=0) (b:=n) ht (R'.grow (a8 _ _)) (S'.trans (Step.grow (a8 _ _))) (get?_push_size _ rfl) (by decide) hf (ER (Int.sub_zero ..) rfl) (by rw[zr];exact hl) k)
theorem iR.Un{tg e e':Expr}{c c':ai→M V}{p pos}(hE:EnOK X en r)(hx:en.kindOf "range" =some .globalImplicit)(hk:nsIn X.K mainGlobals "range" =some none)(hs:notStar e=true)(KN:notStar e'=true)(ht:je tg=true)(h:Ev X en e c)(h':Ev X en e' c'):iR X en tg (.Call (.Name "range" p) [e,e'] [] pos) (uK c c'):=by
 refine⟨nS rfl,fun B φ σ le s hR L Q E z E' hEx=>?_⟩;rw[arm_eval_Call_Name'];refine wpAny_bind (jM hE hR hx hk boot_range (by decide+kernel) (by decide+kernel) ?_);refine zq (first:=[]) (G:=WB fun v u σ=>WA v u fun a b=>Q ⟨gj a (b - a).toNat,none⟩ σ) (vP.cons hE h (vP.cons hE h' vP.nil (cZ KN)) (cZ hs)) (show(notStar e&&(notStar e'&&true))=true by refine ER hs (ER KN ?_);rfl) (gR rfl) hR L z (fun B' aP ah s' vs vals R' S' V' z=>?_) hEx;obtain⟨x,y,val,mi,rfl,hv,hw,a,b,rfl,rfl,hf,ZD,hl,k⟩:=QG z V';obtain⟨t,rfl⟩:=Is.vU hv;obtain⟨u,rfl⟩:=Is.vU hw;exact call_range_2 (E8 (a:=a) (b:=b) ht (R'.grow (a8 _ _)) (S'.trans (Step.grow (a8 _ _))) (get?_push_size _ rfl) hf ZD rfl (by rw[zr];exact hl) k)
theorem Jo{tg:Expr}{E7:Fz}{xw:AA}{aaO h':Heap}{E':Value→Shared→Prop}{Q:MQ Src}{ls:Bool}{l:Lp}{ax:Addr}(ht:CZ tg=true)(R:Rel X B φ σ s)(S:Step X E7 xw aaO B φ s.heap)
  (h1:IsEnum h' (s.heap.objs.size+1) s.heap.objs.size 0 .none) (h2:oA ls B s.heap.objs.size ax l 0 h') (k:∀b o,s.heap.get? b=some o→h'.get? b=some o) (aaG:l.length≤bL) (z:Q ⟨A7 0 l,none⟩ σ):
  wpAny X.M X.A (pyIter (.ref (s.heap.objs.size+1))) (QI X E7 xw aaO tg Q) E' {s with heap:=h'}:=by
 refine wpAny_pyIter_enum h1 ⟨B,φ,σ,⟨A7 0 l,none⟩,_,[s.heap.objs.size+1,s.heap.objs.size],_,rfl,R.grow (tk:=s.toks) k,S.trans (Step.grow k),R.owned fun a ha=>?_,fun U hh=>Nc (ls:=ls) (it:=s.heap.objs.size) (ax:=ax) hh ht,⟨Nat.succ_ne_self _,zero_le _,⟨_,h1⟩,h2⟩,(fun U h=>by cases h),by rw[E9];exact aaG,z⟩;rcases mem_cons.mp ha with rfl|ha
 ·exact⟨le_succ _,_,h1⟩
 ·rw[mem_singleton.mp ha];refine⟨le_refl _,?_⟩;induction ls with
  |true=>obtain⟨⟨o,e,_⟩,_⟩:=h2;exact⟨o,e⟩
  |false=>obtain⟨⟨o,e,_⟩,_⟩:=h2;exact⟨o,e⟩
theorem iR.enum{tg e:Expr}{c:ai→M V}{p pos}(hE:EnOK X en r)(hx:en.kindOf "enumerate" =some .globalImplicit)(hk:nsIn X.K mainGlobals "enumerate" =some none)(hs:notStar e=true)(ht:CZ tg=true)(h:Ev X en e c):iR X en tg (.Call (.Name "enumerate" p) [e] [] pos) (Jl c):=by
 refine⟨nS rfl,fun B φ σ le s hR L Q E z E' hEx=>?_⟩;refine ER (arm_eval_Call_Name' ..) ?_;refine wpAny_bind (jM hE hR hx hk KR (by decide+kernel) (by decide+kernel) ?_);refine zq (first:=[]) (G:=Ul fun v σ=>ZE v fun l=>Q ⟨A7 0 l,none⟩ σ) (vP.cons hE h vP.nil (cZ hs)) (show(notStar e&&true)=true by rw[hs];rfl) (gR rfl) hR L z (fun B' aP ah s' vs vals R' S' V' z=>?_) hEx;obtain⟨x,val,rfl,hv,l,he,hl,k⟩:=Jm z V';rcases he with rfl|rfl
 ·refine Is.listE hv fun ax vs' n h1 h2=>?_;exact call_enumerate_list ⟨_,R'.kB _ _ h1,rfl,n,rfl⟩ fun h' a1 a2 a3 a4=>Jo (ls:=true) (ax:=ax) ht R' S' a1 ⟨a2,vs',n,h1,h2⟩ a4 hl k
 ·refine Is.A4 hv fun ax vs' n h1 h2=>?_;exact A6 (R'.kB _ _ h1) fun h' a1 a2 a3 a4=>Jo (ls:=false) (ax:=ax) ht R' S' a1 ⟨a2,vs',n,h1,h2⟩ a4 hl k
end
noncomputable def Fx.own(X:Fx)(own:List Addr)(h:Heap):Fx:={X with P:=fun a=>if a∈own then h.get? a else X.P a}
section
variable {X:Fx}{B:Fz}{φ:AA}{σ:LM}{s:Shared}{en:Env}{r:Nat}{own:List Addr}
theorem Fx.HQ{h:Heap}{a:Addr}(ha:a∈own):(X.own own h).P a=h.get? a:=if_pos ha
theorem Fx.uL{h:Heap}{a:Addr}(ha:a∉own):(X.own own h).P a=X.P a:=if_neg ha
theorem Rel.lock(R:Rel X B φ σ s)(O:d8 X B φ σ s.heap own):Rel (X.own own s.heap) B φ σ s:=by
 refine⟨⟨R.gl.K,R.gl.attr,R.gl.top,R.gl.A2⟩,R.same,R.kH,fun b o e=>?_,R.kB,R.len,R.objs,fun i ad o a h1 h2 h3=>⟨(R.own i ad o a h1 h2 h3).1,?_,(R.own i ad o a h1 h2 h3).2.2⟩,R.inj,R.young,fun a ha=>⟨(R.cA a ha).1,?_,(R.cA a ha).2.2⟩,R.pg,R.sz,R.k0⟩
 ·by_cases q:b∈own
  ·rw[Fx.HQ q]at e;exact e
  ·rw[Fx.uL q]at e;exact R.kP b o e
 ·by_cases q:a∈own
  ·exact absurd h3 ((O a q).1.2.2.2 i ad o h1 h2)
  ·rw[Fx.uL q];exact(R.own i ad o a h1 h2 h3).2.1
 ·by_cases q:a∈own
  ·exact absurd ha (O a q).1.2.2.1
  ·rw[Fx.uL q];exact(R.cA a ha).2.1
theorem pA{h:Heap}(hP:∀a∈own,X.P a=none){a:Addr}(e:(X.own own h).P a=none):X.P a=none:=by
 by_cases q:a∈own
 ·exact hP a q
 ·rw[Fx.uL q]at e;exact e
theorem Rel.unlock{h:Heap}(R:Rel (X.own own h) B φ σ s)(hP:∀a∈own,X.P a=none):Rel X B φ σ s:=by
 refine⟨⟨R.gl.K,R.gl.attr,R.gl.top,R.gl.A2⟩,R.same,R.kH,fun b o e=>?_,R.kB,R.len,R.objs,fun i ad o a h1 h2 h3=>⟨(R.own i ad o a h1 h2 h3).1,pA hP (R.own i ad o a h1 h2 h3).2.1,(R.own i ad o a h1 h2 h3).2.2⟩,R.inj,R.young,fun a ha=>⟨(R.cA a ha).1,pA hP (R.cA a ha).2.1,(R.cA a ha).2.2⟩,R.pg,R.sz,R.k0⟩;by_cases q:b∈own
 ·rw[hP b q]at e;contradiction
 ·exact R.kP b o (by rw[Fx.uL q];exact e)
theorem Step.unlock{B':Fz}{aP:AA}{g h h':Heap}(S:Step (X.own own g) B φ h B' aP h')(hP:∀a∈own,X.P a=none):Step X B φ h B' aP h':=
 ⟨S.bB,fun b o e n=>⟨(S.fresh b o e n).1,pA hP (S.fresh b o e n).2⟩,S.pre,S.envs,S.outs⟩
theorem SStep.unlock{B':Fz}{aP:AA}{g h h':Heap}(S:SStep (X.own own g) B φ h B' aP h')(hP:∀a∈own,X.P a=none):SStep X B φ h B' aP h':=
 ⟨S.bB,fun b o e n=>⟨(S.fresh b o e n).1,pA hP (S.fresh b o e n).2⟩,S.pre,S.outs⟩
theorem Exc.unlock{h g:Heap}{p:P}{e:Addr}(x:Exc (X.own own g) B φ σ h p e)(hP:∀a∈own,X.P a=none):Exc X B φ σ h p e:=by
 obtain⟨dx,x⟩:=x.at;have fr:∀a,dB (X.own own g) B φ σ a→dB X B φ σ a:=fun a f=>⟨f.1,pA hP f.2.1,f.2.2⟩;obtain⟨vs,h1,h2,h3⟩:=x.obj;refine ExcAt.exc (dx:=dx) ⟨x.HK,⟨fr _ x.free.1,fr _ x.free.2⟩,vs,h1,h2,?_⟩;rcases h3 with h3|⟨T,oT,ts,a1,a2,a3,a4,a5,a6,a7⟩
 ·exact .inl h3
 ·exact .inr ⟨T,oT,ts,a1,a2,a3,a4,a5,a6,fr _ a7⟩
theorem d8.after{B':Fz}{aP:AA}{ah:LM}{s':Shared}(O:d8 X B φ σ s.heap own)(R':Rel (X.own own s.heap) B' aP ah s')(sN:∀b o,B' b=some o→B b=none→(X.own own s.heap).P b=none):
  d8 X B' aP ah s'.heap own∧∀a∈own,∀o,s.heap.get? a=some o→s'.heap.get? a=some o:=by
 have keep:∀a∈own,∀o,s.heap.get? a=some o→s'.heap.get? a=some o:=fun a ha o e=>R'.kP a o (by rw[Fx.HQ ha];exact e);refine⟨fun a ha=>?_,keep⟩;obtain⟨F,o,e⟩:=O a ha;have hp:(X.own own s.heap).P a=some o:=by rw[Fx.HQ ha];exact e
 refine⟨⟨?_,F.2.1,F.2.2.1,fun i ad o' h1 h2 h3=>?_⟩,o,keep a ha o e⟩
 ·generalize q:B' a=gg;induction gg with
  |none=>rfl
  |some o'=>have:=sN a o' q F.1;rw[hp]at this;contradiction
 ·have:=(R'.own i ad o' a h1 h2 h3).2.1;rw[hp]at this;contradiction
theorem EnOK.lock(hE:EnOK X en r)(own:List Addr)(h:Heap):EnOK (X.own own h) en r:=⟨hE.kind,hE.Qq,hE.blt,hE.mem,hE.room,hE.code,hE.MP,hE.ne⟩
theorem vQ.lock(hE:vQ X en r)(own:List Addr)(h:Heap):vQ (X.own own h) en r:=⟨hE.toEnOK.lock own h,hE.envs,hE.inter,hE.frame,hE.apart,hE.cells,hE.pair,hE.cellOf⟩
inductive SW (A:Prop) (o:Option ai) (K:ai→Prop):Prop|mk (a:A) (jd:ai) (e:o=some jd) (k:K jd)
noncomputable def bU(all:Lp)(watch:Option Nat)(t:A5)(b:ai→M Out):Lp→ai→M Out
 |[],le=>fun σ Q U=>Ng (mO all watch σ) (Q (.next le) σ)
 |x::xs,le=>fun σ Q E=>SW (mO all watch σ) (xr t x le) fun jd=>b jd σ (cB (bU all watch t b xs) Q E) E
structure WC (sr:Src) (t:A5) (b:ai→M Out) (le:ai) (σ:LM) (Q:MQ Out) (E:ME):Prop where
 q:bU sr.items sr.watch t b sr.items le σ Q E
abbrev kFor(t:A5)(b:ai→M Out)(le:ai)(Q:MQ Out)(E:ME):MQ Src:=fun sr σ=>WC sr t b le σ Q E
def iS(src:ai→M Src)(t:A5)(b:ai→M Out):ai→M Out:=fun le σ Q E=>src le σ (kFor t b le Q E) E
theorem BW{α:Type}{l:List α}{i:Nat}(h:l[i]?=none):l.drop i=[]:=List.drop_eq_nil_of_le (List.getElem?_eq_none_iff.mp h)
theorem BX{α:Type}{l:List α}{i:Nat}{x:α}(h:l[i]?=some x):l.drop i=x::l.drop (i+1):=by
 obtain⟨hlt,e⟩:=List.getElem?_eq_some_iff.mp h;exact ER (List.drop_eq_getElem_cons hlt) (ER e rfl)
inductive YJ (X:Fx) (B:Fz) (φ:AA) (h:Heap) (en:Env) (own:List Addr) (items:Lp) (St:Nat→Fz→AA→Heap→Prop) (go:Lp→ai→LM→Prop) (n:Nat) (s':Shared):Prop
 |mk (i:Nat) (B':Fz) (aP:AA) (ah:LM) (jd:ai) (hn:n=items.length+1 - i) (hi:i≤items.length) (r:Rel X B' aP ah s') (l:iw B' aP en jd s'.heap) (a:SStep X B φ h B' aP s'.heap) (o:d8 X B' aP ah s'.heap own) (st:St i B' aP s'.heap) (g:go (items.drop i) jd ah)
theorem Ex.YK{tg e:Expr}{t:A5}{body:List Stmt}{cs:ai→M Src}{cb:ai→M Out}{pos}(hE:vQ X en r)(ht:E0 en tg t)(hs:iR X en tg e cs)(hb:∀own h,Ex (X.own own h) en (execs body en) cb):Ex X en (exec (.For tg e body [] pos) en) (iS cs t cb):=by
 intro B φ σ le s hR L Q E z;refine wpAny_For (wpAny_mono (hs.2 B φ σ le s hR L.loc _ _ z (ES X B φ s.heap E) fun U U q=>q.toS) (fun xv aZ z=>wpAny_mono z (fun YI s₂ hh=>hh.casesOn fun B₂ φ₂ dg src it own St h1 R₂ S₂ O₂ I st₂ W₂ U z=>?_) fun U U z=>z) fun U U z=>z) hs.1;subst h1;have hP:∀a∈own,X.P a=none:=fun a ha=>(O₂ a ha).1.2.1;have I:=I X hE.room.hd;refine codeAny_forLoop_any (YJ X B φ s.heap en own src.items St fun l le σ=>bU src.items src.watch t cb l le σ Q E) ?_ (src.items.length+1)
  ⟨0,B₂,φ₂,dg,le,rfl,zero_le _,R₂,L.step S₂ hE.mem,S₂.toS,O₂,st₂,z.q⟩
 rintro n s₃ ⟨i,B₃,φ₃,σ₃,le₃,rfl,hi,R₃,L₃,S₃,O₃,st₃,z⟩;generalize hx:src.items[i]?=gg;induction gg with
 |none=>
  rw[BW hx]at z;exact wpAny_mono (I.done R₃ O₃ st₃ z.a hx _) (fun rr s₄ ⟨h,R₄,S₄,_⟩=>by subst h;exact wpAny_execs_nil ⟨B₃,φ₃,σ₃,Out.next _,R₄,S₃.trans S₄.toS,⟨rfl,L₃.step S₄ hE.mem⟩,z.b⟩) fun U U z=>z
 |some x=>
  rw[BX hx]at z;obtain⟨hw,le₄,hb',z⟩:=z;refine wpAny_mono (I.item R₃ O₃ st₃ hw hx (fun U U=>False) (fun U U=>False)) (fun rr s₄ hh=>hh.casesOn fun v hh=>hh.casesOn fun h z₁=>?_) fun U U z=>z.elim;subst h;refine wpAny_mono z₁ (fun U s₄ ⟨B₄,R₄,S₄,k₄,V₄,O₄,st₄,_⟩=>?_) fun U U z=>z.elim;refine wpAny_mono (xu (X:=X.own own s₄.heap) (hE.lock own s₄.heap) ht (R₄.lock O₄) (L₃.step S₄ hE.mem) V₄ hb' (fun U σ=>cb le₄ σ (cB (bU src.items src.watch t cb (src.items.drop (i+1))) Q E) E) (fun U U=>False) z) (fun U s₅ hh=>hh.casesOn fun B₅ φ₅ σ₅ U R₅ S₅ L₅ z=>?_) fun U U hh=>hh.casesOn fun U U U U U U U U U k=>k.elim;have S05:=(S₃.trans S₄.toS).trans (S₅.unlock hP);refine wpAny_mono (hb own s₄.heap B₅ φ₅ σ₅ le₄ s₅ R₅ L₅ _ _ z) (fun f s₆ hh=>hh.casesOn fun B₆ φ₆ σ₆ o R₆ S₆ hf z=>?_) fun x s₆ hh=>hh.casesOn fun B₆ φ₆ σ₆ e p he R₆ S₆ X₆ z=>?_
  ·have S06:=S05.trans (S₆.unlock hP);induction o with
   |next le₇=>
    obtain⟨rfl,L₇⟩:=hf;obtain⟨O₆,k₆⟩:=d8.after O₄ R₆ fun b o e n=>((S₅.trans S₆).fresh b o e n).2;exact⟨src.items.length+1 - (i+1),by grind only,i+1,B₆,φ₆,σ₆,le₇,rfl,(List.getElem?_eq_some_iff.mp hx).1,R₆.unlock hP,L₇,S06,O₆,I.keep st₄ k₆ (S₅.trans S₆).bB (S₅.trans S₆).pre,z⟩
   |ret v=>obtain⟨val,rfl,hv⟩:=hf;exact⟨B₆,φ₆,σ₆,Out.ret v,R₆.unlock hP,S06,⟨val,rfl,hv⟩,z⟩
  ·subst he;exact EZ hE.toEnOK hE.frame (R₆.unlock hP) (X₆.unlock hP) fun s₇ R₇ S₇ X₇=>⟨B₆,φ₆,σ₆,e,p,rfl,R₇,(S05.trans (S₆.unlock hP)).trans S₇.toS,X₇,z⟩
end
noncomputable def kX(cells:List (Str×Addr)):List (Str×NameKind)→List (Str×Addr)→List (Str×Addr)
 |[],acc=>acc
 |(n,k)::r,acc=>if k == .free then(match cells.lookup n with|some c=>kX cells r ((n,c)::acc)|none=>kX cells r acc)else kX cells r acc
theorem Jp{scope:Scope}{en:Env}(h:∀p∈scope.names,p.2= .free→∃c,en.cells.lookup p.1=some c):closureFor scope en=pure (kX en.cells scope.names []):=by
 have key:∀(names:List (Str×NameKind)) (acc:List (Str×Addr)),(∀p∈names,p.2= .free→∃c,en.cells.lookup p.1=some c)→
   (forIn names acc fun (x:Str×NameKind) (r:List (Str×Addr))=>(match x with
    |(name,kind)=>if (kind ==NameKind.free)=true then do let a ←cellOf en name;pure (ForInStep.yield ((name,a)::r))else pure (ForInStep.yield r):Sem (ForInStep (List (Str×Addr)))))=pure (kX en.cells names acc):=by
  intro names;induction names with
  |nil=>intro acc _;rfl
  |cons p names ih=>
   obtain⟨n,k⟩:=p;intro acc hp;refine ER (List.forIn_cons ..) ?_;unfold kX;by_cases hk:(k ==NameKind.free)=true
   ·obtain⟨c,hc⟩:=hp (n,k) (.head _) (by simpa using hk);have hc:en.cells.lookup n=some c:=hc;simp only[hk,if_true,((by unfold cellOf;exact ER hc rfl):cellOf en n=pure c),hc,pure_bind];exact ih _ fun q hq=>hp q (.tail _ hq)
   ·simp only[hk,if_false,false_eq_true,pure_bind];exact ih _ fun q hq=>hp q (.tail _ hq)
 dsimp only[closureFor];have:=key scope.names [] h;refine ER (bind_pure ..) ?_;exact this
theorem Fb{cells:List (Str×Addr)}{n:Str}{c:Addr}:∀{names:List (Str×NameKind)} {acc:List (Str×Addr)},(n,c)∈kX cells names acc→(n,c)∈acc∨cells.lookup n=some c:=by
 intro rv;induction rv with
 |nil=>exact fun {U} h=>.inl h
 |cons xx r ih=>
  obtain⟨m,k⟩:=xx;intro acc h;unfold kX at h;split at h
  ·split at h
   ·rename_i c' hc;rcases ih h with h|h
    ·rcases mem_cons.mp h with h|h
     ·cases h;exact .inr hc
     ·exact .inl h
    ·exact .inr h
   ·exact ih h
  ·exact ih h
theorem Nl{cells:List (Str×Addr)}{p:Str×Addr}:∀{names:List (Str×NameKind)} {acc:List (Str×Addr)},p∈acc→p∈kX cells names acc:=by
 intro rv;induction rv with
 |nil=>exact fun {U} h=>h
 |cons xx r ih=>
  obtain⟨m,k⟩:=xx;intro acc h;unfold kX;refine iT (fun _=>?_) fun _=>?_
  ·split
   ·exact ih (.tail _ h)
   ·exact ih h
  ·exact ih h
theorem Nm{cells:List (Str×Addr)}{n:Str}{c:Addr}(hc:cells.lookup n=some c):∀{names:List (Str×NameKind)} {acc:List (Str×Addr)},(n,.free)∈names→(n,c)∈kX cells names acc:=by
 intro rv;induction rv with
 |nil=>intros;contradiction
 |cons xx r ih=>
  obtain⟨m,k⟩:=xx;intro acc h;unfold kX;rcases mem_cons.mp h with h|h
  ·cases h;simp only[beq_self_eq_true,if_true,hc];exact Nl (.head _)
  ·refine iT (fun _=>?_) fun _=>?_
   ·split
    ·exact ih h
    ·exact ih h
   ·exact ih h
noncomputable def oV(scope sc:Scope):Scope:=
 {scope with names:=scope.names.map fun (n,k)=>if (k == .free&&sc.kind == .function&&sc.names.lookup n ==some .cell)then(n,.cell)else(n,k)}
theorem Fc{prog:Program}{w:World}{A:Around}{R:Result→Shared→Prop}{s:Shared}{elt aaN aaH:Expr}{ifs:List Expr}{scope:Scope}{pos:Pos}{it acc:Value}{env:Env}(I:Nat→Shared→Prop)
  (turn:∀n s,I n s→wpAny (model prog w) A (pyNext it) (fun r aZ=>match r with
   |none=>R (.ok .next) aZ
   |some v=>wpAny (model prog w) A (letOwnedTupleGo aaN it v) (fun U s₁'=>wpAny (model prog w) A (assign aaN env v) (fun U s₂=>
     wpAny (model prog w) A (forIn ifs true fun c r=>if r=true then do let ok ←isTrue c env (eval c env);pure (ForInStep.yield ok)else pure (ForInStep.yield r)) (fun ok s₃=>
      if ok=true then wpAny (model prog w) A (eval elt env) (fun x s₄=>
       wpAny (model prog w) A (call (.builtin "list.append") [acc,x]) (fun U s₅=>∃m,m<n∧I m s₅) (notedBy (model prog w) A env fun e s'=>R (.error e) s') s₄) (notedBy (model prog w) A env fun e s'=>R (.error e) s') s₃
      else ∃m,m<n∧I m s₃) (notedBy (model prog w) A env fun e s'=>R (.error e) s') s₂) (notedBy (model prog w) A env fun e s'=>R (.error e) s') s₁') (notedBy (model prog w) A env fun e s'=>R (.error e) s') aZ) (notedBy (model prog w) A env fun e s'=>R (.error e) s') s)
  (n:Nat) (h:I n s):codeAny (model prog w) A (.compLoop (.ListComp elt [⟨aaN,aaH,ifs,0⟩] scope pos) 0 it acc env) R s:=by
 refine codeAny_loop rfl I (fun n s hI=>?_) n h;show wpAny _ A ((compTurn (.ListComp elt [⟨aaN,aaH,ifs,0⟩] scope pos) 0 it acc env).onRaise (fun x=>do noteFrame x env;theTreesLotGoes x)) _ _ s;refine wpAny_noted ?_;refine ER (compTurn_list ..) ?_;refine wpAny_bind (wpAny_standAt (wpAny_bind (wpAny_mono (turn n s hI) (fun r aZ h₁=>?_) fun U U h'=>h')));induction r with
 |none=>exact wpAny_pure h₁
 |some v=>
  refine wpAny_bind (wpAny_mono h₁ (fun U s₁' h₁=>?_) fun U U h'=>h');refine wpAny_bind (wpAny_mono h₁ (fun U s₂ h₂=>wpAny_bind (wpAny_mono h₂ (fun ok s₃ h₃=>?_) fun U U h'=>h')) fun U U h'=>h');induction ok with
  |false=>exact wpAny_pure ⟨rfl,h₃⟩
  |true=>exact wpAny_bind (wpAny_bind (wpAny_mono h₃ (fun x s₄ h₄=>wpAny_bind (wpAny_mono h₄ (fun U s₅ h₅=>wpAny_pure (wpAny_pure ⟨rfl,h₅⟩)) fun U U h'=>h')) fun U U h'=>h'))
noncomputable def Fx.ib(X:Fx)(en:Env):Fx:={X with envs:=en::X.envs}
section
variable {X:Fx}{B:Fz}{φ:AA}{σ:LM}{s:Shared}{en bu:Env}{r:Nat}{own:List Addr}
theorem v9{a:Addr}(h:a∈(X.ib bu).eS):a∈X.eS∨a=bu.locals∨∃c∈bu.cells,a=c.2:=by
 rcases mem_append.mp h with h|h
 ·exact .inl (qQ h)
 ·rw[show(X.ib bu).envs=bu::X.envs from rfl,flatMap_cons]at h;rcases mem_append.mp h with h|h
  ·rcases mem_cons.mp h with h|h
   ·exact .inr (.inl h)
   ·obtain⟨c,hc,rfl⟩:=mem_map.mp h;exact .inr (.inr ⟨c,hc,rfl⟩)
  ·exact .inl (mem_append.mpr (.inr h))
theorem qT{a:Addr}(h:a∈X.eS):a∈(X.ib bu).eS:=by
 rcases mem_append.mp h with h|h
 ·exact mem_append.mpr (.inl h)
 ·exact mem_append.mpr (.inr (by rw[show(X.ib bu).envs=bu::X.envs from rfl,flatMap_cons];exact mem_append.mpr (.inr h)))
theorem pB:bu.locals∈(X.ib bu).eS:=mem_append.mpr (.inr (mem_flatMap.mpr ⟨bu,.head _,.head _⟩))
theorem Rel.push(R:Rel X B φ σ s)(hC:dB X B φ σ bu.locals)(ho:∃o,s.heap.get? bu.locals=some o)(hc:∀c∈bu.cells,c.2∈X.eS):Rel (X.ib bu) B φ σ s:=by
 refine⟨⟨R.gl.K,R.gl.attr,R.gl.top,R.gl.A2⟩,R.same,R.kH,R.kP,R.kB,R.len,R.objs,fun i ad o a h1 h2 h3=>⟨(R.own i ad o a h1 h2 h3).1,(R.own i ad o a h1 h2 h3).2.1,fun hm=>?_⟩,R.inj,R.young,fun a ha=>?_,R.pg,qT R.sz,R.k0⟩
 ·rcases v9 hm with h|h|⟨c,h,rfl⟩
  ·exact(R.own i ad o a h1 h2 h3).2.2 h
  ·subst h;exact hC.2.2.2 i ad o h1 h2 h3
  ·exact(R.own i ad o _ h1 h2 h3).2.2 (hc c h)
 ·rcases v9 ha with h|h|⟨c,h,rfl⟩
  ·exact R.cA a h
  ·subst h;exact⟨hC.1,hC.2.1,ho⟩
  ·exact R.cA _ (hc c h)
theorem Rel.pop(R:Rel (X.ib bu) B φ σ s)(hz:X.n0∈X.eS):Rel X B φ σ s:=
 ⟨⟨R.gl.K,R.gl.attr,R.gl.top,R.gl.A2⟩,R.same,R.kH,R.kP,R.kB,R.len,R.objs,fun i ad o a h1 h2 h3=>⟨(R.own i ad o a h1 h2 h3).1,(R.own i ad o a h1 h2 h3).2.1,fun hm=>(R.own i ad o a h1 h2 h3).2.2 (qT hm)⟩,R.inj,R.young,fun a ha=>R.cA a (qT ha),R.pg,hz,R.k0⟩
theorem Step.pop{B':Fz}{aP:AA}{h h':Heap}(S:Step (X.ib bu) B φ h B' aP h'):Step X B φ h B' aP h':=⟨S.bB,S.fresh,S.pre,fun e he=>S.envs e (.tail _ he),S.outs⟩
theorem dB.pop{a:Addr}(f:dB (X.ib bu) B φ σ a):dB X B φ σ a:=⟨f.1,f.2.1,fun h=>f.2.2.1 (qT h),f.2.2.2⟩
def zu(bu:Env)(x:Str):Prop:=bu.kindOf x=some .local∧idOf x<ids.length
def RC(bu:Env)(B:Fz)(φ:AA)(jd:ai)(s s':Shared):Prop:=∃h' tk,s'={s with heap:=h',toks:=tk}∧(∀b o,b≠bu.locals→s.heap.get? b=some o→h'.get? b=some o)∧Loc B φ bu jd h'
theorem Fd{x:Str}{v:P}{val:Value}{le:ai}{px}{E:Value→Shared→Prop}{M:Model}{A:Around}(Hs:bu.scope.kind= .function)(hx:zu bu x)(hc:∀c∈bu.cells,c.2≠bu.locals)(L:Loc B φ bu le s.heap)(hV:Is B val v):
  wpAny M A (assign (.Name x px) bu val) (fun U s'=>RC bu B φ (bx le (idOf x) (.p v)) s s') E s:=by
 obtain⟨m,hm⟩:=L.1;refine ER (PySem.assign_Name ..) ?_;refine wpAny_bind (wpAny_standAt (wpAny_bindName (wpAny_storeName_local hx.1 hm (fun h' hn hs=>?_) (by refine ER Hs ?_;rfl))));exact⟨h',_,rfl,fun b o nb e=>(hs.2 b nb).trans e,L.store (v:=.p v) hm hn hs hx.1 hx.2 hc hV⟩
theorem Nn{E:Value→Shared→Prop}{M:Model}{A:Around}(Hs:bu.scope.kind= .function)(hc:∀c∈bu.cells,c.2≠bu.locals){elts:List Expr}{xs:Ls}(hn:zh elts xs):∀{s:Shared} {le:ai} {vals:Lv} {ps:Lp},(∀x∈xs,zu bu x)→aG B vals ps→xs.length=vals.length→
  Loc B φ bu le s.heap→wpAny M A (assignInOrder ((assignEach elts bu).map (·.2)) vals) (fun U s'=>RC bu B φ (BL le (xs.map idOf) ps) s s') E s:=by
 induction hn with
 |nil=>intro s le vals ps _ hv hl L;cases hv with
  |nil=>exact wpAny_pure ⟨s.heap,s.toks,rfl,fun U U U e=>e,L⟩
  |cons _ _=>trivial
 |@cons x px es xs' hn ih=>intro s le vals ps hk hv hl L;cases hv with
  |nil=>trivial
  |@cons val vals p ps hv hvs=>
   show wpAny _ _ (holding vals (assign (.Name x px) bu val) >>=fun U=>assignInOrder ((assignEach es bu).map (·.2)) vals) _ _ _;refine wpAny_bind (wpAny_holding (wpAny_mono (Fd Hs (hk x (.head _)) hc L hv) (fun U s₂ hh=>hh.casesOn fun h' hh=>hh.casesOn fun tk hh=>hh.casesOn fun e hh=>hh.casesOn fun k L'=>?_) fun U U z=>z));subst e;refine wpAny_mono (ih (fun y hy=>hk y (.tail _ hy)) hvs (by simpa using hl) L') (fun U s₃ hh=>hh.casesOn fun CL hh=>hh.casesOn fun tk' hh=>hh.casesOn fun e hh=>hh.casesOn fun k' L''=>?_) fun U U z=>z;subst e;exact⟨CL,tk',rfl,fun b o nb e=>k' b o nb (k b o nb e),L''⟩
inductive C4 (bu:Env):Expr→A5→Prop
 |one {x:Str} {px}:zu bu x→C4 bu (.Name x px) (.one (idOf x))
 |many {elts:List Expr} {xs:Ls} {k px}:namesOf elts=some xs→(∀x∈xs,zu bu x)→C4 bu (.Tuple elts k px) (.many (xs.map idOf))
theorem Loc.grow{le:ai}{h h':Heap}(L:Loc B φ bu le h)(k:∀b o,h.get? b=some o→h'.get? b=some o):Loc B φ bu le h':=
 ⟨(L.1).casesOn fun m hm=>⟨m,hm.keeps k⟩,fun x v a b=>by
  rcases L.2 x v a b with ⟨k1,m,val,c,d,e⟩|⟨k1,c,val,d,e,f⟩
  ·exact .inl ⟨k1,m,val,c.keeps k,d,e⟩
  ·exact .inr ⟨k1,c,val,d,e.keeps k,f⟩⟩
theorem QH{prog:Program}{w:World}{A:Around}{tg:Expr}{t:A5}{p:P}{val:Value}{le jd:ai}{E:Value→Shared→Prop}(hh:A.handled=none)(Hs:bu.scope.kind= .function)(hc:∀c∈bu.cells,c.2≠bu.locals)(ht:C4 bu tg t)(kB:∀b o,B b=some o→s.heap.get? b=some o)(L:Loc B φ bu le s.heap)(hV:Is B val p)(e:xr t p le=some jd):
  wpAny (model prog w) A (assign tg bu val) (fun U s'=>RC bu B φ jd s s') E s:=by
 induction ht with
 |one hx=>obtain rfl:=Option.some.inj e;exact Fd Hs hx hc L hV
 |many hn hx=>
  obtain⟨l,rfl,hl,rfl⟩:=BP e;refine Is.A4 hV fun a vs n ht hv=>?_;obtain⟨h1,h2⟩:=BO bu (uI hn);replace hl:=(length_map ..)▸hl;have aaG:=hv.length;refine assign_Tuple_tuple (items:=vs.toArray) hh ⟨_,kB _ _ ht,rfl,n,rfl⟩ (ER h1 (ER hl (ER size_toArray (ER aaG rfl)))) h2 fun h' he=>?_;have k:∀b o,s.heap.get? b=some o→h'.get? b=some o:=fun b o e=>he b o (ne_of_lt (lt_size e)) e;refine wpAny_mono (Nn (s:={s with heap:=h'}) Hs hc (uI hn) hx hv (ER hl (ER aaG rfl)) (L.grow k)) (fun U s₃ hh=>hh.casesOn fun CL hh=>hh.casesOn fun tk' hh=>hh.casesOn fun e hh=>hh.casesOn fun k' L''=>?_) fun U U z=>z;subst e;exact⟨CL,tk',rfl,fun b o nb e=>k' b o nb (k b o e),L''⟩
end
noncomputable def restrict(fv:Ln)(le:ai):ai:=le.filter fun p=>fv.contains p.1
theorem A8(fv:Ln)(n:Nat):∀le:ai,bW (restrict fv le) n=if fv.contains n then bW le n else none:=by
 intro rv;induction rv with
 |nil=>exact by simp[restrict,bW]
 |cons xx r ih=>
  obtain⟨i,v⟩:=xx;have ih:=ih;unfold restrict at ih ⊢;rw[filter_cons];by_cases h:fv.contains i=true
  ·rw[if_pos (h)];simp only[bW,ih];by_cases q:i=n
   ·subst q;simp only[if_true];rw[if_pos h]
   ·simp only[q,if_false]
  ·rw[if_neg (h)];simp only[bW,ih];by_cases q:i=n
   ·subst q;rw[if_neg h,if_neg h]
   ·simp only[q,if_false]
def bV:ai→M Bool:=fun U σ Q U=>Q true σ
inductive Fe (k0:Nat) (σ:LM) (v:V) (n:Nat) (Q:MQ P):Prop|mk (y:P) (ah:LM) (z:MY k0 σ v y ah) (hl:n≤bL) (q:Q y ah)
abbrev WD(k0 n:Nat)(go:P→M (Lp))(Q:MQ (Lp))(E:ME):MQ V:=fun v σ=>Fe k0 σ v n fun y σ=>go y σ Q E
abbrev YL(k0:Nat)(elt:M V)(n:Nat)(go:P→M (Lp))(no:M (Lp))(Q:MQ (Lp))(E:ME):MQ Bool:=fun b σ=>aT b (elt σ (WD k0 n go Q E) E) (no σ Q E)
noncomputable def cQ(k0:Nat)(all:Lp)(watch:Option Nat)(t:A5)(cond:ai→M Bool)(elt:ai→M V):Lp→ai→Lp→M (Lp)
 |[],_,acc=>fun σ Q U=>Ng (mO all watch σ) (Q acc σ)
 |x::xs,le,acc=>fun σ Q E=>SW (mO all watch σ) (xr t x le) fun jd=>
  cond jd σ (YL k0 (elt jd) acc.length (fun y=>cQ k0 all watch t cond elt xs jd (acc++[y])) (cQ k0 all watch t cond elt xs jd acc) Q E) E
noncomputable def Ff(ifs:List Expr)(bu:Env):Sem Bool:=forIn ifs true fun c r=>if r=true then do let ok ←isTrue c bu (eval c bu);pure (ForInStep.yield ok)else pure (ForInStep.yield r)
def j0(X:Fx)(bu:Env)(ifs:List Expr)(c:ai→M Bool):Prop:=∀B φ σ le s,Rel X B φ σ s→Loc B φ bu le s.heap→aE X B φ RB (Ff ifs bu) (c le σ) s
section
variable {X:Fx}{B:Fz}{φ:AA}{σ:LM}{s:Shared}{en bu:Env}{r:Nat}{own:List Addr}
theorem j0.no:j0 X bu [] bV:=fun U U U U U hR U=>aE.pure hR rfl
theorem j0.one{c:Expr}{cc:ai→M Bool}(h:Tr X bu c cc):j0 X bu [c] cc:=fun B φ σ le s hR L Q E n=>by
 unfold Ff;exact wpAny_tests_one (h B φ σ le s hR L Q E n)
structure Fg (X:Fx) (bu:Env):Prop where
 kind:bu.scope.kind= .function
 Qq:bu.globals=mainGlobals
 blt:bu.builtins=builtinsNs
 code:bu.frame=(X.outer.head?.bind (·.frame))
 eS:∀c∈bu.cells,c.2∈X.eS
 C:bu.locals∉X.eS
theorem Fg.ne(h:Fg X bu):∀c∈bu.cells,c.2≠bu.locals:=fun c hc q=>h.C (q▸h.eS c hc)
theorem Fg.ok(h:Fg X bu)(hE:EnOK X en r)(own:List Addr)(g:Heap):EnOK ((X.ib bu).own own g) bu r:=⟨h.kind,h.Qq,h.blt,.head _,hE.room,h.code,hE.MP,hE.ne⟩
inductive Z8 {α β:Type} (X:Fx) (B:Fz) (φ:AA) (h:Heap) (bu:Env) (D:Addr) (own:List Addr) (le:ai) (R:Fz→AA→Heap→β→α→Prop) (Q:MQ α) (val:β) (s':Shared):Prop
 |mk (B':Fz) (aP:AA) (ah:LM) (v:α) (h1:Rel X B' aP ah s') (h2:Step X B φ h B' aP s'.heap) (h3:d8 X B' aP ah s'.heap (bu.locals::D::own)) (h4:∀a∈D::own,∀o,h.get? a=some o→s'.heap.get? a=some o) (h5:Loc B' aP bu le s'.heap) (h6:R B' aP s'.heap val v) (k:Q v ah)
inductive ZF (X:Fx) (B:Fz) (φ:AA) (h:Heap) (bu:Env) (le:ai) (E:ME) (x:Value) (s':Shared):Prop
 |mk (B':Fz) (aP:AA) (ah:LM) (e:Addr) (p:P) (h0:x= .ref e) (h1:Rel (X.ib bu) B' aP ah s') (h2:Step X B φ h B' aP s'.heap) (h3:Loc B' aP bu le s'.heap) (h4:Exc (X.ib bu) B' aP ah s'.heap p e) (k:E p ah)
theorem zw{α β:Type}{R:Fz→AA→Heap→β→α→Prop}{t:Sem β}{c:WP α}{le:ai}{D:Addr}(hC:Fg X bu)(hR:Rel X B φ σ s)(O:d8 X B φ σ s.heap (bu.locals::D::own))(dG:bu.locals∉D::own)(L:Loc B φ bu le s.heap)
  (h:∀X':Fx,X'=(X.ib bu).own (D::own) s.heap→Rel X' B φ σ s→aE X' B φ R t c s) {Q:MQ α} {E:ME} (z:c Q E):wpAny X.M X.A t (Z8 X B φ s.heap bu D own le R Q) (ZF X B φ s.heap bu le E) s:=by
 have hCf:=O bu.locals (.head _)
 have R1:=hR.push hCf.1 hCf.2 hC.eS
 have O1:d8 (X.ib bu) B φ σ s.heap (D::own):=fun a ha=>by
  have f:=O a (.tail _ ha)
  refine⟨⟨f.1.1,f.1.2.1,fun hm=>?_,f.1.2.2.2⟩,f.2⟩;rcases v9 hm with h|h|⟨c,h,rfl⟩
  ·exact f.1.2.2.1 h
  ·subst h;exact dG ha
  ·exact f.1.2.2.1 (hC.eS c h)
 have hP:∀a∈D::own,(X.ib bu).P a=none:=fun a ha=>(O1 a ha).1.2.1;have back:∀{B' aP ah s'},Rel ((X.ib bu).own (D::own) s.heap) B' aP ah s'→Step ((X.ib bu).own (D::own) s.heap) B φ s.heap B' aP s'.heap→Rel X B' aP ah s'∧Step X B φ s.heap B' aP s'.heap∧d8 X B' aP ah s'.heap (bu.locals::D::own)∧(∀a∈D::own,∀o,s.heap.get? a=some o→s'.heap.get? a=some o)∧Loc B' aP bu le s'.heap:=by
  intro B' aP ah s' R' S';obtain⟨O',k'⟩:=d8.after O1 R' (fun b o e n=>(S'.fresh b o e n).2);have Ru:=R'.unlock hP;refine⟨Ru.pop hR.sz,(S'.unlock hP).pop,fun a ha=>?_,k',L.step S' (.head _)⟩;rcases mem_cons.mp ha with rfl|ha
  ·obtain⟨p1,p2,p3⟩:=Ru.cA _ pB;exact⟨⟨p1,p2,hC.C,fun i ad o h1 h2 h3=>(Ru.own i ad o _ h1 h2 h3).2.2 pB⟩,p3⟩
  ·exact⟨(O' a ha).1.pop,(O' a ha).2⟩
 refine wpAny_mono (h ((X.ib bu).own (D::own) s.heap) rfl (R1.lock O1) Q E z) (fun val s' hh=>hh.casesOn fun B' aP ah v R' S' V' z=>?_) fun x s' hh=>hh.casesOn fun B' aP ah e p he R' S' X' z=>?_
 ·refine hide fun gG kK=>?_;obtain⟨b1,b2,b3,b4,b5⟩:=back R' S';refine kK ?_;exact⟨B',aP,ah,v,b1,b2,b3,b4,b5,V',z⟩
 ·obtain⟨b1,b2,b3,b4,b5⟩:=back R' S';exact⟨B',aP,ah,e,p,he,R'.unlock hP,b2,b5,X'.unlock hP,z⟩
inductive Uo (X:Fx) (B:Fz) (φ:AA) (h:Heap) (bu:Env) (D:Addr) (Q:MQ (Lp)) (s':Shared):Prop
 |mk (B':Fz) (aP:AA) (ah:LM) (l:Lp) (h1:Rel X B' aP ah s') (h2:Step X B φ h B' aP s'.heap) (h3:d8 X B' aP ah s'.heap [bu.locals,D]) (h4:∃m,s'.heap.Ns bu.locals m) (vs:Lv) (n:Nat) (h5:s'.heap.get? D=some ⟨.type "list",none,.seq vs.toArray n,#[]⟩) (h6:aG B' vs l) (k:Q l ah)
inductive Up (X:Fx) (B:Fz) (φ:AA) (h:Heap) (bu:Env) (E:ME) (x:Value) (s':Shared):Prop
 |mk (B':Fz) (aP:AA) (ah:LM) (e:Addr) (p:P) (h0:x= .ref e) (h1:Rel (X.ib bu) B' aP ah s') (h2:Step X B φ h B' aP s'.heap) (h3:∃m,s'.heap.Ns bu.locals m) (h4:Exc (X.ib bu) B' aP ah s'.heap p e) (h5:∃o vs T,s'.heap.get? e=some o∧o.data= .fields vs∧vs[1]?=some (.ref T)) (k:E p ah)
def Jq(X:Fx)(B:Fz)(φ:AA)(h:Heap)(bu:Env)(D:Addr)(Q:MQ (Lp))(E:ME)(rr:Result)(s':Shared):Prop:=match rr with
 | .ok f=>f= .next∧Uo X B φ h bu D Q s'
 | .error x=>Up X B φ h bu E x s'
theorem d8.sub{pw:List Addr}{h:Heap}(O:d8 X B φ σ h own)(k:∀a∈pw,a∈own):d8 X B φ σ h pw:=fun a ha=>O a (k a ha)
theorem d8.quiet{h h':Heap}{S:List Addr}(O:d8 X B φ σ h own)(k:∀b o,b∉S→h.get? b=some o→h'.get? b=some o)(t:∀a∈S,∃o,h'.get? a=some o):d8 X B φ σ h' own:=fun a ha=>⟨(O a ha).1,by
 by_cases q:a∈S
 ·exact t a q
 ·obtain⟨o,e⟩:=(O a ha).2;exact⟨o,k a o q e⟩⟩
theorem Loc.keep{B':Fz}{h h':Heap}{le:ai}{S:List Addr}(L:Loc B φ bu le h)(k:∀b o,b∉S→h.get? b=some o→h'.get? b=some o)(hl:bu.locals∉S)(hc:∀c∈bu.cells,c.2∉S)(hB:∀b o,B b=some o→B' b=some o):Loc B' φ bu le h':=by
 obtain⟨⟨m,hm⟩,L2⟩:=L;have kn:∀{m},h.Ns bu.locals m→h'.Ns bu.locals m:=fun hh=>hh.casesOn fun o hh=>hh.casesOn fun es hh=>hh.casesOn fun ep hh=>hh.casesOn fun ho rr=>⟨o,es,ep,k _ _ hl ho,rr⟩;refine⟨⟨m,kn hm⟩,fun z w a b=>?_⟩;rcases L2 z w a b with ⟨k1,m',val,c,d,e⟩|⟨k1,c,val,d,⟨oc,e1,e2⟩,f⟩
 ·exact .inl ⟨k1,m',val,kn c,d,e.mono hB (prefix_refl _)⟩
 ·exact .inr ⟨k1,c,val,d,⟨oc,k _ _ (hc _ (mem_of_lookup d)) e1,e2⟩,f.mono hB (prefix_refl _)⟩
theorem Fi(hE:EnOK X en r)(hC:Fg X bu){L:Addr}(hf:bu.frame=some L){h h':Heap}{bA:Fz}{aS:AA}{D:Addr}{le:ai}{Q:MQ (Lp)}{E:ME}{x:Value}{s':Shared}(S:Step X B φ h bA aS h')(z:ZF X bA aS h' bu le E x s')
  {RR:Result→Shared→Prop} (k:∀rr EX,Jq X B φ h bu D Q E rr EX→RR rr EX):notedBy X.M X.A bu (fun e s'=>RR (.error e) s') x s':=by
 obtain⟨B',aP,ah,e,p,rfl,R,S',Lc,x,z⟩:=z;have hc:X.outer.head?.bind (·.frame)=some L:=by rw[←hC.code];exact hf
 unfold notedBy;refine wpAny_mono (qR (X:=X.ib bu) (E:=fun e s'=>RR (.error e) s') R hE.MP hf hc x) (fun U EX q=>?_) fun U U z=>z;obtain⟨R',S'',X',tr⟩:=q;obtain⟨m,hm⟩:=Lc.1;exact k _ EX ⟨B',aP,ah,e,p,rfl,R',(S.trans S').trans S''.pop,⟨m,(S''.envs bu (.head _)).1 m hm⟩,X',tr,z⟩
inductive YM (X:Fx) (B:Fz) (φ:AA) (h:Heap) (bu:Env) (D:Addr) (own:List Addr) (items:Lp) (St:Nat→Fz→AA→Heap→Prop) (go:Nat→ai→Lp→LM→Prop) (n:Nat) (s':Shared):Prop
 |mk (i:Nat) (B':Fz) (aP:AA) (ah:LM) (jd:ai) (acc:Lp) (vs:Lv) (n':Nat) (h1:n=items.length+1 - i) (h2:i≤items.length) (h3:Rel X B' aP ah s') (h4:Step X B φ h B' aP s'.heap) (h5:d8 X B' aP ah s'.heap (bu.locals::D::own)) (h6:s'.heap.get? D=some ⟨.type "list",none,.seq vs.toArray n',#[]⟩) (h7:aG B' vs acc) (h8:Loc B' aP bu jd s'.heap) (h9:St i B' aP s'.heap) (h10:go i jd acc ah)
theorem KS{tg elt aaH:Expr}{ifs:List Expr}{scope:Scope}{pos:Pos}{t:A5}{cond:ai→M Bool}{sQ:ai→M V}{k0:Nat}{items:Lp}{watch:Option Nat}{it D L:Addr}{St:Nat→Fz→AA→Heap→Prop}{XZ:ai}{RR:Result→Shared→Prop}
  (hE:EnOK X en r) (hC:Fg X bu) (hf:bu.frame=some L) (Uq:X.k0≤k0) (ht:C4 bu tg t) (I:VQ X tg it own items watch St)
  (zx:∀X':Fx,X'.K=X.K→X'.H0=X.H0→X'.k0=X.k0→EnOK X' bu r→j0 X' bu ifs cond) (C0:∀X':Fx,X'.K=X.K→X'.H0=X.H0→X'.k0=X.k0→EnOK X' bu r→Ev X' bu elt sQ)
  (hR:Rel X B φ σ s) (O:d8 X B φ σ s.heap (bu.locals::D::own)) (dG:bu.locals∉D::own) (X4:D∉own) (hD:s.heap.get? D=some ⟨.type "list",none,.seq ([]:Lv).toArray 0,#[]⟩) (Lc:Loc B φ bu XZ s.heap) (st:St 0 B φ s.heap)
  {Q:MQ (Lp)} {E:ME} (z:cQ k0 items watch t cond sQ items XZ [] σ Q E) (WE:∀rr s',Jq X B φ s.heap bu D Q E rr s'→RR rr s'):
  codeAny X.M X.A (.compLoop (.ListComp elt [⟨tg,aaH,ifs,0⟩] scope pos) 0 (.ref it) (.ref D) bu) RR s:=by
 refine Fc (YM X B φ s.heap bu D own items St fun i le acc σ=>cQ k0 items watch t cond sQ (items.drop i) le acc σ Q E) ?_ (items.length+1)
  ⟨0,B,φ,σ,XZ,[],[],0,rfl,zero_le _,hR,Step.refl ..,O,hD,.nil,Lc,st,by rw[List.drop_zero];exact z⟩
 rintro n s₃ ⟨i,B₃,φ₃,σ₃,le₃,acc,vs,n',rfl,hi,R₃,S₃,O₃,hD₃,hA₃,L₃,st₃,z⟩;have Oown:∀{B φ σ} {h:Heap},d8 X B φ σ h (bu.locals::D::own)→d8 X B φ σ h own:=fun o=>o.sub fun a ha=>.tail _ (.tail _ ha);have nC:bu.locals≠D:=fun q=>dG (q▸ .head _);have nCo:bu.locals∉own:=fun q=>dG (.tail _ q);generalize hx:items[i]?=gg;induction gg with
 |none=>
  replace z:=(BW hx)▸z
  refine wpAny_mono (I.done R₃ (Oown O₃) st₃ z.a hx _) (fun rr s₄ hh=>hh.casesOn fun h hh=>hh.casesOn fun R₄ hh=>hh.casesOn fun S₄ k₄=>?_) fun U U z=>z;subst h;refine WE _ _ ⟨rfl,?_⟩;refine⟨B₃,φ₃,σ₃,acc,R₄,S₃.trans S₄,fun a ha=>?_,?_,vs,n',k₄ _ _ X4 hD₃,hA₃,z.b⟩
  ·have f:=O₃ a (by rcases mem_cons.mp ha with rfl|ha;exact .head _;rw[mem_singleton.mp ha];exact .tail _ (.head _));obtain⟨o,e⟩:=f.2;refine⟨f.1,o,k₄ _ _ ?_ e⟩;rcases mem_cons.mp ha with rfl|ha
   ·exact nCo
   ·rw[mem_singleton.mp ha];exact X4
  ·obtain⟨m,o,es,ep,ho,rr⟩:=L₃.1;exact⟨m,o,es,ep,k₄ _ _ nCo ho,rr⟩
 |some x=>
  rw[BX hx]at z;obtain⟨hw,le₄,hb',z⟩:=z;have hlt:=(List.getElem?_eq_some_iff.mp hx).1;refine wpAny_mono (I.item R₃ (Oown O₃) st₃ hw hx (fun U U=>False) (fun U U=>False)) (fun rr s₄ hh=>hh.casesOn fun v hh=>hh.casesOn fun h z₁=>?_) fun U U z=>z.elim;subst h;refine wpAny_mono z₁ (fun U s₄ hh=>hh.casesOn fun B₄ P₄=>?_) fun U U z=>z.elim;have O₄:d8 X B₄ φ₃ σ₃ s₄.heap (bu.locals::D::own):=fun a ha=>by
   by_cases q:a∈own
   ·exact P₄.free a q
   ·have f:=O₃ a ha;obtain⟨o,e⟩:=f.2;refine⟨⟨?_,f.1.2.1,f.1.2.2.1,f.1.2.2.2⟩,o,P₄.keep a o q e⟩;generalize q':B₄ a=gg;induction gg with
    |none=>rfl
    |some o'=>exact absurd (lt_size e) (not_lt.mpr (P₄.new a o' q' f.1.1))
  have hD₄:=P₄.keep D _ X4 hD₃
  have hA₄:=aG.mono P₄.step.bB hA₃
  refine wpAny_mono (QH hE.room.hd hC.kind hC.ne ht P₄.rel.kB (L₃.keep (S:=own) P₄.keep nCo (fun c hc q=>((Oown O₃) c.2 q).1.2.2.1 (hC.eS c hc)) P₄.step.bB) P₄.val hb') (fun U s₅ ⟨h₅,tk₅,h,k₅,L₅⟩=>?_) fun U U z=>z;subst h;have k₅':∀b o,b∉[bu.locals]→s₄.heap.get? b=some o→h₅.get? b=some o:=fun b o nb e=>k₅ b o (by simpa using nb) e;have Q₅:=c8 (X:=X) (B:=B₄) (φ:=φ₃) (σ:=σ₃) (own:=[bu.locals]) (fun a ha=>by rw[mem_singleton.mp ha];exact(O₄ _ (.head _)).1) k₅';have hS₅:∀a∈[bu.locals],dB X B₄ φ₃ σ₃ a:=fun a ha=>by rw[mem_singleton.mp ha];exact(O₄ _ (.head _)).1
  have R₅:=P₄.rel.quiet (tk:=tk₅) Q₅ hS₅
  have S₅:=(S₃.trans P₄.step).trans (Step.quiet Q₅ hS₅)
  have O₅:d8 X B₄ φ₃ σ₃ h₅ (bu.locals::D::own):=O₄.quiet k₅' fun a ha=>by rw[mem_singleton.mp ha];obtain⟨m,o,es,ep,ho,_⟩:=L₅.1;exact⟨o,ho⟩
  have hD₅:=k₅ D _ (Ne.symm nC) hD₄
  have st₅:St (i+1) B₄ φ₃ h₅:=I.keep P₄.st (fun a ha o e=>k₅ a o (fun q=>nCo (q▸ha)) e) (fun U U e=>e) (prefix_refl _);have okX:∀g:Heap,EnOK ((X.ib bu).own (D::own) g) bu r:=fun g=>hC.ok hE _ g;refine wpAny_mono (zw (R:=RB) (s:={s₄ with heap:=h₅,toks:=tk₅}) hC R₅ O₅ dG L₅ (fun X' hX' R'=>by subst hX';exact zx ((X.ib bu).own (D::own) h₅) rfl rfl rfl (okX _) B₄ φ₃ σ₃ le₄ _ R' L₅) z) (fun ok s₆ hh=>hh.casesOn fun B₆ φ₆ σ₆ b R₆ S₆ O₆ k₆ L₆ hb z=>?_) fun x s₆ q=>Fi hE hC hf S₅ q WE;subst hb;have hD₆:=k₆ D (.head _) _ hD₅;have hA₆:=aG.mono S₆.bB hA₄;have st₆:St (i+1) B₆ φ₆ s₆.heap:=I.keep st₅ (fun a ha o e=>k₆ a (.tail _ ha) o e) S₆.bB S₆.pre;induction ok with
  |false=>exact⟨items.length+1 - (i+1),by grind only,i+1,B₆,φ₆,σ₆,le₄,acc,vs,n',rfl,hlt,R₆,S₅.trans S₆,O₆,hD₆,hA₆,L₆,st₆,z.f rfl⟩
  |true=>
   refine wpAny_mono (zw (R:=fun B U U val y=>Is B val y∧acc.length≤bL) (c:=fun Q E=>sQ le₄ σ₆ (fun v σ=>Fe k0 σ v acc.length Q) E) hC R₆ O₆ dG L₆ (fun X' hX' R'=>?_) (z.t rfl)) (fun val s₇ ⟨B₇,φ₇,σ₈,y,R₇,S₇,O₇,k₇,L₇,⟨V₇,aaG⟩,z⟩=>?_) fun x s₇ q=>Fi hE hC hf (S₅.trans S₆) q WE
   ·subst hX';intro Q E z;refine wpAny_mono (C0 ((X.ib bu).own (D::own) s₆.heap) rfl rfl rfl (okX _) B₆ φ₆ σ₆ le₄ s₆ R' L₆ _ _ z) (fun v s' ⟨B',aP,ah,v',Rr,Ss,Vv,y,bj,zf,hl,k⟩=>?_) fun U U q=>q;obtain⟨ML,R'',S'',V''⟩:=P7 (X:=(X.ib bu).own (D::own) s₆.heap) Uq Rr Vv zf;exact⟨ML,aP,bj,y,R'',Ss.trans S'',⟨V'',hl⟩,k⟩
   ·have hD₇:s₇.heap.get? D=some {cls:=.type "list",dict:=none,data:=.seq vs.toArray n',slots:=#[]}:=k₇ D (.head _) _ hD₆;have hA₇:=aG.mono S₇.bB hA₆;refine call_meets PySem.F.slot_list_append ⟨_,hD₇,rfl⟩ PySem.F.entry_list_append (PySem.F.args_list_append_2 _ _) (list_append D vs.toArray n' val (jV hA₇ aaG)) ⟨hD₇,?_⟩;have D':(s₇.heap.update D (Obj.mapSeq fun x=>x.push val)).get? D=_:=get?_update_self _ hD₇ rfl;have k₈:∀b o,b∉[D]→s₇.heap.get? b=some o→(s₇.heap.update D (Obj.mapSeq fun x=>x.push val)).get? b=some o:=fun b o nb e=>(get?_update_other _ _ fun q=>nb (by rw[q];exact .head _)).trans e;have hS₈:∀a∈[D],dB X B₇ φ₇ σ₈ a:=fun a ha=>by rw[mem_singleton.mp ha];exact(O₇ D (.tail _ (.head _))).1
    have Q₈:=c8 hS₈ k₈
    refine⟨items.length+1 - (i+1),by grind only,i+1,B₇,φ₇,σ₈,le₄,acc++[y],vs++[val],_,rfl,hlt,R₇.quiet (tk:=s₇.toks) Q₈ hS₈,((S₅.trans S₆).trans S₇).trans (Step.quiet Q₈ hS₈),
      O₇.quiet k₈ (fun a ha=>by rw[mem_singleton.mp ha];exact⟨_,D'⟩),by rw[D'];simp[Obj.mapSeq];rfl,hA₇.append (.cons V₇ .nil),L₇.keep k₈ (by simp[nC]) (fun c hc q=>(O₇ D (.tail _ (.head _))).1.2.2.1 (mem_singleton.mp q▸hC.eS c hc)) fun U U e=>e,I.keep st₆ (fun a ha o e=>k₈ a o (fun q=>X4 (mem_singleton.mp q▸ha)) (k₇ a (.tail _ ha) o e)) S₇.bB S₇.pre,z⟩
end
structure BY (k0:Nat) (sr:Src) (t:A5) (cond:ai→M Bool) (elt:ai→M V) (le:ai) (σ:LM) (Q:MQ (Lp)) (E:ME):Prop where
 q:cQ k0 sr.items sr.watch t cond elt sr.items le [] σ Q E
abbrev WG(k0:Nat)(t:A5)(cond:ai→M Bool)(elt:ai→M V)(le:ai)(Q:MQ (Lp))(E:ME):MQ Src:=fun sr σ=>BY k0 sr t cond elt le σ Q E
def cV(k0:Nat)(src:ai→M Src)(t:A5)(fv:Ln)(cond:ai→M Bool)(elt:ai→M V):ai→M V:=fun le σ Q E=>src le σ (WG k0 t cond elt (restrict fv le) (MZ Q) E) E
def lD(scope:Scope):Ln:=scope.names.filterMap fun p=>if p.2 == .free then some (idOf p.1)else none
structure KU (sc scope:Scope):Prop where
 kind:scope.kind= .function
 Ur:∀y∈scope.names,y.2≠ .cell
 names:∀x∈scope.names,x.2= .local→scope.names.lookup x.1=some .local
 free:∀x∈scope.names,x.2= .free→sc.names.lookup x.1=some .cell∧((oV scope sc).names.lookup x.1=some .cell∨(oV scope sc).names.lookup x.1=some .free)
section
variable {X:Fx}{B:Fz}{φ:AA}{σ:LM}{s:Shared}{en:Env}{r:Nat}
theorem A9{α:Type}{n:Str}{c:α}:∀{l:List (Str×α)},(n,c)∈l→∃c',l.lookup n=some c':=by
 intro rv;induction rv with
 |nil=>intros;contradiction
 |cons xx l ih=>
  obtain⟨k,v⟩:=xx;intro h;refine ER lookup_cons ?_;generalize q:(n ==k)=gg;induction gg with
  |true=>exact⟨_,rfl⟩
  |false=>
   rcases mem_cons.mp h with h|h
   ·injection h with h;subst h;simp at q
   ·exact ih h
theorem Fj{cells:List (Str×Addr)}{n:Str}{c:Addr}{names:List (Str×NameKind)}(hc:cells.lookup n=some c)(h:(n,.free)∈names):(kX cells names []).lookup n=some c:=by
 obtain⟨c',e⟩:=A9 (Nm hc (acc:=[]) h);rcases Fb (mem_of_lookup e)with q|q
 ·contradiction
 ·rw[hc]at q;obtain rfl:=Option.some.inj q;exact e
theorem Np{scope:Scope}{le:ai}{C:Addr}{m:Str→Option Value}(hS:KU en.scope scope)(L:Loc B φ en le s.heap){h':Heap}(k:∀b o,s.heap.get? b=some o→h'.get? b=some o)(hn:h'.Ns C m):
  Loc B φ (compEnvC scope (kX en.cells scope.names []) C en) (restrict (lD scope) le) h':=by
 refine⟨⟨m,hn⟩,fun z v hz hi=>?_⟩;rw[A8]at hz;split at hz
 ·rename_i hf;simp only[List.contains_iff_mem,lD,mem_filterMap]at hf;obtain⟨⟨n,kd⟩,hm,hkk⟩:=hf;split at hkk
  ·rename_i Hs;have Hs:kd= .free:=by simpa using Hs
   subst Hs;have:z=n:=idOf_inj hi (Option.some.inj hkk:idOf n=idOf z).symm;subst this;obtain⟨f1,f2⟩:=hS.free _ hm rfl;rcases L.2 z v hz hi with ⟨k1,m',val,c,d,e⟩|⟨k1,c,val,d,e,f⟩
   ·have:en.kindOf z=some .cell:=f1;rw[this]at k1;contradiction
   ·exact .inr ⟨f2,c,val,Fj d hm,e.keeps k,f⟩
  ·contradiction
 ·contradiction
theorem zy{tg elt aaH:Expr}{ifs:List Expr}{scope:Scope}{pos:Pos}{t:A5}{cond:ai→M Bool}{sQ:ai→M V}{cs:ai→M Src}{k0:Nat}{le:ai}{E:Value→Shared→Prop}{RR:Value→Addr→Result→Shared→Prop}
  (hE:EnOK X en r) (Uq:X.k0≤k0) (Nq:∀x,en.kindOf x=some .cell→∃c,en.cells.lookup x=some c) (hS:KU en.scope scope) (ht:∀C,C4 (compEnvC scope (kX en.cells scope.names []) C en) tg t) (hs:iR X en tg aaH cs)
  (zx:∀(X':Fx) (bu:Env),X'.K=X.K→X'.H0=X.H0→X'.k0=X.k0→bu.scope=oV scope en.scope→EnOK X' bu r→j0 X' bu ifs cond) (C0:∀(X':Fx) (bu:Env),X'.K=X.K→X'.H0=X.H0→X'.k0=X.k0→bu.scope=oV scope en.scope→EnOK X' bu r→Ev X' bu elt sQ)
  (hR:Rel X B φ σ s) (L:Loc B φ en le s.heap) {Q:MQ (Lp)} {HR:ME} (z:cs le σ (fun sr σ=>BY k0 sr t cond sQ (restrict (lD scope) le) σ Q HR) HR)
  (WE:∀D C rr s',X.n0≤D→C∉X.eS→Jq X B φ s.heap (compEnvC scope (kX en.cells scope.names []) C en) D Q HR rr s'→RR (.ref D) C rr s') (YN:∀x s',EO X B φ s.heap HR x s'→E x s'):
  wpAny X.M X.A (eval aaH en) (fun x aZ=>wpAny X.M X.A (pyIter x) (fun it s₂=>wpAny X.M X.A (newList []) (fun acc s₃=>
   wpAny X.M X.A (newFunctionEnv scope en.globals (kX en.cells scope.names []) [] en.qual none .none (some en)) (fun cenv s₄=>
    codeAny X.M X.A (.compStart (.ListComp elt [⟨tg,aaH,ifs,0⟩] scope pos) 0 it acc {cenv with scope:=relabel scope en}) (RR acc cenv.locals) s₄) E s₃) E s₂) E aZ) E s:=by
 refine wpAny_mono (hs.2 B φ σ le s hR L _ _ z E YN) (fun xv aZ z=>wpAny_mono z (fun YI s₂ hh=>hh.casesOn fun B₂ φ₂ dg src it own St h1 R₂ S₂ O₂ I st₂ W₂ U z=>?_) fun U U z=>z) fun U U z=>z;subst h1;have L₂:=L.step S₂ hE.mem;refine wpAny_newObj_type (wpAny_newFunctionEnv hS.Ur (by intro y hy;simp at hy) (fun h₄ hn₄ hs₄=>?_) hS.kind);dsimp only at hn₄ hs₄ ⊢;generalize hH3:s₂.heap.push {cls:=.type "list",dict:=none,data:=.seq ([]:Lv).toArray}=H3 at hn₄ hs₄ ⊢;have hz3:H3.objs.size=s₂.heap.objs.size+1:=EL (hH3 ..) (ER (size_push ..) rfl);have kp:∀b o,s₂.heap.get? b=some o→h₄.get? b=some o:=fun b o e=>hs₄.extBut b o (by have:=lt_size e;refine ER hz3 ?_;exact ne_of_lt (Nat.lt_succ_of_lt this)) (get?_push_of_some _ (hH3▸get?_push_of_some _ e));have hD:h₄.get? s₂.heap.objs.size=some ⟨.type "list",none,.seq ([]:Lv).toArray 0,#[]⟩:=hs₄.extBut _ _ (by refine ER hz3 ?_;exact ne_of_lt (lt_succ_self _)) (get?_push_of_some _ (hH3▸get?_push_size _ rfl));have FD:=R₂.uH (le_refl s₂.heap.objs.size);have FC:=R₂.uH (a:=H3.objs.size) (by refine ER hz3 ?_;exact le_succ _);have lt:∀a∈own,a<s₂.heap.objs.size:=fun a ha=>((O₂ a ha).2).casesOn fun U e=>lt_size e;have hC:Fg X (compEnvC scope (kX en.cells scope.names []) H3.objs.size en):=by
  refine⟨hS.kind,hE.Qq,hE.blt,hE.code,fun c hc=>?_,FC.2.2.1⟩;rcases Fb (n:=c.1) (c:=c.2) hc with q|q
  ·contradiction
  ·exact mem_append.mpr (.inr (mem_flatMap.mpr ⟨en,hE.mem,.tail _ (mem_map.mpr ⟨_,mem_of_lookup q,rfl⟩)⟩))
 have sN:∃L',en.frame=some L':=by
  obtain⟨e0,rest,ho⟩:=List.exists_cons_of_ne_nil hE.ne;obtain⟨_,L',m,hL',_⟩:=hR.pg e0 (by refine ER ho ?_;exact .head _);exact⟨L',by refine ER hE.code (ER ho ?_);exact hL'⟩
 obtain⟨Lf,hLf⟩:=sN;have loop:codeAny X.M X.A (.compLoop (.ListComp elt [⟨tg,aaH,ifs,0⟩] scope pos) 0 (.ref it) (.ref s₂.heap.objs.size) (compEnvC scope (kX en.cells scope.names []) H3.objs.size en)) (RR (.ref s₂.heap.objs.size) H3.objs.size) {s₂ with heap:=h₄,toks:=s₂.toks+0}:=by
  refine KS (t:=t) (k0:=k0) (cond:=cond) (sQ:=sQ) (items:=src.items) (watch:=src.watch) (own:=own) (St:=St) (XZ:=restrict (lD scope) le) (σ:=dg) (L:=Lf) hE hC hLf Uq (ht _) (I X hE.room.hd)
   (fun X' h1 h2 h3 h4=>zx X' _ h1 h2 h3 rfl h4) (fun X' h1 h2 h3 h4=>C0 X' _ h1 h2 h3 rfl h4) (R₂.grow (h':=h₄) (tk:=s₂.toks+0) kp) (fun a ha=>?_) (fun ha=>?_) (fun ha=>?_) hD (Np hS L₂ kp hn₄) ((I X hE.room.hd).keep st₂ (fun a U o e=>kp a o e) (fun U U e=>e) (prefix_refl _)) z.q (fun rr s' z=>?_)
  ·rcases mem_cons.mp ha with rfl|ha
   ·obtain⟨o,es,ep,ho,_⟩:=hn₄;exact⟨FC,o,ho⟩
   ·rcases mem_cons.mp ha with rfl|ha
    ·exact⟨FD,_,hD⟩
    ·obtain⟨f,o,e⟩:=O₂ a ha;exact⟨f,o,kp a o e⟩
  ·rcases mem_cons.mp ha with q|q
   ·rw[hz3]at q;exact Nat.succ_ne_self _ q
   ·have:=lt _ q;rw[hz3]at this;exact absurd this (not_lt.mpr (le_succ _))
  ·exact lt_irrefl _ (lt _ ha)
  ·refine WE s₂.heap.objs.size H3.objs.size rr s' (le_of_lt R₂.xm) FC.2.2.1 ?_;induction rr with
   |ok f=>obtain⟨z0,B',aP,ah,l,z1,z2,z3,z4,vs,n,z5,z6,k⟩:=z;exact⟨z0,B',aP,ah,l,z1,(S₂.trans (Step.grow kp)).trans z2,z3,z4,vs,n,z5,z6,k⟩
   |error x=>obtain⟨B',aP,ah,e,p,z0,z1,z2,z3,z4,z5,k⟩:=z;exact⟨B',aP,ah,e,p,z0,z1,(S₂.trans (Step.grow kp)).trans z2,z3,z4,z5,k⟩
 exact codeAny_compStart_list loop ((I X hE.room.hd).self (i:=0) (B:=B₂) (φ:=φ₂) ((I X hE.room.hd).keep st₂ (fun a U o e=>kp a o e) (fun U U e=>e) (prefix_refl _)) _ _ loop)
theorem Fl{C D:Addr}{QL:MQ (Lp)}{HR:ME}{h:Heap}{x:Value}{s':Shared}{bu:Env}(ZG:bu.locals=C)(VR:C∉X.eS)(hz:X.n0∈X.eS)(z:Jq X B φ h bu D QL HR (.error x) s'){E:Value→Shared→Prop}
  (k:∀x EX,EO X B φ h HR x EX→E x EX):∃m,s'.heap.Ns C m∧∀h',Heap.SameBut C s'.heap h'→∀cenv:Env,cenv.locals=C→wpAny X.M X.A (PySem.passOn "comprehension.variables-let-go" x cenv:Sem Value) (fun U U=>False) E {s' with heap:=h'}:=by
  obtain⟨B',aP,ah,e,p,rfl,R',S',⟨m,hm⟩,X',⟨o,vs,T,t1,t2,t3⟩,z⟩:=z;rw[ZG]at hm;refine⟨m,hm,fun h' hs cenv U=>?_⟩;have hp:C∈(X.ib bu).eS:=by refine EL ZG ?_;exact pB
  have keep:∀b o,b≠C→s'.heap.get? b=some o→h'.get? b=some o:=fun b o n e=>(hs.2 b n).trans e;have FnC:∀a,dB (X.ib bu) B' aP ah a→a≠C:=fun a f q=>f.2.2.1 (q▸hp);obtain⟨dx,x⟩:=X'.at;obtain⟨ws,h1,h2,h3⟩:=x.obj;obtain⟨hdx,es,n,v,hd,r1⟩:=x.HK;have fr:∀a,dB (X.ib bu) B' aP ah a→dB X B' aP ah a:=fun a f=>f.pop;obtain⟨p1,p2,p3⟩:=R'.cA C hp;have FC:dB X B' aP ah C:=⟨p1,p2,VR,fun i ad o h1 h2 h3=>(R'.own i ad o _ h1 h2 h3).2.2 hp⟩;have hS:∀a∈[C],dB X B' aP ah a:=fun a ha=>by rw[mem_singleton.mp ha];exact FC
  have kp:∀b o,b∉[C]→s'.heap.get? b=some o→h'.get? b=some o:=fun b o nb e=>keep b o (by simpa using nb) e;have Q:=c8 hS kp;have x2:ExcAt X B' aP ah h' p e dx:=by
   refine⟨⟨hdx,es,n,v,keep _ _ (FnC _ x.free.2) hd,r1⟩,⟨fr _ x.free.1,fr _ x.free.2⟩,ws,keep _ _ (FnC _ x.free.1) h1,h2,?_⟩;rcases h3 with h3|⟨T,oT,ts,a1,a2,a3,a4,a5,a6,a7⟩
   ·exact .inl h3
   ·exact .inr ⟨T,oT,ts,a1,keep _ _ (FnC _ a7) a2,a3,a4,a5,a6,fr _ a7⟩
  unfold PySem.passOn;refine wpAny_bind (wpAny_field (keep _ _ (FnC _ x.free.1) t1) t2 t3 ?_);refine ER (if_neg (show ¬((Value.ref T ==Value.none)=true) from by simp)) ?_;refine wpAny_bind (gH (s:={s' with heap:=h'}) ((R'.pop hz).quiet (tk:=s'.toks) Q hS) x2.exc fun EX a b c=>wpAny_throw ?_);exact k _ EX ⟨B',aP,ah,e,p,rfl,a,(S'.trans (Step.quiet Q hS)).trans b,c,z⟩
theorem zA{h:Heap}{C D:Addr}{m:Str→Option Value}{vs:Array Value}{n:Nat}(hm:h.Ns C m)(hD:h.get? D=some ⟨.type "list",none,.seq vs n,#[]⟩):C≠D:=fun q=>by
 obtain⟨o,es,ep,ho,hd,_⟩:=hm;rw[q,hD]at ho;obtain rfl:=Option.some.inj ho;contradiction
theorem Ev.comp{tg elt aaH:Expr}{ifs:List Expr}{scope:Scope}{pos:Pos}{t:A5}{cond:ai→M Bool}{sQ:ai→M V}{cs:ai→M Src}{k0:Nat}
  (hE:EnOK X en r) (Uq:X.k0≤k0) (Nq:∀x,en.kindOf x=some .cell→∃c,en.cells.lookup x=some c) (hS:KU en.scope scope) (ht:∀C,C4 (compEnvC scope (kX en.cells scope.names []) C en) tg t) (hs:iR X en tg aaH cs)
  (zx:∀(X':Fx) (bu:Env),X'.K=X.K→X'.H0=X.H0→X'.k0=X.k0→bu.scope=oV scope en.scope→EnOK X' bu r→j0 X' bu ifs cond) (C0:∀(X':Fx) (bu:Env),X'.K=X.K→X'.H0=X.H0→X'.k0=X.k0→bu.scope=oV scope en.scope→EnOK X' bu r→Ev X' bu elt sQ):
  Ev X en (.ListComp elt [⟨tg,aaH,ifs,0⟩] scope pos) (cV k0 cs t (lD scope) cond sQ):=by
 intro B φ σ le s hR L Q E z;refine ER (eval_ListComp ..) ?_;refine wpAny_comprehension_free (use:=none) rfl hs.1 (Jp fun p hp hk=>Nq p.1 (hS.free p hp hk).1) hS.kind hS.names ?_;refine zy (RR:=fun acc C=>compPost X.M X.A (EO X B φ s.heap E) none (QO X B φ s.heap RV Q) acc C) hE Uq Nq hS ht hs zx C0 hR L z (fun D C rr s' hDn VR z=>?_) fun x s' z=>z;induction rr with
 |error x=>exact Fl rfl VR hR.sz z fun U U z=>z
 |ok f=>
  obtain⟨_,B',aP,ah,l,R',S',O',⟨m,hm⟩,vs,n,hD,hA,k⟩:=z;refine⟨m,hm,fun h' KN=>?_⟩;have kp:∀b o,b∉[C]→s'.heap.get? b=some o→h'.get? b=some o:=fun b o nb e=>(KN.2 b (by simpa using nb)).trans e;have hSf:∀a∈[C],dB X B' aP ah a:=fun a ha=>by rw[mem_singleton.mp ha];exact(O' C (.head _)).1
  have Qt:=c8 hSf kp
  have FD:=(O' D (.tail _ (.head _))).1
  exact⟨_,aP,ah,.p (.list l),(R'.quiet (tk:=s'.toks) Qt hSf).mL FD.1 FD.2.2.1 FD.2.2.2 (kp D _ (fun q=>zA hm hD (mem_singleton.mp q).symm) hD),(S'.trans (Step.quiet Qt hSf)).trans (Step.mL (o:=⟨.type "list",none,.seq vs.toArray n,#[]⟩) FD.1 FD.2.1 hDn),.list (cU ..) (aG.mono (cH FD.1) hA),k⟩
def HS(en:Env)(scope:Scope)(y:Str)(py:Pos)(e:Expr):Prop:=(en.blockKind == .function&&en.kindOf y ==some .local&&py.line ==e.pos.line&&!(scope.names.any fun (n,k)=>n ==y&&(k == .local || k == .cell)))=true
theorem Ex.QJ{tg elt aaH:Expr}{ifs:List Expr}{scope:Scope}{pos:Pos}{t:A5}{cond:ai→M Bool}{sQ:ai→M V}{cs:ai→M Src}{k0:Nat}{y:Str}{py WH:Pos}
  (hE:vQ X en r) (Uq:X.k0≤k0) (hy:idOf y<ids.length) (VS:en.kindOf y=some .local) (ZH:HS en scope y py (.ListComp elt [⟨tg,aaH,ifs,0⟩] scope pos)) (hS:KU en.scope scope) (ht:∀C,C4 (compEnvC scope (kX en.cells scope.names []) C en) tg t) (hs:iR X en tg aaH cs)
  (zx:∀(X':Fx) (bu:Env),X'.K=X.K→X'.H0=X.H0→X'.k0=X.k0→bu.scope=oV scope en.scope→EnOK X' bu r→j0 X' bu ifs cond) (C0:∀(X':Fx) (bu:Env),X'.K=X.K→X'.H0=X.H0→X'.k0=X.k0→bu.scope=oV scope en.scope→EnOK X' bu r→Ev X' bu elt sQ):
  Ex X en (exec (.Assign [.Name y py] (.ListComp elt [⟨tg,aaH,ifs,0⟩] scope pos) WH) en) (aN (idOf y) (cV k0 cs t (lD scope) cond sQ)):=by
 intro B φ σ le s hR L Q E z;have hsw':swapsWith (.ListComp elt [⟨tg,aaH,ifs,0⟩] scope pos) (some (.Name y py)) WH.line en=pure true:=by
  unfold swapsWith;unfold HS at ZH;show(pure _:Sem Bool)=_;exact ER ZH rfl
 refine ER (exec_Assign_Name_used _ _ _ _ hsw') ?_;refine wpAny_bind (wpAny_standAt (wpAny_bind ?_));show wpAny _ _ (do let _ ←comprehension (.ListComp elt [⟨tg,aaH,ifs,0⟩] scope pos) scope en _ (newList []) false (eval aaH en) (some (assign (.Name y py) en))) _ _ s;refine wpAny_bind (wpAny_mono (wpAny_comprehension_free (use:=some (assign (.Name y py) en)) (Q:=fun U s'=>QS X B φ s.heap (RO en) Q .next s') rfl hs.1 (Jp fun p hp hk=>hE.cellOf p.1 (hS.free p hp hk).1) hS.kind hS.names ?_) (fun U s' q=>wpAny_pure (wpAny_pure q)) fun U U e=>e);refine zy (RR:=fun acc C=>compPost X.M X.A (ES X B φ s.heap E) (some (assign (.Name y py) en)) (fun U s'=>QS X B φ s.heap (RO en) Q .next s') acc C) hE.toEnOK Uq hE.cellOf hS ht hs zx C0 hR L.loc z (fun D C rr s' hDn VR z=>?_) fun x s' z=>z.toS;cases rr with
 |error x=>exact Fl rfl VR hR.sz z fun U U z=>z.toS
 |ok f=>
  obtain⟨_,B',aP,ah,l,R',S',O',⟨m,hm⟩,vs,n,hD,hA,k⟩:=z;have FD:=(O' D (.tail _ (.head _))).1;have R3:=R'.mL FD.1 FD.2.2.1 FD.2.2.2 hD;have S3:=S'.trans (Step.mL (o:=⟨.type "list",none,.seq vs.toArray n,#[]⟩) FD.1 FD.2.1 hDn);have V3:Is (jb B' D ⟨.type "list",none,.seq vs.toArray n,#[]⟩) (.ref D) (.list l):=.list (cU ..) (aG.mono (cH FD.1) hA);have FC:=(O' C (.head _)).1;have hm:s'.heap.Ns C m:=hm;have FC3:dB X (jb B' D ⟨.type "list",none,.seq vs.toArray n,#[]⟩) aP ah C:=⟨(yK (zA hm hD)).trans FC.1,FC.2⟩;have hLC:C≠en.locals:=fun q=>VR (by refine ER q ?_;exact fj hE);have L3:=L.step S3 hE.mem;generalize jb B' D ⟨.type "list",none,.seq vs.toArray n,#[]⟩=B₃ at R3 S3 V3 FC3 L3;show wpAny _ _ (assign (.Name y py) en (.ref D)) _ _ _;refine ER (PySem.assign_Name ..) ?_;obtain⟨m0,hm0⟩:=L3.loc.1;refine wpAny_bind (wpAny_standAt (wpAny_bindName (wpAny_storeName_local VS hm0 (fun h' hn hs=>⟨m,hm.sameBut hs hLC,fun CL hs''=>?_⟩) (by refine ER hE.kind ?_;rfl))));have kp:∀b o,b∉[C]→h'.get? b=some o→CL.get? b=some o:=fun b o nb e=>(hs''.2 b (by simpa using nb)).trans e;have hSf:∀a∈[C],dB X B₃ aP ah a:=fun a ha=>by rw[mem_singleton.mp ha];exact FC3
  have Qt:=c8 hSf kp
  have S5:Step X B₃ aP h' B₃ aP CL:=Step.quiet Qt hSf;exact⟨_,aP,ah,Out.next _,(R3.pw (tk:=s'.toks+1) (fj hE) hs ⟨_,hn.choose_spec.choose_spec.choose_spec.1⟩ fun U U=>⟨_,hn⟩).quiet (tk:=s'.toks+1) Qt hSf,(S3.toS.trans (SStep.pw hs fun e he L' hL'=>(hE.apart e he L' hL').1)).trans S5.toS,
   ⟨rfl,iw.step ⟨L3.loc.store (v:=.p (.list l)) hm0 hn hs VS hy hE.cells V3,fun c hc=>(L3.cells c hc).casesOn fun v' hv'=>⟨v',hv'.sameBut hs (hE.cells c hc)⟩⟩ S5 hE.mem⟩,k⟩
end
def Nr(C:Addr)(f:List V→M V)(vs:List V):M V:=fun σ Q E=>Run f (.ref σ.length::vs) (σ++[.inst C []]) (fun v ah=>v= .p .none∧Q (.ref σ.length) ah) E
section
variable {X:Fx}{B:Fz}{φ:AA}{σ:LM}{s:Shared}{en:Env}{r:Nat}
noncomputable def Fx.at_(X:Fx)(A:Around):Fx:={X with A:=A}
theorem Rel.around(R:Rel X B φ σ s)(A:Around):Rel (X.at_ A) B φ σ s:=⟨⟨R.gl.K,R.gl.attr,R.gl.top,R.gl.A2⟩,R.same,R.kH,R.kP,R.kB,R.len,R.objs,R.own,R.inj,R.young,R.cA,R.pg,R.sz,R.k0⟩
theorem Rel.gk{A:Around}(R:Rel (X.at_ A) B φ σ s):Rel X B φ σ s:=⟨⟨R.gl.K,R.gl.attr,R.gl.top,R.gl.A2⟩,R.same,R.kH,R.kP,R.kB,R.len,R.objs,R.own,R.inj,R.young,R.cA,R.pg,R.sz,R.k0⟩
theorem Step.gk{A:Around}{B':Fz}{aP:AA}{h h':Heap}(S:Step (X.at_ A) B φ h B' aP h'):Step X B φ h B' aP h':=⟨S.bB,S.fresh,S.pre,S.envs,S.outs⟩
theorem Exc.move{X':Fx}{h:Heap}{p:P}{e:Addr}(e1:X'.P=X.P)(e2:X'.eS=X.eS)(x:Exc X B φ σ h p e):Exc X' B φ σ h p e:=by
 obtain⟨dx,vs,h1,h2,h3,h4,h5,h6⟩:=x.obj;have F:∀a,dB X B φ σ a→dB X' B φ σ a:=fun a f=>⟨f.1,e1▸f.2.1,e2▸f.2.2⟩;exact⟨dx,vs,h1,h2,h3,h4,fun a ha=>F a (h5 a ha),h6.imp id fun hh=>hh.casesOn fun T oT ts a1 a2 a3 a4 a5 a6 a7=>⟨T,oT,ts,a1,a2,a3,a4,a5,a6,F _ a7⟩⟩
theorem Exc.gk{A:Around}{h:Heap}{p:P}{e:Addr}(x:Exc (X.at_ A) B φ σ h p e):Exc X B φ σ h p e:=Exc.move (X:=X.at_ A) rfl rfl x
theorem KV{C fI:Addr}{need:Nat}{f:List V→M V}{vs:List V}{vals:Lv}(hm:makesIn X.K C=true)(hi:findIn X.K (.ref C) "__init__" =some (some (.ref fI)))(hf:typeIn X.K (.ref fI)=some (.type "function"))
  (nP:gQ X.K X.H0 (.ref fI) need f) (hn:need+1≤r) (hR:Rel X B φ σ s) (hA:Hy X.A r) (sN:X.A.frames=some X.outer) (hV:oS B φ vals vs):E2 X B φ (.call (.ref C) ⟨vals,[]⟩) (Nr C f vs σ) s:=by
 intro Q E hns;have X0:=hR.Ks;obtain⟨hp,g,d,t,os⟩:=s;refine make_core (makes_of X0 hm) (looks_findIn X0 hi) (fun self=>bind_fn X0 self hf) (.inl rfl) ?_;generalize hA':X.A.under (.builtin "type.__call__" ⟨.ref C::vals,[]⟩)=A';have h1:A'.handled=none:=by refine EL hA' ?_;exact hA.hd
 have h2:A'.depth=X.A.depth+1:=by refine EL hA' ?_;rfl
 have h3:A'.frames=X.A.frames:=by refine EL hA' ?_;rfl
 have h4:A'.units≤X.A.units+8:=by refine EL hA' ?_;show X.A.units+_≤_;exact add_le_add_left (le_trans (le_of_eq (rfl:_=1)) (by decide)) _
 have k:∀b o,hp.get? b=some o→((hp.push emptyDict).push (instObj C hp.objs.size)).get? b=some o:=fun b o e=>get?_push_of_some _ (get?_push_of_some _ e);have hx:((hp.push emptyDict).push (instObj C hp.objs.size)).get? (hp.objs.size+1)=some (instObj C hp.objs.size):=by heap_get
 have hdx:((hp.push emptyDict).push (instObj C hp.objs.size)).get? hp.objs.size=some (dictOf [] 0):=by heap_get
 have R1:Rel X B (φ++[(hp.objs.size+1,hp.objs.size)]) (σ++[.inst C []]) ⟨(hp.push emptyDict).push (instObj C hp.objs.size),g,d,t,os⟩:=
  hR.Hw (tk:=t) k ⟨le_succ _,le_refl _⟩ ⟨hx,Nat.succ_ne_self _,(fun f hf=>(not_mem_nil hf).elim),[],0,hdx,.nil⟩
 have S1:Step X B φ hp B (φ++[(hp.objs.size+1,hp.objs.size)]) ((hp.push emptyDict).push (instObj C hp.objs.size)):=Step.Hw k;have hl:φ.length=σ.length:=hR.len;have z:=nP (X.at_ A') rfl rfl B _ _ ⟨(hp.push emptyDict).push (instObj C hp.objs.size),g,d,t,os⟩ (r - 1) (.ref σ.length::vs) (.ref (hp.objs.size+1)::vals) (R1.around A') (⟨h1,by refine ER h2 ?_;have:=hA.dp;lia,by have:=hA.un;lia⟩:Hy A' (r - 1)) (by grind only) (by show A'.frames=_;refine ER h3 (ER sN ?_);rfl)
  (.cons ⟨(hp.objs.size+1,hp.objs.size),by refine EL hl ?_;simp,rfl⟩ (hV.mono (fun U U e=>e) (prefix_append _ _)))
 refine codeAny_mono (z _ _ hns.q) fun rr s' zz=>?_;rcases rr with e|(v|_|_|_)<;>first|exact zz.elim|skip
 ·obtain⟨B',aP,ah,e',p,he,R',S',X',k⟩:=zz;exact⟨B',aP,ah,e',p,he,R'.gk,S1.trans S'.gk,X'.gk,k⟩
 ·obtain⟨B',aP,ah,v,R',S',V',rfl,k⟩:=zz;refine Is.MI V' ?_;refine⟨rfl,B',aP,ah,.ref σ.length,R'.gk,S1.trans S'.gk,⟨(hp.objs.size+1,hp.objs.size),?_,rfl⟩,k⟩;obtain⟨t',rfl⟩:=S'.pre;rw[getElem?_append_left (by simp[hl]),←hl];simp
abbrev WI(C:Addr)(f:List V→M V)(Q:MQ V)(E:ME):MQ (List V):=fun vs σ=>Nr C f vs σ Q E
def mQ(C:Addr)(f:List V→M V)(cs:List (ai→M V)):ai→M V:=fun le σ Q E=>ow cs le σ (WI C f Q E) E
theorem Ev.make{x:Str}{C fI:Addr}{f:List V→M V}{es:List Expr}{cs:List (ai→M V)}{p pos}{need:Nat}(hE:EnOK X en r)(hx:en.kindOf x=some .globalImplicit)(hk:nsIn X.K mainGlobals x=some (some (.ref C)))(hd:(x ==("__debug__" :Str))=false)
  (hm:makesIn X.K C=true) (hi:findIn X.K (.ref C) "__init__" =some (some (.ref fI))) (hf:typeIn X.K (.ref fI)=some (.type "function")) (nP:gQ X.K X.H0 (.ref fI) need f) (hn:need+1≤r) (Wy:keepIn X.K (.ref C)=true) (hp:cu es=true) (hs:vP X en es cs):
  Ev X en (.Call (.Name x p) es [] pos) (mQ C f cs):=by
 intro B φ σ le s hR L Q E z;refine ER (arm_eval_Call_Name' ..) ?_;refine wpAny_bind (lB hE hR hx hk hd ?_);exact mP (first:=[]) (g:=Nr C f) hs hp (keeps_K Wy) hR L (fun B' aP ah s' vs vals R' U V'=>(KV hm hi hf nP hn R' hE.room hE.MP V').Qz) Q E z
inductive BZ (o i v:V) (σ:LM) (Q:LM→Prop):Prop|mk (n:Nat) (k:Int) (x:P) (l:Lp) (e1:o= .ref n) (e2:i= .p (.int k)) (e3:v= .p x) (e4:σ[n]?=some (.list l)) (h:(decide (0≤k)&&decide (k<(l.length:Int))&&decide (l.length≤bL))=true) (q:Q (σ.set n (.list (l.set k.toNat x))))
theorem Nt{prog:Program}{w:World}{A:Around}{E:Value→Shared→Prop}{s:Shared}{l:Addr}{items:Array Value}{n:Nat}{k:Int}{t:Tok}{v:Value}{Q:Unit→Shared→Prop}(hl:s.heap.get? l=some {cls:=.type "list",dict:=none,data:=.seq items n,slots:=#[]})
  (h0:0≤k) (WJ:k<2 ^ 63) (hn:k<items.size) (hQ:Q () {s with heap:=s.heap.update l (Obj.mapSeq (·.setIfInBounds k.toNat v))}):
  wpAny (model prog w) A (setItem (.ref l) (.int k t) v) Q E s:=by
 have hT:s.TypeIs (.ref l) "list" :=⟨_,hl,rfl⟩;unfold setItem
 try with_reducible refine wpAny_holding ?_
 first|refine wpAny_bind (wpAny_pure ?_)|skip
 refine wpAny_bind (wpAny_sequenceKey hT (by decide) ?_);refine wpAny_bind (wpAny_callSpecial?_slot (name:=Str.ofString "__setitem__") hT slot_list_setitem
  (wpAny_call_entry slot_list_setitem hT entry_list_setitem ?_ (args_list_setitem _ _ _)))
 show wpAny _ _ (Builtin.List.listSubscript? (.int k t) >>=_) _ _ s;refine wpAny_bind (wpAny_listSubscript_int (fitsIndex_of h0 WJ) ?_);clear WJ;obtain⟨j,rfl⟩:=Int.eq_ofNat_of_zero_le h0;have hj:j<items.size:=by simp_all+arith
 show wpAny _ _ ((seqItemAt l j >>=fun r=>pure (r.map (j, ·))) >>=_) _ _ s;refine wpAny_bind (wpAny_bind (wpAny_seqItemAt hl rfl (wpAny_pure ?_)));refine ER (Array.getElem?_eq_getElem hj:items[j]?=some items[j]) ?_;show wpAny _ _ (setSeqItemAt l j v >>=_) _ _ s;refine wpAny_bind (wpAny_setSeqItemAt hl rfl ?_)
 first
  |exact wpAny_bind (wpAny_pure (wpAny_pure ⟨.none,rfl,wpAny_pure hQ⟩))
  |exact wpAny_pure ⟨.none,rfl,wpAny_pure hQ⟩
theorem Nu{o i v:V}{ov iv val:Value}(hR:Rel X B φ σ s)(ho:dM B φ ov o)(hi:dM B φ iv i)(hv:dM B φ val v):aE X B φ RU (setItem ov iv val) (fun Q U=>BZ o i v σ (Q ())) s:=fun Q E hh=>hh.casesOn fun n k x l e1 e2 e3 dF hk z=>by
 subst e1 e2 e3;simp only[and_eq_true,decide_eq_true_eq]at hk;obtain⟨ad,fW,rfl⟩:=ho;obtain⟨vs,m,h1,h2⟩:=hR.objs n ad _ fW dF;cases hi with
 |int _ t=>
 have h1':s.heap.get? ad.1=some {cls:=.type "list",dict:=none,data:=.seq vs.toArray m,slots:=#[]}:=h1;have aaG:=h2.length;refine Nt h1' hk.1.1 (by have:=hk.2;unfold bL at this;lia) (by refine ER size_toArray (ER aaG ?_);exact hk.1.2) ?_;have kk:∀b,b∉fh ad (.list l)→(s.heap.update ad.1 (Obj.mapSeq (·.setIfInBounds k.toNat val))).get? b=s.heap.get? b:=fun b hb=>get?_update_other _ _ fun q=>hb (by refine EL q ?_;exact mem_singleton_self _);exact⟨B,φ,_,(),hR.turn (tk:=s.toks) (o':=.list (l.set k.toNat x)) fW dF (fun a ha=>ha) kk ⟨vs.set k.toNat val,_,by refine ER (get?_update_self _ h1' rfl) ?_;simp[Obj.mapSeq];rfl,h2.set k.toNat hv⟩,Step.turn hR fW dF kk,trivial,z⟩
abbrev Us(v ov:V)(le:ai)(Q:MQ Out):MQ V:=fun iv σ=>BZ ov iv v σ (Q (.next le))
abbrev Ut(v:V)(i:ai→M V)(le:ai)(Q:MQ Out)(E:ME):MQ V:=fun ov σ=>i le σ (Us v ov le Q) E
abbrev WK(o i:ai→M V)(le:ai)(Q:MQ Out)(E:ME):MQ V:=fun v σ=>o le σ (Ut v i le Q E) E
def Fo(o i c:ai→M V):ai→M Out:=fun le σ Q E=>c le σ (WK o i le Q E) E
theorem Ex.item{o i e:Expr}{co ci c:ai→M V}{aaM pos}(hE:vQ X en r)(hn:iy e=true)(hi:iQ i=true)(ho:Ev X en o co)(Z9:Ev X en i ci)(h:Ev X en e c):
  Ex X en (exec (.Assign [.Subscript o i aaM] e pos) en) (Fo co ci c):=by
 intro B φ σ le s hR L;refine ER (exec_Assign_Subscript _ _ _ _ _ (jY hn _ _)) ?_;refine bN.standAt (bN.head hE.toEnOK (h B φ σ le s hR L.loc) L (f:=fun v σ Q E=>co le σ (fun ov σ=>ci le σ (fun iv σ=>BZ ov iv v σ (Q (Out.next le))) E) E) fun v br val aZ bA aS hR₁ L₁ hV₁=>?_);show bN X bA aS (RO en) (assign (.Subscript o i aaM) en val >>=fun U=>(Pure.pure Flow.next:Sem Flow)) _ aZ;refine ER (assign_Subscript ..) ?_;simp -iota only[bind_assoc];intro Q E z;refine wpAny_bind (wpAny_mono (aE.holding (ho bA aS br le aZ hR₁ L₁.loc) _ _ z) (fun zj s₂ hh=>hh.casesOn fun B₂ φ₂ dg ov R₂ S₂ V₂ z=>?_) fun U U q=>q.toS);have L₂:=L₁.step S₂ hE.mem;refine wpAny_bind (wpAny_mono (aE.holding (Z9 B₂ φ₂ dg le s₂ R₂ L₂.loc) _ _ z) (fun ival s₃ hh=>hh.casesOn fun B₃ φ₃ σ₃ iv R₃ S₃ V₃ z=>?_) fun U U q=>(q.after S₂).toS);refine wpAny_bind (wpAny_standAt (wpAny_bind (wpAny_holding (wpAny_mono (Nu R₃ (V₂.mono S₃.bB S₃.pre) V₃ ((hV₁.mono S₂.bB S₂.pre).mono S₃.bB S₃.pre) (fun U σ=>Q (Out.next le) σ) E z) (fun U s₄ hh=>hh.casesOn fun B₄ φ₄ σ₄ U R₄ S₄ U z=>?_) fun U U q=>((q.after S₃).after S₂).toS))));exact wpAny_bind (wpAny_release (wpAny_pure ⟨B₄,φ₄,σ₄,Out.next _,R₄,((S₂.trans S₃).trans S₄).toS,⟨rfl,(L₂.step S₃ hE.mem).step S₄ hE.mem⟩,z⟩))
end
inductive zB (v:V) (σ:LM) (E:ME):Prop|mk (n:Nat) (x:P) (e1:v= .ref n) (e2:σ[n]?=some (.exc x)) (q:E x (σ.set n .gone))
abbrev Uu(E:ME):MQ V:=fun v σ=>zB v σ E
def eF(c:ai→M V):ai→M Out:=fun le σ U E=>c le σ (Uu E) E
section
variable {X:Fx}{B:Fz}{φ:AA}{σ:LM}{s:Shared}{en:Env}{r:Nat}
theorem KW(hR:Rel X B φ σ s){n:Nat}{ad:Addr×Addr}{x:P}(fW:φ[n]?=some ad)(dF:σ[n]?=some (.exc x)):Rel X B φ (σ.set n .gone) s∧Exc X B φ (σ.set n .gone) s.heap x ad.1:=by
 obtain⟨dG,⟨vs,h1,h2,a0,h3⟩,es,m,v,h4,h5,h6⟩:=hR.objs n ad _ fW dF;have f:∀a∈fh ad (.exc x),dB X B φ (σ.set n .gone) a:=fun a ha=>by
  have z:=hR.own n ad _ a fW dF ha
  exact⟨z.1,z.2.1,z.2.2,hR.qP fW dF ha⟩
 exact⟨hR.kill fW dF,ExcAt.exc (dx:=ad.2) ⟨⟨Ne.symm dG,es,m,v,h4,h5,h6⟩,⟨f _ (.head _),f _ (.tail _ (.head _))⟩,vs,h1,⟨a0,h3⟩,.inl h2⟩⟩
theorem Ex.raise{e:Expr}{c:ai→M V}{pos}(hE:vQ X en r)(hb:mroIn X.K fY (.type "BaseException")=some true)(ht:typeIn X.K (.ref fY)=some (.type "type"))(h:Ev X en e c):Ex X en (exec (.Raise (some e) none pos) en) (eF c):=by
 intro B φ σ le s hR L;rw[arm_exec_Raise];refine bN.standAt ?_;show bN X B φ (RO en) (raiseStmt en (some (eval e en >>=fun v=>standAt pos >>=fun U=>pure v)) none) _ s;unfold raiseStmt;dsimp only;simp only[bind_assoc,pure_bind];refine bN.head hE.toEnOK (h B φ σ le s hR L.loc) L (f:=fun v σ U E=>zB v σ E) fun v br val aZ bA aS hR₁ L₁ hV₁=>bN.standAt fun Q E hh=>hh.casesOn fun n x e dF z=>?_;subst e;obtain⟨ad,fW,rfl⟩:=hV₁;obtain⟨R2,X2⟩:=KW hR₁ fW dF;obtain⟨dG,⟨vs,h1,h2,a0,h3⟩,_⟩:=hR₁.objs n ad _ fW dF;have LT:Looks X.M aZ.heap (typeOf (.ref ad.1)) (.ref fY):=(Looks.ld (part:=none) h1).andThen .now;have LY:Looks X.M aZ.heap (isType (.ref ad.1)) false:=(Looks.ld (part:=none) h1).andThen .now;unfold excFromValue isExcClass raisedInstance;refine wpAny_bind (wpAny_holding (wpAny_bind (wpAny_bind (LY.here ?_))));rw[if_neg Bool.false_ne_true];refine wpAny_pure (wpAny_bind ((LT.andThen (looks_mroIn hR₁.Ks hb):Looks X.M aZ.heap (isInstance (.ref ad.1) (.type "BaseException")) true).here ?_));rw[if_pos rfl];refine wpAny_pure (wpAny_bind (LY.here ?_));rw[if_neg Bool.false_ne_true];refine wpAny_bind (wpAny_bind (LT.here (wpAny_bind ((looks_typeIn hR₁.Ks ht).here ?_))));rw[if_pos (beq_self_eq_true _)];refine wpAny_pure (wpAny_bind (gH R2 X2 fun s' R3 S3 X3=>wpAny_raiseNew_none hE.room.hd ?_));exact⟨bA,aS,_,ad.1,x,rfl,R3,S3.toS,X3,z⟩
end
structure Fp where
 nm:Str
 q:Str
 N:Addr
 bs:Lv
 bm:Lv
 YO:Bool
 sn:Ls
 sub:Lv
 ab:Bool
 col:Option Bool
 dd:Option Addr
 k0:Option Value
 k1:Option Value
 k2:Option Value
 k3:Option Value
 k5:Option Value
noncomputable def Fp.obj(c:Fp)(C:Addr):Obj:=excClassObj c.nm c.q C c.N c.bs c.bm c.YO c.sn c.sub c.ab c.col c.dd c.k0 c.k1 c.k2 c.k3 c.k5 "Exception.__new__"
noncomputable def Fp.has(c:Fp)(C:Addr)(n:String):Bool:=(Value.ref C::c.bm).contains (.type n)
structure WL (K:Frag) (C:Addr) (c:Fp):Prop where
 at_:K.lookup C=some (c.obj C)
 exc:c.has C "Exception" =true
 Qa:c.has C "AttributeError" =false
 nam:c.has C "NameError" =false
section
variable {prog:Program}{w:World}{A:Around}{R:Result→Shared→Prop}{E:Value→Shared→Prop}{h:Heap}{g:Array GenState}{d:Drawn}{t:Nat}{os:OsState}{C:Addr}{c:Fp}{M:Model}
theorem uM{n:String}{b:Bool}{Q:Bool→Shared→Prop}(hC:h.get? C=some (c.obj C))(e:c.has C n=b)(q:Q b ⟨h,g,d,t,os⟩):wpAny M A (isSubtype (.ref C) (.type n)) Q E ⟨h,g,d,t,os⟩:=wpAny_isSubtype_exc hC (by rw[←e]at q;exact q)
theorem Nv{Q:Bool→Shared→Prop}(hC:h.get? C=some (c.obj C))(q:Q true ⟨h,g,d,t,os⟩):wpAny M A (isSubtype (.ref C) (.ref C)) Q E ⟨h,g,d,t,os⟩:=wpAny_isSubtype_exc hC (by rw[show(Value.ref C::c.bm).contains (.ref C)=true by simp];exact q)
theorem Nx{Q:Value→Shared→Prop}(hC:h.get? C=some (c.obj C))(q:Q (.ref C) ⟨h,g,d,t,os⟩):wpAny M A (Bind.staticBase (.ref C)) Q E ⟨h,g,d,t,os⟩:=wpAny_staticBase_exc hC q
theorem Fq{Q:Option String→Shared→Prop}(hC:h.get? C=some (c.obj C))(q:Q (some "Exception.__new__") ⟨h,g,d,t,os⟩):wpAny M A (Bind.madeBy (.ref C)) Q E ⟨h,g,d,t,os⟩:=wpAny_madeBy_exc hC q
theorem Ny{id:String}{Q:Unit→Shared→Prop}(hC:h.get? C=some (c.obj C))(e:Manifest.canonical "Exception.__new__" =Manifest.canonical id)(q:Q () ⟨h,g,d,t,os⟩):wpAny M A (Bind.madeHere id (.ref C)) Q E ⟨h,g,d,t,os⟩:=wpAny_madeHere_exc e hC q
theorem KY(F:ExcBaseFacts "Exception" "Exception.__new__" initId bmB){rest:Lv}{Q:Unit→Shared→Prop}(hC:h.get? C=some (c.obj C))(hB:c.has C "Exception" =true)
  (hq:Q () ⟨h,g,d,t,os⟩):wpAny M A (checkBuiltinCall "Exception.__new__" ⟨.ref C::rest,[]⟩) Q E ⟨h,g,d,t,os⟩:=by
 have hstar:=F.noStar
 unfold checkBuiltinCall;rw[F.newKind,F.newSplit,F.newRow];dsimp only
 repeat (first|refine wpAny_loadPart_at hC ?_|refine uM hC hB ?_|refine Nx hC ?_|refine Fq hC ?_|simp -iota only[bne_self_eq_false,false_eq_true,if_false]|wp_step)
 exact hq
theorem QK{rest:Lv}(hC:h.get? C=some (c.obj C))(hB:c.has C "Exception" =true)(hA:c.has C "AttributeError" =false)(hN:c.has C "NameError" =false)
  (hq:R (.ok (.ret (.ref (h.objs.size+1)))) ⟨(h.push {cls:=.type "tuple",data:=.seq rest.toArray}).push {cls:=.ref C,data:=.fields #[.ref h.objs.size,.none,.none,.none,.bool false,.none]},g,d,t,os⟩) (SY:rest.length≤sizeLine):
  codeAny (model prog w) A (.builtin "Exception.__new__" ⟨.ref C::rest,[]⟩) R ⟨h,g,d,t,os⟩:=by
 have F:=PySem.F.excBase_Exception
 have hends:=F.ends
 refine codeAny_builtinAt F.entry ?_;unfold Builtin.«BaseException.__new__»;refine PySem.wpAt_bind ?_;show PySem.wpAt _ _ _ (stack >>=_) _ _ _;refine PySem.wpAt_bind (PySem.wpAt_stack fun p below=>PySem.wpAt_of_wpAny ?_);wp_walk;refine PySem.wpAt_of_wpAny ?_;refine ER F.owner ?_
 repeat (first|with_reducible refine Ny hC F.canon ?_|with_reducible refine wpAny_loadPart_at hC ?_|with_reducible refine uM hC hB ?_|with_reducible refine uM hC hA ?_|with_reducible refine uM hC hN ?_|wp_step)
 show R _ _;refine ER (size_push ..) ?_;exact hq
theorem Nz{K:Frag}{fI:Addr}{rest:Lv}(X:K.In h)(I:WL K C c)(hi:findIn K (.ref C) "__init__" =some (some (.ref fI)))(hf:typeIn K (.ref fI)=some (.type "function"))
  (WM:specialIn K (.ref C) "__call__" =some (some (.builtin "type.__call__"))) (YQ:instIn K (.ref C) (.type "type")=some true) (SY:rest.length≤sizeLine)
  (hq:codeAny (model prog w) (A.under (.builtin "type.__call__" ⟨.ref C::rest,[]⟩)) (.call (.ref fI) ⟨.ref (h.objs.size+1)::rest,[]⟩) (InitBack (h.objs.size+1) R)
   ⟨(h.push {cls:=.type "tuple",data:=.seq rest.toArray}).push {cls:=.ref C,data:=.fields #[.ref h.objs.size,.none,.none,.none,.bool false,.none]},g,d,t,os⟩):
  codeAny (model prog w) A (.call (.ref C) ⟨rest,[]⟩) R ⟨h,g,d,t,os⟩:=by
 have F:=PySem.F.excBase_Exception
 have hC:=X _ _ I.at_
 refine codeAny_of_tree ?_;show wpAny _ _ (callAny (.ref C) _) _ _ _;refine nd_load hC ?_;show wpAny _ _ (callAny.viaDunder (.ref C) _) _ _ _;unfold callAny.viaDunder;refine wpAny_bind ((looks_specialIn X WM).at ?_);dsimp only;refine ER (tc_bind ..) ?_;refine wpAny_bind (wpAny_pure (wpAny_bind (wpAny_pure ?_)));refine wpAny_pure (a:=Fin.again (.call (.builtin "type.__call__") ⟨.ref C::rest,[]⟩)) (And.intro rfl ?_);refine codeAny_call_builtin_at (Code.quiet_builtin _ (by decide+kernel)) entry_typeCall (check_slot tc_kind tc_split (looks_instIn X YQ) (tc_args _ _ _) ?_);have k:∀b o,h.get? b=some o→((h.push {cls:=.type "tuple",data:=.seq rest.toArray}).push {cls:=.ref C,data:=.fields #[.ref h.objs.size,.none,.none,.none,.bool false,.none]}).get? b=some o:=fun b o e=>get?_push_of_some _ (get?_push_of_some _ e);have X₁:=X.keeps k;have hget:((h.push {cls:=.type "tuple",data:=.seq rest.toArray}).push {cls:=.ref C,data:=.fields #[.ref h.objs.size,.none,.none,.none,.bool false,.none]}).get? (h.objs.size+1)=some
   {cls:=.ref C,data:=.fields #[.ref h.objs.size,.none,.none,.none,.bool false,.none]}:=by heap_get
 unfold Builtin.«type.__call__»
 repeat (first|with_reducible refine wpAny_loadPart_at hC ?_|with_reducible refine Fq hC ?_|wp_step)
 refine codeAny_call_builtin_code (Code.quiet_builtin _ F.quiet) (KY F hC I.exc ?_);refine QK hC I.exc I.Qa I.nam ?_ SY;show wpAny _ _ _ _ _ _;unfold isInstance
 repeat (first|with_reducible refine wpAny_loadPart_at hget ?_|with_reducible refine Nv (k _ _ hC) ?_|wp_step)
 show wpAny _ _ (typeLookup (.ref C) _) _ _ _;refine(looks_findIn X₁ hi).at ?_;refine wpAny_holding (wpAny_bind ((bind_fn X₁ (.ref (h.objs.size+1)) hf).at ?_));refine wpAny_bind (wpAny_call ?_);refine codeAny_mono hq fun r s' z=>?_;rcases r with e|(v|_|_|_)<;>first|exact z|exact z.elim|skip
 obtain⟨rfl,z⟩:=z;exact wpAny_pure (wpAny_pure z)
end
theorem S4:typeOf (.builtin "Exception.__init__")=pure (.type "wrapper_descriptor"):=by kernel_rfl
theorem Uv:typeLookup (.type "wrapper_descriptor") "__get__" =pure (some (.builtin "wrapper_descriptor.__get__")):=by rw[typeLookup_type,builtinLookup_eq_fast];kernel_rfl
theorem QM:Slot "wrapper_descriptor" "__get__" "wrapper_descriptor.__get__" :=.of (owner:= "wrapper_descriptor") (n:= "__get__") (by rw[typeLookup_type,builtinLookup_eq_fast];kernel_rfl) (by decide+kernel) (by decide+kernel) (by decide+kernel)
 (by first|exact .inl (by decide+kernel)|exact .inr (by decide+kernel)) (by rw[isSubtype_type];kernel_rfl)
theorem NB:entryFor table "wrapper_descriptor.__get__" =some Builtin.«wrapper_descriptor.__get__»:=entryFor_of_tree (by kernel_rfl)
theorem QN(a b c:Value):argsOk "wrapper_descriptor.__get__" ⟨[a,b,c],[]⟩:=by unfold argsOk;kernel_rfl
noncomputable abbrev sd(x:Addr):Obj:={cls:=.type "method-wrapper",data:=.fields #[.builtin "Exception.__init__",.ref x]}
section
variable {prog:Program}{w:World}{A:Around}{R:Result→Shared→Prop}{E:Value→Shared→Prop}{h:Heap}{g:Array GenState}{d:Drawn}{t:Nat}{os:OsState}
theorem NC:(".".intercalate ("Exception.__init__".cutAt '.').dropLast)= "Exception" :=by decide+kernel
theorem Uw{x C:Addr}{ox:Obj}{Q:Fin→Shared→Prop}(hx:h.get? x=some ox)(HT:ox.cls= .ref C)(hi:Looks (model prog w) h (isSubtype (.ref C) (.type "Exception")) true)(hq:Q (.done (.ret (.ref h.objs.size))) ⟨h.push (sd x),g,d,t,os⟩):
  wpAny (model prog w) A (Builtin.«wrapper_descriptor.__get__» ⟨[.builtin "Exception.__init__",.ref x,.ref C],[]⟩) Q E ⟨h,g,d,t,os⟩:=by
 unfold Builtin.«wrapper_descriptor.__get__»
 repeat (first|(with_reducible refine Looks.at hi ?_)|(with_reducible refine wpAny_newObj_type ?_ (by size_fits))|(with_reducible refine wpAny_loadPart_at hx ?_;refine ER HT (ER NC ?_))|wp_step|dsimp only)
 all_goals exact hq
theorem ND{so D x C:Addr}{l₀ l:Lv}{K:Frag}{tk:Tok}{Q:Fin→Shared→Prop}
  (P9:h.get? so=some {cls:=.type "super",dict:=none,data:=.fields #[.ref D,.ref x,.ref C],slots:=#[]}) (YR:Looks (model prog w) h (opaqueClassAbove (.ref C)) none)
  (hC:Looks (model prog w) h (mroOf (.ref C)) l₀) (hl:(l₀.dropWhile (· != .ref D)).drop 1=l) (X:K.In h)
  (hf:alongIn K "__init__" l=some (some (.builtin "Exception.__init__"))) (WN:x≠C) {ox:Obj} (hx:h.get? x=some ox) (HT:ox.cls= .ref C) (hi:Looks (model prog w) h (isSubtype (.ref C) (.type "Exception")) true)
  (hq:Q (.done (.ret (.ref h.objs.size))) ⟨h.push (sd x),g,d,t,os⟩):
  wpAny (model prog w) A (Builtin.«super.__getattribute__» ⟨[.ref so,.str "__init__" tk],[]⟩) Q E ⟨h,g,d,t,os⟩:=by
 have dG:(Value.ref x ==Value.ref C)=false:=by simp[WN]
 have hn:(("__init__" :Str) ==("__class__" :Str))=false:=by decide+kernel
 have hdt:({cls:=.type "super",dict:=none,data:=.fields #[.ref D,.ref x,.ref C],slots:=#[]}:Obj).data= .fields #[.ref D,.ref x,.ref C]:=rfl;have f1:(#[.ref D,.ref x,.ref C]:Array Value)[1]?=some (.ref x):=rfl;have f2:(#[.ref D,.ref x,.ref C]:Array Value)[2]?=some (.ref C):=rfl;have e1:=S4;have e2:=Uv;have hTf:(⟨h,g,d,t,os⟩:Shared).TypeIs (.builtin "Exception.__init__") "wrapper_descriptor" :=S4;unfold Builtin.«super.__getattribute__»
 repeat (first
  |(with_reducible refine wpAny_field P9 hdt (rfl:(#[.ref D,.ref x,.ref C]:Array Value)[0]?=some (.ref D)) ?_)|(with_reducible refine wpAny_field P9 hdt f1 ?_)|(with_reducible refine wpAny_field P9 hdt f2 ?_)
  |(with_reducible refine ks_wpAny_notOpaque YR ?_)
  |(with_reducible refine Looks.at hC ?_;refine ER hl ?_)
  |(refine ks_forIn_along X (fun U U=>rfl) rfl ?_ hf)
  |(with_reducible refine wpAny_typeOf hTf ?_)
  |(with_reducible refine wpAny_call_entry QM hTf NB ?_ (QN _ _ _))
  |(with_reducible refine⟨_,rfl,?_⟩)
  |((first|dsimp only[hn,dG,Bool.or_false,false_eq_true,if_false]|simp -iota only[hn,dG,Bool.or_false,false_eq_true,if_false]))
  |(with_reducible refine Uw hx HT hi ?_)
  |wp_step
  |dsimp only)
 all_goals exact hq
theorem KZ{so D x C:Addr}{l₀ l:Lv}{K:Frag}{pl:Sem Bool}{Q:Value×Lv→Shared→Prop}
  (P9:h.get? so=some {cls:=.type "super",dict:=none,data:=.fields #[.ref D,.ref x,.ref C],slots:=#[]}) (YR:Looks (model prog w) h (opaqueClassAbove (.ref C)) none)
  (hC:Looks (model prog w) h (mroOf (.ref C)) l₀) (hl:(l₀.dropWhile (· != .ref D)).drop 1=l) (X:K.In h)
  (hf:alongIn K "__init__" l=some (some (.builtin "Exception.__init__"))) (WN:x≠C) {ox:Obj} (hx:h.get? x=some ox) (HT:ox.cls= .ref C) (hi:Looks (model prog w) h (isSubtype (.ref C) (.type "Exception")) true)
  (hq:Q (.ref h.objs.size,[]) ⟨h.push (sd x),g,d,t+1,os⟩):
  wpAny (model prog w) A (getMethod (.ref so) "__init__" pl) Q E ⟨h,g,d,t,os⟩:=by
 have hlk:=PySem.F.ks_slot_super_ga.lookup
 have hT:∀t',(⟨h,g,d,t',os⟩:Shared).TypeIs (.ref so) "super" :=fun U=>⟨_,P9,rfl⟩;unfold getMethod;refine wpAny_bind (wpAny_specialOf (hT _) hlk ?_);show wpAny _ _ (if (Manifest.canonical "super.__getattribute__" != "object.__getattribute__")=true then _ else _) _ _ _;refine ER (if_pos (PySem.F.ks_canon_super_ga)) ?_;unfold getAttr getAttrBy;refine wpAny_bind (wpAny_bind (wpAny_mkText (wpAny_holding (wpAny_bind (wpAny_typeOf (hT _) (wpAny_bind (wpAny_of_eq hlk ?_)))))));show wpAny _ _ (getAttrByItsOwn (.ref so) (.str "__init__" t) (.type "super") (.builtin "super.__getattribute__") true false) _ _ _;unfold getAttrByItsOwn hookBefore callGetattribute boundAndCalled;refine wpAny_bind (wpAny_of_eq (show(if onTheHeap (.type "super")then typeLookup (.type "super") "__getattr__" else pure none)=pure none from rfl) ?_);refine wpAny_bind (wpAny_attempt (wpAny_holding ?_));show wpAny _ _ (bindSpecial (.builtin "super.__getattribute__") (.ref so) >>=_) _ _ _;refine wpAny_bind (wpAny_of_eq (PySem.F.ks_slot_super_ga.bind _) ?_);refine wpAny_mono (Q:=fun v s'=>v= .ref h.objs.size∧s'=⟨h.push (sd x),g,d,t+1,os⟩) (E:=fun U U=>False)
  (wpAny_call_entry PySem.F.ks_slot_super_ga (hT _) PySem.F.ks_entry_super_ga (ND P9 YR hC hl X hf WN hx HT hi ⟨_,rfl,rfl,rfl⟩) (PySem.F.ks_gaArgs_super _ _)) (fun v s' hv=>?_) fun U U z=>z.elim
 obtain⟨rfl,rfl⟩:=hv;exact wpAny_pure (wpAny_pure hq)
theorem NF{M:Model}{A:Around}{E:Value→Shared→Prop}{h:Heap}{g:Array GenState}{d:Drawn}{t:Nat}{os:OsState}{c:Fp}{C e:Addr}{oe:Obj}{b:Value}{Q:Unit→Shared→Prop}
  (hC:h.get? C=some (c.obj C)) (hB:c.has C "Exception" =true) (he:h.get? e=some oe) (HT:oe.cls= .ref C) (hq:Q () ⟨h,g,d,t,os⟩):wpAny M A (checkBoundCall "Exception.__init__" ⟨[.ref e,b],[]⟩) Q E ⟨h,g,d,t,os⟩:=by
 have F:=PySem.F.excBase_Exception
 have hshort:=F.noStar
 unfold checkBoundCall;rw[F.initRow,F.initKind];dsimp only;rw[if_pos (by decide)]
 repeat (first|(with_reducible refine wpAny_loadPart_at he ?_;refine ER HT ?_)|with_reducible refine wpAny_loadPart_at hC ?_|with_reducible refine uM hC hB ?_|wp_step)
 all_goals exact hq
theorem NG(a:Args):(Code.builtin "Exception.__init__" a).quiet=true:=Code.quiet_builtin _ (by decide+kernel)
theorem K0{mw x:Addr}(hm:h.get? mw=some (sd x)):Looks (model prog w) h (keeperOf (.ref mw)) .machine:=by
 refine(Looks.ld (part:=none) hm).andThen ?_;exact .now
theorem QP{mw x tp:Addr}{v:Value}{c:Fp}{C:Addr}{HK:Option Addr}{sl:Array (Option Value)}{Q:Value→Shared→Prop}(hC:h.get? C=some (c.obj C))(hB:c.has C "Exception" =true)(hm:h.get? mw=some (sd x))(hx:h.get? x=some ⟨.ref C,HK,.fields #[.ref tp,.none,.none,.none,.bool false,.none],sl⟩)
  (hq:Q .none ⟨(h.push {cls:=.type "tuple",data:=.seq #[v]}).update x (Obj.mapFields (·.setIfInBounds 0 (.ref h.objs.size))),g,d,t,os⟩):wpAny (model prog w) A (call (.ref mw) [v]) Q E ⟨h,g,d,t,os⟩:=by
 refine wpAny_call (codeAny_of_tree ?_);show wpAny _ _ (callAny (.ref mw) _) _ _ _;refine nd_load hm ?_;show wpAny _ _ (checkBoundCall "Exception.__init__" ⟨[.ref x,v],[]⟩ >>=fun U=>again (.builtin "Exception.__init__" ⟨[.ref x,v],[]⟩)) _ _ _;refine wpAny_bind (NF hC hB hx rfl ?_);refine wpAny_pure (And.intro (NG _) ?_);refine codeAny_builtin PySem.F.excBase_Exception.initEntry ?_;have hx':=get?_push_of_some {cls:=.type "tuple",data:=.seq #[v]} hx;unfold Builtin.«BaseException.__init__»;wp_walk;exact hq
end
theorem HU(self:Value):refuseLoop self "__setattr__" [.type "Exception",.type "BaseException",.type "object"]=pure ():=by kernel_rfl
section
variable {prog:Program}{w:World}{A:Around}{R:Result→Shared→Prop}{E:Value→Shared→Prop}{s:Shared}{K:Frag}{x C D:Addr}
theorem Jr{ox:Obj}{od:Option Obj}{name:Str}{tk:Tok}{v:Value}{cd:ClassData}(X:K.In s.heap)(I:InstAt s.heap x ox C od)(hc:clsIn K C=some cd)(hm:cd.mro=[.ref C,.ref D,.type "Exception",.type "BaseException",.type "object"])(ht:findIn K (.ref C) name=some none)
  (h:∀b,wpAny (model prog w) A.in1 (Builtin.ObjectAttr.storeInOwnDict (.ref x) (.ref C) (.str name tk) name v b)
   (fun (fin:PySem.Fin) s'=>match fin with| .done f=>R (.ok f) s'| .again c'=>c'.quiet=true∧codeAny (model prog w) A c' R s') (fun e s'=>R (.error e) s') s):
  codeAny (model prog w) A (.call (.builtin "object.__setattr__") ⟨[.ref x,.str name tk,v],[]⟩) R s:=by
 have SF:=PySem.F.store_object
 have ZI:mroIn K C (.type "object")=some true:=by unfold mroIn;rw[hc,bind_some,hm];rfl
 have sub:Looks (model prog w) s.heap (isInstance (.ref x) (.type "object")) true:=I.type.andThen (looks_mroIn X ZI);refine codeAny_call_builtin SF.slot.plain SF.entry (@check_slot (model prog w) _ _ s "object.__setattr__" "object" "__setattr__" (.ref x) [.str name tk,v] [] _ SF.kind SF.split sub (SF.args (.ref x) (.str name tk) v) ?_);rw[osa_eq,refuse_eq];refine wpAny_bind (wpAny_bind (I.type.here (wpAny_bind (((looks_clsIn X hc).andThen .now:Looks (model prog w) s.heap (mroOf (.ref C)) cd.mro).here ?_))));rw[hm,refuseLoop_ref,refuseLoop_ref,HU];refine wpAny_pure (wpAny_bind (I.type.here (wpAny_bind ((looks_findIn X ht).here (wpAny_bind (wpAny_pure ?_))))));exact h _
theorem in_dict{dx:Addr}{es:List DictEntry}{n:Nat}{name:Str}{tk:Tok}{v:Value}{r:Option Value}{Q:PySem.Fin→Shared→Prop}(h2:s.heap.get? dx=some (dictOf es n))(hl:getL name es=some r)(hz:es.length≤999)
  (q:Q (.done (.ret .none)) {s with heap:=s.heap.update dx (Obj.putName name (keyHash w.params name) (.str name s.toks) v),toks:=s.toks+1}):wpAny (model prog w) A (Builtin.ObjectAttr.storeInDict dx (.str name tk) name v) Q E s:=by
 have e:=putName_dict name (keyHash w.params name) (.str name s.toks) v es n
 have aaG:∀es:List DictEntry,(putL name (keyHash w.params name) (.str name s.toks) v es).length≤es.length+1:=by
  intro es;induction es with
  |nil=>exact succ_pos _
  |cons e r ih=>unfold putL;refine iT (fun _=>?_) fun _=>?_<;>(first|exact le_add_right _ _|simp)<;>omega
 have D':=get?_update_self (Obj.putName name (keyHash w.params name) (.str name s.toks) v) h2 (by rw[e];rfl);rw[e]at D';unfold Builtin.ObjectAttr.storeInDict;refine wpAny_bind (wpAny_pure (wpAny_bind ?_));unfold nsSet;refine wpAny_bind (wpAny_bind (wpAny_askSetting (wpAny_pure (wpAny_bind (wpAny_mkText (wpAny_bind (wpAny_loadPart h2 ?_)))))));dsimp only[dictOf];rw[aRefKeyMayBeTheName_at,E1 hl];refine wpAny_updatePart h2 ?_;refine wpAny_bind (wpAny_lookBehind D' (pastItsLine_dict (by rw[size_toArray,sizeLine_eq];have:=aaG es;lia)) ?_);exact wpAny_pure q
theorem K1{name:Str}{tk:Tok}{v:Value}{cd:ClassData}{fs:Array Value}(X:K.In s.heap)(hx:s.heap.get? x=some ⟨.ref C,none,.fields fs,#[]⟩)(hc:clsIn K C=some cd)(hd:cd.hasDict=true)(hm:cd.mro=[.ref C,.ref D,.type "Exception",.type "BaseException",.type "object"])(ht:findIn K (.ref C) name=some none)
  (q:∀h',(∀b o,b≠x→s.heap.get? b=some o→h'.get? b=some o)→h'.get? x=some ⟨.ref C,some s.heap.objs.size,.fields fs,#[]⟩→h'.get? s.heap.objs.size=some (dictOf [⟨keyHash w.params name,.str name s.toks,v⟩] 1)→R (.ok (.ret .none)) {s with heap:=h',toks:=s.toks+1}):
  codeAny (model prog w) A (.call (.builtin "object.__setattr__") ⟨[.ref x,.str name tk,v],[]⟩) R s:=by
 refine Jr X (⟨hx,rfl,rfl,trivial⟩:InstAt s.heap x ⟨.ref C,none,.fields fs,#[]⟩ C none) hc hm ht fun b=>?_;obtain⟨hp,g,d,t,os⟩:=s;have hxs:x<hp.objs.size:=lt_size hx;refine wpAny_bind (wpAny_pure (wpAny_bind (wpAny_bind (wpAny_loadPart hx (wpAny_bind ((looks_clsIn X hc).here ?_))))));rw[hd];have h1:=get?_push_of_some emptyDict hx;have hf:(⟨.ref C,some hp.objs.size,.fields fs,#[]⟩:Obj).isFreed=false:=rfl;have g1:=get?_update_self (fun o=>{o with dict:=some hp.objs.size}) h1 hf;have g2:((hp.push emptyDict).update x fun o=>{o with dict:=some hp.objs.size}).get? hp.objs.size=some (dictOf [] 0):=(get?_update_other _ _ (ne_of_lt hxs)).trans (get?_push_size _ rfl);refine wpAny_bind (wpAny_alloc ?_);refine wpAny_bind (wpAny_update h1 ?_);show wpAny _ _ (pure (some hp.objs.size)) _ _ _;refine wpAny_pure ?_;refine in_dict (s:=⟨(hp.push emptyDict).update x fun o=>{o with dict:=some hp.objs.size},g,d,t,os⟩) g2 (r:=none) rfl (by decide) ?_;have e:=putName_dict name (keyHash w.params name) (.str name t) v [] 0;have hD:=get?_update_self (Obj.putName name (keyHash w.params name) (.str name t) v) g2 (by rw[e];rfl);rw[e]at hD;refine q _ (fun b o n eb=>?_) ?_ hD
 ·have hb:b<hp.objs.size:=lt_size eb;exact(get?_update_other _ _ (ne_of_gt hb)).trans ((get?_update_other _ _ (Ne.symm n)).trans (get?_push_of_some _ eb))
 ·exact(get?_update_other _ _ (ne_of_gt hxs)).trans g1
theorem NH{name:Str}{tk:Tok}{v:Value}{cd:ClassData}{fs:Array Value}{dx:Addr}{es:List DictEntry}{n:Nat}{r:Option Value}(X:K.In s.heap)(hx:s.heap.get? x=some ⟨.ref C,some dx,.fields fs,#[]⟩)(h2:s.heap.get? dx=some (dictOf es n))(hc:clsIn K C=some cd)(hd:cd.hasDict=true)(hm:cd.mro=[.ref C,.ref D,.type "Exception",.type "BaseException",.type "object"])(ht:findIn K (.ref C) name=some none)
  (hl:getL name es=some r) (hz:es.length≤999)
  (q:R (.ok (.ret .none)) {s with heap:=s.heap.update dx (Obj.putName name (keyHash w.params name) (.str name s.toks) v),toks:=s.toks+1}):
  codeAny (model prog w) A (.call (.builtin "object.__setattr__") ⟨[.ref x,.str name tk,v],[]⟩) R s:=by
 refine Jr X (⟨hx,rfl,rfl,h2⟩:InstAt s.heap x ⟨.ref C,some dx,.fields fs,#[]⟩ C (some (dictOf es n))) hc hm ht fun b=>?_;refine wpAny_bind (wpAny_pure (wpAny_bind (wpAny_bind (wpAny_loadPart hx (wpAny_bind ((looks_clsIn X hc).here ?_))))));rw[hd];exact wpAny_pure (a:=some dx) (in_dict h2 hl hz q)
end
section
set_option backward.match.sparseCases true
theorem HV{en:Env}{o:Expr}{name:Str}{aaJ pos:Pos}{es:List Expr}(hp:cu es=true)(hf:qS es=true)(hl:(aaJ.endLine ==pos.line)=true):
  eval (.Call (.Attribute o name aaJ) es [] pos) en=(attributeBase o name en (eval o en) >>=fun ov=>standAt aaJ.atName >>=fun U=>holding [ov] (getMethod ov name (do return (←importBound o en).getD true)) >>=fun fx=>callWith pos fx.1 fx.2 (backTo pos (starEach es en)) []):=by
 have e1:methodCallForm (es.length+0) (backTo pos (starEach es en)) []=true:=by
  unfold methodCallForm;have:=plain_any (pos:=pos) (en:=en) hp;rw[any_eq_false]at this;simp only[qS,decide_eq_true_eq]at hf;simp only[all_nil,Bool.and_true,List.isEmpty_nil,if_true,and_eq_true,decide_eq_true_eq];exact⟨all_eq_true.mpr fun x hx=>by simpa using this x hx,hf⟩
 refine ER (arm_eval_Call ..) ?_;show(attributeBase o name en (eval o en) >>=fun ov=>standAt aaJ.atName >>=fun U=>methodCall o name aaJ pos en ov (es.length+0) (backTo pos (starEach es en)) [])=_
 congr 1;funext ov;congr 1;funext _
 unfold methodCall;refine ER e1 ?_;unfold methodCallPos calleeOf;simp -iota only[hl,Bool.not_true,Bool.false_or,if_true];rfl
structure Ch (s s':Shared):Prop where
 g:s'.gens=s.gens
 d:s'.drawn=s.drawn
 o:s'.os=s.os
theorem Ch.trans{s s' EX:Shared}(a:Ch s s')(b:Ch s' EX):Ch s EX:=⟨b.g.trans a.g,b.d.trans a.d,b.o.trans a.o⟩
structure C5 where
 od:Option Addr
 osl:Array (Option Value)
 name:Str
 qual:Str
 params:Arguments
 scope:Scope
 dV:Value
 kV:Value
 doc:Value
 pm:Value
 an:Option Addr
 ct:Value
 p0:Pos
 p1:Pos
 pa:Pos
 px:Pos
 pc:Pos
 pe:Pos
 q1:Pos
 q2:Pos
 q3:Pos
 q4:Pos
 q5:Pos
 q6:Pos
 q7:Pos
 q8:Pos
noncomputable def Ux(q1 q2 q3 q4:Pos)(n:Str):Stmt:=.Assign [.Attribute (.Name "self" q1) n q2] (.Name n q3) q4
noncomputable def C5.sup(d:C5):Stmt:=.Expr (.Call (.Attribute (.Call (.Name "super" d.p0) [] [] d.p1) "__init__" d.pa) [.Name "what" d.px] [] d.pc) d.pe
def C5.body(d:C5):List Stmt:=[d.sup,Ux d.q1 d.q2 d.q3 d.q4 "what",Ux d.q5 d.q6 d.q7 d.q8 "at"]
def C5.data(d:C5)(cc xy:Addr):FuncData:=ksFn d.name d.qual d.params d.body d.scope d.dV d.kV d.doc d.pm d.an (.ref xy) d.ct cc
structure S6 (K:Frag) (f cc xy:Addr) (d:C5):Prop where
 obj:K.lookup f=some ⟨.type "function",d.od,.func (d.data cc xy),d.osl⟩
 code:codeIn K (.ref xy) d.qual=true
 line:(d.pa.endLine ==d.pc.line)=true
 kind:d.scope.kind= .function
 co:d.scope.isCoroutine=false
 gen:d.scope.isGenerator=false
 cell:∀x∈d.scope.names,x.2≠ .cell
 self:d.scope.names.lookup ("self" :Str)=some .local
 K2:d.scope.names.lookup ("what" :Str)=some .local
 at_:d.scope.names.lookup ("at" :Str)=some .local
 super:d.scope.names.lookup ("super" :Str)=some .globalImplicit
 cls:d.scope.names.lookup ("__class__" :Str)=some .free
 ar:∃ar,(d.params.posonlyargs++d.params.args).head?=some ar∧ar.arg= "self"
 bind:∀(a b c:Value) (S:Setting),peek K S (bindArgs (d.data cc xy) ⟨[a,b,c],[]⟩)=some ([("self",a),("what",b),("at",c)]:List (Str×Value))
structure K3 (K:Frag) (prog:Program) (C D f cc xy:Addr):Prop where
 cls:∃c,WL K C c
 init:findIn K (.ref C) "__init__" =some (some (.ref f))
 call:specialIn K (.ref C) "__call__" =some (some (.builtin "type.__call__"))
 typ:instIn K (.ref C) (.type "type")=some true
 mro:∃cd,clsIn K C=some cd∧cd.hasDict=true∧cd.mro=[.ref C,.ref D,.type "Exception",.type "BaseException",.type "object"]
 along:alongIn K "__init__" [.type "Exception",.type "BaseException",.type "object"]=some (some (.builtin "Exception.__init__"))
 ZJ:nsIn K cStatics "thirdparty.any" =some none
 Uy:findIn K (.ref C) "__setattr__" =some (some (.builtin "object.__setattr__"))
 NI:findIn K (.ref C) "what" =some none
 WO:findIn K (.ref C) "at" =some none
 cell:∃cl cld csl,K.lookup cc=some ⟨cl,cld,.cell (some (.ref D)),csl⟩
 WQ:∃WR,clsIn K D=some WR
 super:nsIn K mainGlobals "super" =some none
 top:(prog.main.scope.names.lookup ("super" :Str)).isSome=false
 code:∃ccl cdd vs ccs file tf,K.lookup xy=some ⟨ccl,cdd,.fields vs,ccs⟩∧vs[2]?=some (.str file tf)∧((prog.main.file:Str) ==file)=true
 fn:∃d,S6 K f cc xy d
section
variable {prog:Program}{w:World}{A:Around}{R:Result→Shared→Prop}{s:Shared}{K:Frag}{C D f cc xy x tp:Addr}{wv av:Value}{d:C5}{en:Env}
noncomputable def zC(C tp:Addr)(dx:Option Addr):Obj:=⟨.ref C,dx,.fields #[.ref tp,.none,.none,.none,.bool false,.none],#[]⟩
theorem Js{D:Addr}{WR:ClassData}{h:Heap}(X:K.In h)(hD:clsIn K D=some WR):∃oD,h.get? D=some oD∧oD.data= .cls WR:=by
 unfold clsIn at hD;revert hD;generalize e:K.lookup D=gg;induction gg with
 |none=>exact fun h=>by cases h
 |some o=>
  obtain⟨cl,dd,dt,sl⟩:=o;induction dt with
  |cls c=>intro h;injection h with h;subst h;exact⟨_,X _ _ e,rfl⟩
  |_=>intro h;contradiction
structure VT (d:C5) (en:Env) (cc f xy x:Addr) (wv av:Value) (m:Str→Option Value):Prop where
 scope:en.scope=d.scope
 cells:en.cells=([("__class__",cc)]:List (Str×Addr))
 glob:en.globals=mainGlobals
 blt:en.builtins=builtinsNs
 func:en.func=some f
 code:en.code= .ref xy
 self:m "self" =some (.ref x)
 K2:m "what" =some wv
 at_:m "at" =some av
variable {m:Str→Option Value}
theorem VT.kind{y:Str}{k:NameKind}(I:VT d en cc f xy x wv av m)(h:d.scope.names.lookup y=some k):en.kindOf y=some k:=by unfold Env.kindOf;refine ER I.scope ?_;exact h
theorem VT.fn(I:VT d en cc f xy x wv av m)(h:d.scope.kind= .function):en.scope.kind= .function:=by rw[I.scope];exact h
theorem Jt{h h':Heap}{L:Addr}(n:h.Ns L m)(k:∀b o,b≠x→h.get? b=some o→h'.get? b=some o)(q:L≠x):h'.Ns L m:=(n).casesOn fun o hh=>hh.casesOn fun es hh=>hh.casesOn fun ep hh=>hh.casesOn fun ho r=>⟨o,es,ep,k _ _ q ho,r⟩
theorem C6{h h':Heap}(X:K.In h)(k:∀b o,b≠x→h.get? b=some o→h'.get? b=some o)(q:K.lookup x=none):K.In h':=fun b o e=>k b o (fun z=>by rw[z,q]at e;contradiction) (X b o e)
theorem Ju{c:Code}{Q:Flow→Shared→Prop}{E:Value→Shared→Prop}{n:Str}{v:Value}{ox:Obj}{od:Option Obj}{q1 q2 q3 q4:Pos}(hk:en.scope.kind= .function)(ks:en.kindOf "self" =some .local)(ms:m "self" =some (.ref x))(kn:en.kindOf n=some .local)(mn:m n=some v)(nd:(n ==Str.ofString "__debug__")=false)(ns:s.heap.Ns en.locals m)
  (X:K.In s.heap) (I:InstAt s.heap x ox C od) (hs:findIn K (.ref C) "__setattr__" =some (some (.builtin "object.__setattr__")))
  (h:codeAny (model prog w) A (.call (.builtin "object.__setattr__") ⟨[.ref x,.str n s.toks,v],[]⟩) (fun r s'=>match r with| .ok (.ret _)=>Q .next s'| .ok _=>False| .error e=>E e s') {s with toks:=s.toks+1}):
  PySem.wpAt (model prog w) A c (exec (Ux q1 q2 q3 q4 n) en) Q E s:=
 ks_wpAt_Assign_Attr (PySem.wpAt_of_wpAny (wpAny_Name (wpAny_loadName_local hk kn ns mn (wpAny_Name (wpAny_loadName_local hk ks ns ms (set_plain X I hs h)) (by decide+kernel))) nd)) (by rfl)
theorem K4{p:Program}{loose:Ls}{mg mb:Str→Option Value}{body:List Stmt}{Q:Flow→Shared→Prop}{EE:Value→Shared→Prop}(E:K3 K prog C D f cc xy)(F:S6 K f cc xy d)(I:VT d en cc f xy x wv av m)(QQ:C≠D)(X:K.In s.heap)(T:TopRead p loose mg mb s.heap)(hx:s.heap.get? x=some (zC C tp none))(ns:s.heap.Ns en.locals m)
  (q:∀s' tp',Ch s s'→(∀b o,b≠x→s.heap.get? b=some o→s'.heap.get? b=some o)→s'.heap.get? x=some (zC C tp' none)→Q .next s'):
  PySem.wpAt (model prog w) A (.func body en) (exec d.sup en) Q EE s:=by
 obtain⟨cd,hcd,_,hmro⟩:=E.mro;obtain⟨_,_,vs,_,file,tf,hcda,hvs,hfile⟩:=E.code;obtain⟨_,_,_,hcc⟩:=E.cell;obtain⟨WR,hD⟩:=E.WQ;obtain⟨ar,har,har'⟩:=F.ar;obtain⟨oD,hD1,hD2⟩:=Js X hD;have hk:=I.fn F.kind;have hint:interactive en=false:=by unfold interactive;refine ER hk ?_;rfl
 have ksup:=I.kind F.super
 have kcls:=I.kind F.cls
 refine ks_wpAt_Expr_any ?_ hint (by rfl);refine ER (HV (by rfl) (by rfl) F.line) ?_;refine PySem.wpAt_bind (ks_wpAt_super_base (env:=en) ksup kcls (by decide+kernel) I.func (X _ _ F.obj) rfl har I.code (X _ _ hcda) rfl hvs hfile E.top ?_);refine ks_loadName_global hk ksup (loadGlobal_builtin (env:=en) (by rw[I.glob];exact T.g) (mg_none_of X T.g E.super) (by rw[I.blt];exact T.b) ((T.builtins _ (by decide+kernel)).trans (by kernel_rfl)) ⟨rfl,?_⟩);refine wpAny_loadName_free hk kcls (c:=cc) (by refine ER I.cells ?_;rfl) ⟨_,X _ _ hcc,rfl⟩ ?_;refine ER har' ?_;refine wpAny_loadName_local hk (I.kind F.self) ns I.self (ks_wpAny_isType_cls hD1 hD2 ⟨rfl,?_⟩);obtain⟨hp,g,dr,t,os⟩:=s;have Hx:mroIn K C (.ref D)=some true:=by unfold mroIn;refine ER (hcd ..) (ER (bind_some ..) (ER (hmro ..) ?_));simp
 have hexc:mroIn K C (.type "Exception")=some true:=by unfold mroIn;refine ER (hcd ..) (ER (bind_some ..) (ER (hmro ..) ?_));rfl
 refine ks_wpAny_call_super hD1 hD2 hx rfl (fun c e=>by contradiction) (looks_mroIn X Hx) (fun h2 P9 k2=>?_);have X2:=X.keeps k2;have hx2:=k2 _ _ hx;have WN:x≠C:=by
  rintro rfl;obtain⟨o,e,ed⟩:=Js X hcd;have:=e.symm.trans hx;injection this with this;subst this;contradiction
 obtain⟨c,I'⟩:=E.cls;refine PySem.wpAt_of_wpAny (wpAny_bind (wpAny_standAt (wpAny_bind (wpAny_holding ?_))));refine KZ P9 (looks_opaque X2 E.ZJ) (l₀:=cd.mro) ((looks_clsIn X2 hcd).andThen .now) (by rw[hmro];simp[QQ]) X2 E.along WN hx2 rfl (looks_mroIn X2 hexc) ?_;have k3:∀b o,hp.get? b=some o→(h2.push (sd x)).get? b=some o:=fun b o e=>get?_push_of_some _ (k2 _ _ e);have hmw:(h2.push (sd x)).get? h2.objs.size=some (sd x):=get?_push_size _ rfl;refine callWith_of (P:=fun hh=>hh.get? h2.objs.size=some (sd x)) rfl (fun hh hm=>⟨.machine,.inr (.inl rfl),K0 hm⟩) (evalArgs_plain (Calls.spliced_cons ?_));refine wpAny_Name (wpAny_loadName_local hk (I.kind F.K2) (ns.keeps k3) I.K2 (Calls.spliced_nil ⟨hmw,QP (k3 _ _ (X _ _ I'.at_)) I'.exc hmw (k3 _ _ hx) ?_⟩)) (by decide+kernel);exact q ⟨_,g,dr,_,os⟩ _ ⟨rfl,rfl,rfl⟩ (fun b o n e=>(get?_update_other _ _ (Ne.symm n)).trans (get?_push_of_some _ (k3 b o e))) (get?_update_self _ (get?_push_of_some _ (k3 _ _ hx)) rfl)
theorem NJ{p:Program}{loose:Ls}{mg mb:Str→Option Value}(E:K3 K prog C D f cc xy)(QQ:C≠D)(WS:K.lookup x=none)(X:K.In s.heap)(T:TopRead p loose mg mb s.heap)(WT:A.depth<recursionLimit)
  (hx:s.heap.get? x=some (zC C tp none))
  (q:∀s' dx tp' es n,Ch s s'→(∀b o,b≠x→s.heap.get? b=some o→s'.heap.get? b=some o)→s.heap.objs.size≤dx→s'.heap.get? x=some (zC C tp' (some dx))→s'.heap.get? dx=some (dictOf es n)→getL "at" es=some (some av)→R (.ok (.ret (.ref x))) s'):
  codeAny (model prog w) A (.call (.ref f) ⟨[.ref x,wv,av],[]⟩) (InitBack x R) s:=by
 obtain⟨cd,hcd,hdict,hmro⟩:=E.mro;obtain⟨d,F⟩:=E.fn;refine ks_codeAny_call_defAt (binds:=[("self",.ref x),("what",wv),("at",av)]) WT (X _ _ F.obj) rfl T.nolimit (codeRec_of X F.code) rfl (kp_binds X (F.bind _ _ _)) F.cell (fun y hy=>?_) (fun h₁ hns hk₁=>?_) F.co F.gen F.kind
 ·simp only[mem_cons,not_mem_nil,or_false]at hy;rcases hy with rfl|rfl|rfl
  ·exact F.self
  ·exact F.K2
  ·exact F.at_
 have I:VT d (callEnv (d.data cc xy) s.heap.objs.size f) cc f xy x wv av (fun y=>([("self",Value.ref x),("what",wv),("at",av)]:List (Str×Value)).reverse.lookup y):=⟨rfl,rfl,rfl,rfl,rfl,rfl,rfl,rfl,rfl⟩;have e2:(callEnv (d.data cc xy) s.heap.objs.size f).locals=s.heap.objs.size:=rfl;generalize callEnv (d.data cc xy) s.heap.objs.size f=en at I e2 ⊢;rw[←e2]at hns;generalize (fun y=>([("self",Value.ref x),("what",wv),("at",av)]:List (Str×Value)).reverse.lookup y)=m at hns I;have hLx:en.locals≠x:=by rw[e2];exact ne_of_gt (lt_size hx)
 have hk:=I.fn F.kind
 have C1:Ch s {heap:=h₁,gens:=s.gens,drawn:=s.drawn,toks:=s.toks+3,os:=s.os}:=⟨rfl,rfl,rfl⟩;generalize hs1:({heap:=h₁,gens:=s.gens,drawn:=s.drawn,toks:=s.toks+3,os:=s.os}:Shared)=s1 at C1;have eh:h₁=s1.heap:=by rw[←hs1]
 rw[eh]at hns hk₁;refine ks_wpAt_execs_cons (K4 E F I QQ (X.keeps hk₁) (T.keeps hk₁) (hk₁ _ _ hx) hns fun s2 tp2 C2 k2 hx2=>?_);have k2':∀b o,b≠x→s.heap.get? b=some o→s2.heap.get? b=some o:=fun b o n e=>k2 b o n (hk₁ b o e);have X2:=C6 X k2' WS;have ns2:=Jt hns k2 hLx;refine ks_wpAt_execs_cons (Ju hk (I.kind F.self) I.self (I.kind F.K2) I.K2 (by decide+kernel) ns2 X2 (od:=none) ⟨hx2,rfl,rfl,trivial⟩ E.Uy ?_);refine K1 (D:=D) (s:={s2 with toks:=s2.toks+1}) X2 hx2 hcd hdict hmro E.NI (fun h3 k3 hx3 hd3=>?_);have C3:Ch s2 {s2 with heap:=h3,toks:=s2.toks+1+1}:=⟨rfl,rfl,rfl⟩;generalize hs3:({s2 with heap:=h3,toks:=s2.toks+1+1}:Shared)=s3 at C3;have eh:h3=s3.heap:=by rw[←hs3]
 rw[eh]at k3 hx3 hd3;have k3':∀b o,b≠x→s.heap.get? b=some o→s3.heap.get? b=some o:=fun b o n e=>k3 b o n (k2' b o n e);refine ks_wpAt_execs_cons (Ju hk (I.kind F.self) I.self (I.kind F.at_) I.at_ (by decide+kernel) (Jt ns2 k3 hLx) (C6 X k3' WS) (od:=some _) ⟨hx3,rfl,rfl,hd3⟩ E.Uy ?_);refine NH (D:=D) (s:={s3 with toks:=s3.toks+1}) (r:=none) (C6 X k3' WS) hx3 hd3 hcd hdict hmro E.WO (by kernel_rfl) (succ_pos _) ?_;have e:=putName_dict "at" (keyHash w.params "at") (.str "at" (s3.toks+1)) av [⟨keyHash w.params "what",.str "what" (s2.toks+1),wv⟩] 1;have D':=get?_update_self (Obj.putName "at" (keyHash w.params "at") (.str "at" (s3.toks+1)) av) hd3 (by refine ER e ?_;rfl);rw[e]at D';have hxl:x<s2.heap.objs.size:=lt_size hx2;refine PySem.wpAt_of_wpAny (wpAny_execs_nil ⟨rfl,q ⟨_,s3.gens,s3.drawn,_,s3.os⟩ s2.heap.objs.size tp2 _ _ (C1.trans (C2.trans (C3.trans ⟨rfl,rfl,rfl⟩))) (fun b o n eb=>?_) ?_ ((get?_update_other _ _ (ne_of_gt hxl)).trans hx3) D' ?_⟩)
 ·refine(get?_update_other _ _ (ne_of_gt ?_)).trans (k3' b o n eb);exact lt_size (k2' b o n eb)
 ·have:=ns2.lt;rw[e2]at this;exact le_of_lt this
 ·rfl
end
end
inductive QR (vs:List V) (σ:LM) (Q:MQ V):Prop|mk (w:V) (x:P) (e:vs=[w,.p x]) (q:Q (.ref σ.length) (σ++[.exc x]))
def NK(vs:List V):M V:=fun σ Q U=>QR vs σ Q
section
variable {X:Fx}{B:Fz}{φ:AA}{σ:LM}{s:Shared}{en:Env}{r:Nat}{D f cc xy:Addr}
set_option tactic.hygienic true in
theorem NL{vs:List V}{vals:Lv}(E:K3 X.K X.prog fY D f cc xy)(QQ:fY≠D)(hf:typeIn X.K (.ref f)=some (.type "function"))(hR:Rel X B φ σ s)(hA:Hy X.A r)(hr:1≤r)(hV:oS B φ vals vs):E2 X B φ (.call (.ref fY) ⟨vals,[]⟩) (NK vs σ) s:=by
 rintro Q EE ⟨w,x,e,z⟩;subst e;cases hV with
 |cons hw hr'=>
 cases hr' with
 |cons hx hr'=>
 cases hr';rename_i wv av;obtain⟨p,loose,mg,mb,T⟩:=hR.gl.top;have X0:=hR.Ks;obtain⟨hp,g,d,t,os⟩:=s;obtain⟨c,I⟩:=E.cls;refine Nz X0 I E.init hf E.call E.typ (by rw[sizeLine_eq];exact bl rfl) ?_;have k:∀b o,hp.get? b=some o→((hp.push {cls:=.type "tuple",data:=.seq ([wv,av]:Lv).toArray}).push (zC fY hp.objs.size none)).get? b=some o:=fun b o e=>get?_push_of_some _ (get?_push_of_some _ e);have hz:((hp.push {cls:=.type "tuple",data:=.seq ([wv,av]:Lv).toArray}).push (zC fY hp.objs.size none)).objs.size=hp.objs.size+2:=by rw[size_push,size_push]
 have hget:((hp.push {cls:=.type "tuple",data:=.seq ([wv,av]:Lv).toArray}).push (zC fY hp.objs.size none)).get? (hp.objs.size+1)=some (zC fY hp.objs.size none):=by
  have:=get?_push_size (o:=zC fY hp.objs.size none) (hp.push {cls:=.type "tuple",data:=.seq ([wv,av]:Lv).toArray}) rfl
  rwa [size_push]at this
 show codeAny _ _ _ _ {heap:=(hp.push {cls:=.type "tuple",data:=.seq ([wv,av]:Lv).toArray}).push (zC fY hp.objs.size none),gens:=g,drawn:=d,toks:=t,os:=os};generalize (hp.push {cls:=.type "tuple",data:=.seq ([wv,av]:Lv).toArray}).push (zC fY hp.objs.size none)=h1 at k hz hget ⊢;have WS:X.K.lookup (hp.objs.size+1)=none:=by
  generalize q:X.K.lookup (hp.objs.size+1)=gg;induction gg with
  |none=>rfl
  |some o=>exact absurd (lt_size (X0 _ _ q)) (not_lt.mpr (le_succ _))
 refine NJ E QQ WS (X0.keeps k) ((T.keeps fun b o e=>hR.kB b o (hR.kH b o e)).keeps k) (by have:=hA.dp;show X.A.depth+1<1000;lia) hget (fun s' dx tp es n C k' hdx h1 h4 h5=>?_);obtain⟨h',g',d',t',os'⟩:=s';obtain⟨rfl,rfl,rfl⟩:=C;have kk:∀b o,hp.get? b=some o→h'.get? b=some o:=fun b o e=>k' b o (ne_of_lt (Nat.lt_succ_of_lt (lt_size e))) (k b o e);have hdx':hp.objs.size+2≤dx:=by rw[←hz];exact hdx
 have R':=hR.Hw (tk:=t') (ad:=(hp.objs.size+1,dx)) (o:=.exc x) kk ⟨le_succ _,le_trans (le_add_right _ 2) hdx'⟩ ⟨ne_of_lt (lt_of_lt_of_le (lt_succ_self _) hdx'),⟨_,h1,rfl,_,rfl⟩,es,n,av,h4,h5,hx⟩;refine⟨B,φ++[(hp.objs.size+1,dx)],_,.ref σ.length,R',Step.Hw kk,⟨(hp.objs.size+1,dx),?_,rfl⟩,z⟩;rw[←hR.len];simp
abbrev YS(Q:MQ V)(E:ME):MQ (List V):=fun vs σ=>NK vs σ Q E
def K5(cs:List (ai→M V)):ai→M V:=fun le σ Q E=>ow cs le σ (YS Q E) E
theorem Ev.exc{x:Str}{es:List Expr}{cs:List (ai→M V)}{p pos}(hE:EnOK X en r)(hr:1≤r)(hx:en.kindOf x=some .globalImplicit)(hk:nsIn X.K mainGlobals x=some (some (.ref fY)))(hd:(x ==("__debug__" :Str))=false)
  (E:K3 X.K X.prog fY D f cc xy) (QQ:fY≠D) (hf:typeIn X.K (.ref f)=some (.type "function")) (Wy:keepIn X.K (.ref fY)=true) (hp:cu es=true) (hs:vP X en es cs):Ev X en (.Call (.Name x p) es [] pos) (K5 cs):=by
 intro B φ σ le s hR L Q EE z;rw[arm_eval_Call_Name'];refine wpAny_bind (lB hE hR hx hk hd ?_);exact mP (first:=[]) (g:=NK) hs hp (keeps_K Wy) hR L (fun B' aP ah s' vs vals R' U V'=>(NL E QQ hf R' hE.room hr V').Qz) Q EE z
end
def NN(o1 o2:CmpOp)(a b c:ai→M V):ai→M Bool:=fun le σ Q E=>a le σ (fun x σ=>b le σ (fun y σ=>aF o1 σ x y fun t=>aT t (c le σ (fun w σ=>aF o2 σ y w fun z=>Q z σ) E) (Q false σ)) E) E
section
variable {X:Fx}{en:Env}{r:Nat}
theorem Tr.YT{o1 o2:CmpOp}{a b c:Expr}{ca cb cc:ai→M V}{pos}(hE:EnOK X en r)(h1:Ev X en a ca)(h2:Ev X en b cb)(h3:Ev X en c cc)(hm:behindInMarks o2 c=false):Tr X en (.Compare a [o1,o2] [b,c] pos) (NN o1 o2 ca cb cc):=by
 intro B φ σ le s hR hL;have e:isTrue (.Compare a [o1,o2] [b,c] pos) en (eval (.Compare a [o1,o2] [b,c] pos) en)=
  (eval a en >>=fun l=>holding [l] (eval b en) >>=fun rv=>standAt pos >>=fun U=>holding [l,rv] (compareOp o1 l rv) >>=fun z=>PySem.release [l,rv] [z] >>=fun U=>
   holding [z,rv] (truthy z) >>=fun t=>if t then(holding [rv] (markedBehindIn o2 c (eval c en)) >>=fun w=>standAt pos >>=fun U=>operate [rv,w] (compareOp o2 rv w) >>=fun z=>holding [z] (truthy z))else pure false):=by
  rw[arm_isTrue_Compare];rfl
 rw[e,markedBehindIn_of_false hm];refine(h1 B φ σ le s hR hL).bind fun x br xv aZ bA aS hR₁ hS₁ hV₁=>?_;refine(aE.holding (h2 bA aS br le aZ hR₁ (hL.step hS₁ hE.mem))).bind fun y dg yv s₂ B₂ φ₂ hR₂ hS₂ hV₂=>?_;intro Q E z;refine wpAny_bind (wpAny_standAt (wpAny_bind (wpAny_mono (aE.holding (yY (X:=X) hE hR₂ (hV₁.mono hS₂.bB hS₂.pre) hV₂) (fun v σ=>∃t,v= .p (.bool t)∧aT t (cc le σ (fun w σ=>aF o2 σ y w fun z=>Q z σ) E) (Q false σ)) E ?_) (fun zv s₃ ⟨B₃,φ₃,σ₃,zz,R₃,S₃,V₃,t,e,z⟩=>?_) fun U U q=>q)))
 ·obtain⟨x',y',t,e1,e2,e3,z⟩:=z;exact⟨x',y',t,e1,e2,e3,t,rfl,z⟩
 subst e;refine Is.I9 V₃ ?_;refine wpAny_bind (wpAny_release (wpAny_bind (wpAny_holding (wpAny_truthy_bool ?_))));induction t with
 |false=>exact wpAny_pure ⟨B₃,φ₃,σ₃,false,R₃,S₃,rfl,z.f rfl⟩
 |true=>
  refine wpAny_bind (wpAny_mono (aE.holding (h3 B₃ φ₃ σ₃ le s₃ R₃ (hL.step ((hS₁.trans hS₂).trans S₃) hE.mem)) _ _ (z.t rfl)) (fun wv s₄ hh=>hh.casesOn fun B₄ φ₄ σ₄ w R₄ S₄ V₄ z=>?_) fun U U q=>q.after S₃);have S':=S₃.trans S₄;refine wpAny_bind (wpAny_standAt (wpAny_bind (wpAny_mono (aE.operate (yY (X:=X) hE R₄ (hV₂.mono S'.bB S'.pre) V₄) (fun v σ=>∃t,v= .p (.bool t)∧Q t σ) E ?_) (fun zv s₅ ⟨B₅,φ₅,σ₅,zz,R₅,S₅,V₅,t,e,z⟩=>?_) fun U U q=>q.after S')))
  ·obtain⟨x',y',t,e1,e2,e3,z⟩:=z;exact⟨x',y',t,e1,e2,e3,t,rfl,z⟩
  subst e;refine Is.I9 V₅ ?_;exact wpAny_holding (wpAny_truthy_bool ⟨B₅,φ₅,σ₅,t,R₅,S'.trans S₅,rfl,z⟩)
end
section
variable {X:Fx}{s:Shared}
theorem zD{e:Addr}{o:Obj}{A:Around}{Q:Bool→Shared→Prop}{E:Value→Shared→Prop}(hK:X.K.In s.heap)(hb:mroIn X.K fY (.type "BaseException")=some true)(hs:mroIn X.K fY (.ref fY)=some true)(hy:peek X.K ⟨X.M.prog,X.M.w.params⟩ (isType (.ref fY))=some true)(ht:typeIn X.K (.ref fY)=some (.type "type"))
  (he:s.heap.get? e=some o) (hc:o.cls= .ref fY) (q:Q true s):wpAny X.M A (excMatches (.ref e) (.ref fY)) Q E s:=by
 have LT:Looks X.M s.heap (typeOf (.ref e)) (.ref fY):=by rw[←hc];exact(Looks.ld (part:=none) he).andThen .now
 have LC:Looks X.M s.heap (typeOf (.ref fY)) (.type "type"):=looks_typeIn hK ht;have LN:Looks X.M s.heap (isInstance (.ref fY) (.type "tuple")) false:=LC.andThen (Looks.of_pure tc_notTuple);have LB:Looks X.M s.heap (isSubtype (.ref fY) (.type "BaseException")) true:=looks_mroIn hK hb;have LS:Looks X.M s.heap (isSubtype (.ref fY) (.ref fY)) true:=looks_mroIn hK hs;unfold excMatches isExcClass;refine wpAny_bind (LN.here ?_);simp only[false_eq_true,if_false];refine wpAny_bind (wpAny_pure ?_);simp only[List.forIn_cons,List.forIn_nil];refine wpAny_bind (wpAny_bind (wpAny_bind (wpAny_bind ((Looks.of_peek hK hy:Looks X.M s.heap (isType (.ref fY)) true).here ?_))));simp only[if_true];refine LB.here ?_;simp only[Bool.not_true,false_eq_true,if_false];refine wpAny_pure (wpAny_pure (wpAny_bind (LT.here (wpAny_bind (wpAny_bind (wpAny_bind (LS.here ?_)))))));simp only[if_true];exact wpAny_pure (wpAny_pure (wpAny_pure q))
end
theorem Ba{α:Type}{p:α→Bool}(l:List α)(i:Nat)(h:∀e,l[i]?=some e→p e=false):(l.eraseIdx i).find? p=l.find? p:=by
 induction l generalizing i with
 |nil=>rfl
 |cons a l ih=>induction i with
  |zero=>
   show l.find? p=match p a with|true=>some a|false=>l.find? p
   rw[h a rfl]
  |succ i=>
   show(match p a with|true=>some a|false=>(l.eraseIdx i).find? p)=match p a with|true=>some a|false=>l.find? p
   rw[ih i h]
theorem nsFind_erase_other{es:Array DictEntry}(hk:StrKeys es){i:Nat}{name x:Str}(hi:es.findIdx? (·.key.isStr name)=some i)(hx:x≠name):nsFind (es.eraseIdxIfInBounds i) x=nsFind es x:=by
 obtain⟨l⟩:=es;rw[List.eraseIdxIfInBounds_toArray];unfold nsFind findBy;simp only[List.find?_toArray];rw[Ba];intro e he;rw[List.findIdx?_toArray,List.findIdx?_eq_some_iff_getElem]at hi;obtain⟨hl,hp,_⟩:=hi;rw[List.getElem?_eq_getElem hl]at he;obtain rfl:=Option.some.inj he;obtain⟨n,t,e⟩:=hk l[i] (by simp);rw[e]at hp ⊢;have hn:n=name:=eq_of_beq (show(n ==name)=true from hp);subst hn;show(n ==x)=false;rw[beq_eq_false_iff_ne];exact fun q=>hx q.symm
theorem Ft{M:Model}{A:Around}{E:Value→Shared→Prop}{s:Shared}{a:Addr}{m:Str→Option Value}{name:Str}{v:Value}{Q:Bool→Shared→Prop}(hn:s.heap.Ns a m)(hv:m name=some v)
  (hQ:∀h' m',h'.Ns a m'→(∀x,x≠name→m' x=m x)→Heap.SameBut a s.heap h'→Q true {s with heap:=h'}):wpAny M A (PySem.nsDel a name) Q E s:=by
 obtain⟨o,es,ep,ho,hd,hk,hm⟩:=id hn;obtain⟨cl,d,dt,sl⟩:=o;subst hd;have hany:es.any (·.refKey)=false:=Array.any_eq_false'.mpr fun e he=>by obtain⟨n,t,h⟩:=hk e he;simp[DictEntry.refKey,h]
 cases hi:es.findIdx? (·.key.isStr name)with
 |none=>
  have:=hm name
  unfold nsFind at this;rw[findBy_of_findIdx?,hi]at this;rw[hv]at this;contradiction
 |some i=>
  have hin:es.any (·.key.isStr name)=true:=by
   obtain⟨hl,hp,_⟩:=Array.findIdx?_eq_some_iff_getElem.mp hi;exact Array.any_eq_true.mpr ⟨i,hl,hp⟩
  have hhas:nsHas name ⟨cl,d,.dict es ep,sl⟩=pure true:=by rw[nsHas_eq];unfold nsHasByArray;simp only[hin,if_true]
  unfold PySem.nsDel;refine wpAny_bind (wpAny_loadPart ho ?_);rw[hhas];refine wpAny_bind (wpAny_pure ?_);rw[if_pos rfl];refine wpAny_bind (wpAny_updatePart ho (wpAny_pure ?_));refine hQ _ (nsFind (es.eraseIdxIfInBounds i)) ⟨_,_,ep+1,get?_update_self _ ho (by simp only[Obj.dropName_eq,Obj.dropNameByArray,hi];rfl),(by simp only[Obj.dropName_eq,Obj.dropNameByArray,hi]),hk.erase i,fun U=>rfl⟩ (fun x hx=>(nsFind_erase_other hk hi hx).trans (hm x)) (Heap.SameBut.update ..)
section
variable {X:Fx}{B:Fz}{φ:AA}{σ:LM}{s:Shared}{en:Env}{r:Nat}{le:ai}{n:Str}
theorem iw.other(hE:vQ X en r)(L:iw B φ en le s.heap){m m':Str→Option Value}{h':Heap}(hm:s.heap.Ns en.locals m)(hn:h'.Ns en.locals m')(hs:Heap.SameBut en.locals s.heap h')
  (hx:idOf n<ids.length) (hg:bW le (idOf n)=none) (ho:∀x,x≠n→m' x=m x):iw B φ en le h':=by
 refine⟨⟨⟨_,hn⟩,fun z w hz hi=>?_⟩,fun c hc=>?_⟩
 ·rcases L.loc.2 z w hz hi with ⟨k,m₁,mi,a,b,c⟩|⟨k,c,mi,a,b,d⟩
  ·have hzx:z≠n:=fun e=>by subst e;rw[hg]at hz;contradiction
   exact .inl ⟨k,_,mi,hn,by rw[ho z hzx,BK hm a];exact b,c⟩
  ·exact .inr ⟨k,c,mi,a,b.sameBut hs (hE.cells _ (mem_of_lookup a)),d⟩
 ·obtain⟨v',hv'⟩:=L.cells c hc;exact⟨v',hv'.sameBut hs (hE.cells c hc)⟩
theorem B0{A':Around}{val:Value}{Q:Unit→Shared→Prop}{E:Value→Shared→Prop}(hE:vQ X en r)(hR:Rel X B φ σ s)(L:iw B φ en le s.heap)(hk:en.kindOf n=some .local)
  (hx:idOf n<ids.length) (hg:bW le (idOf n)=none)
  (q:∀s' m,Rel X B φ σ s'→SStep X B φ s.heap B φ s'.heap→iw B φ en le s'.heap→s'.heap.Ns en.locals m→m n=some val→Heap.SameBut en.locals s.heap s'.heap→Q () s'):wpAny X.M A' (storeName en n val) Q E s:=by
 obtain⟨m,hm⟩:=L.loc.1;refine wpAny_storeName_local hk hm (fun h' hn hs=>?_) (by rw[hE.kind];rfl);exact q _ _ (hR.pw (tk:=s.toks+1) (fj hE) hs ⟨_,hn.choose_spec.choose_spec.choose_spec.1⟩ fun U U=>⟨_,hn⟩) (SStep.pw hs fun e he L' hL'=>(hE.apart e he L' hL').1) (L.other hE hm hn hs hx hg fun x h=>if_neg h) hn (if_pos rfl) hs
theorem name_goes{A':Around}{pos:Pos}{Q:Unit→Shared→Prop}{E:Value→Shared→Prop}(hE:vQ X en r)(hR:Rel X B φ σ s)(L:iw B φ en le s.heap)(hk:en.kindOf n=some .local)
  (hx:idOf n<ids.length) (hg:bW le (idOf n)=none)
  (q:∀s',Rel X B φ σ s'→SStep X B φ s.heap B φ s'.heap→iw B φ en le s'.heap→Q () s'):wpAny X.M A' (do bindName en n .none;unbindBehindTheSuite en n pos) Q E s:=by
 refine wpAny_bind (wpAny_bindName (B0 hE hR L hk hx hg fun aZ m gh fZ L₁ hm hv U=>?_));unfold unbindBehindTheSuite;refine wpAny_onRaise ?_;unfold unbindName;refine wpAny_bind (wpAny_point (wpAny_bind ?_));unfold deleteName;have hp:(en.scope.kind == .class || (en.scope.kind == .module&&en.locals !=en.globals))=false:=by rw[hE.kind];rfl
 simp only[hk,hp];rw[if_neg (by decide)];refine wpAny_bind (Ft hm hv fun h₂ m₂ hn₂ ho hs₂=>?_);simp only[if_true,Bool.not_true,false_eq_true,if_false];exact wpAny_pure (wpAny_point (q _ (gh.pw (tk:=aZ.toks) (fj hE) hs₂ ⟨_,hn₂.choose_spec.choose_spec.choose_spec.1⟩ fun U U=>⟨_,hn₂⟩) (fZ.trans (SStep.pw hs₂ fun e he L' hL'=>(hE.apart e he L' hL').1)) (L₁.other hE hm hn₂ hs₂ hx hg ho)))
end
section
variable {prog:Program}{w:World}{A:Around}{E:Value→Shared→Prop}{s:Shared}{K:Frag}{x C:Addr}{ox:Obj}{od:Option Obj}{name:Str}{expr:Bool}{Q:Value→Shared→Prop}
theorem NO{v:Value}(X:K.In s.heap)(I:InstAt s.heap x ox C od)(hga:findIn K (.ref C) "__getattribute__" =some (some (.builtin "BaseException.__getattribute__")))(hgt:findIn K (.ref C) "__getattr__" =some none)
  (hb:mroIn K C (.type "BaseException")=some true) (hf:findObj K C od name=some (.value v)) (hh:handedIn v=true) (q:Q v {s with toks:=s.toks+1}):wpAny (model prog w) A (getAttr (.ref x) name expr) Q E s:=by
 obtain⟨hp,g,d,t,os⟩:=s;have L0:=I.type (M:=model prog w);have L1:=looks_findIn (M:=model prog w) X hga;have L2:=looks_findIn (M:=model prog w) X hgt;have LB:Looks (model prog w) hp (isInstance (.ref x) (.type "BaseException")) true:=L0.andThen (looks_mroIn X hb);unfold getAttr getAttrBy;refine wpAny_bind (wpAny_mkText (wpAny_holding (wpAny_bind (L0.at (wpAny_bind (L1.at ?_))))));have hx2:(Value.builtin "BaseException.__getattribute__" ==Value.builtin "object.__getattribute__")=false:=by decide+kernel
 dsimp only;refine ER (hx2 ..) (ER (Bool.and_false ..) (ER (if_neg (by decide) ..) ?_));unfold getAttrByItsOwn hookBefore callGetattribute boundAndCalled;have hx0:(expr&&onTheHeap (Value.builtin "BaseException.__getattribute__"))=false:=by induction expr<;>rfl
 refine ER hx0 (ER (if_pos (show onTheHeap (.ref C)=true from rfl)) (ER (if_neg (show ¬(false=true) from by decide)) ?_));refine wpAny_bind (L2.at (wpAny_bind (wpAny_attempt (wpAny_holding ?_))));refine wpAny_bind (wpAny_of_eq (PySem.F.excAttr_ValueError.ga.bind (.ref x)) ?_);refine wpAny_mono (Q:=fun v' s'=>v'=v∧s'=⟨hp,g,d,t+1,os⟩) (E:=fun U U=>False) ?_ (fun v' s' hv=>?_) fun U U z=>z.elim
 ·refine wpAny_call (codeAny_call_builtin PySem.F.excAttr_ValueError.ga.plain PySem.F.entry_bexc_ga (check_slot (i:= "BaseException.__getattribute__") (owner:= "BaseException") (n:= "__getattribute__") (by decide+kernel) (by decide+kernel) LB (PySem.F.args_bexc_ga _ _) ?_));unfold Builtin.«object.__getattribute__»;refine wpAny_bind (wpAny_pure ?_);refine wpAny_bind (wpAny_pure ?_);refine wpAny_bind (L0.at (wpAny_bind ((looks_find (M:=model prog w) X I hf).at ?_)));exact wpAny_pure ⟨rfl,rfl⟩
 ·obtain⟨rfl,rfl⟩:=hv;show wpAny _ _ (handedOut v') _ _ _;refine ER (handedOut_of hh) ?_;exact wpAny_pure q
end
section
set_option backward.match.sparseCases true
section
variable {X:Fx}{B:Fz}{φ:AA}{σ:LM}{s:Shared}{en:Env}{r:Nat}{le:ai}
theorem B3{A':Around}{x:Str}{v:V}{val:Value}{Q:Unit→Shared→Prop}{E:Value→Shared→Prop}(hE:vQ X en r)(hR:Rel X B φ σ s)(L:iw B φ en le s.heap)(hV:dM B φ val v)
  (hk:en.kindOf x=some .local) (hx:idOf x<ids.length)
  (q:∀s',Rel X B φ σ s'→SStep X B φ s.heap B φ s'.heap→iw B φ en (bx le (idOf x) v) s'.heap→Q () s'):wpAny X.M A' (storeName en x val) Q E s:=by
 obtain⟨m,hm⟩:=L.loc.1;refine wpAny_storeName_local hk hm (fun h' hn hs=>?_) (by refine ER hE.kind ?_;rfl);exact q _ (hR.pw (tk:=s.toks+1) (fj hE) hs ⟨_,hn.choose_spec.choose_spec.choose_spec.1⟩ fun U U=>⟨_,hn⟩) (SStep.pw hs fun e he L' hL'=>(hE.apart e he L' hL').1)
  ⟨L.loc.store hm hn hs hk hx hE.cells hV,fun c hc=>(L.cells c hc).casesOn fun v' hv'=>⟨v',hv'.sameBut hs (hE.cells c hc)⟩⟩
theorem yg{A':Around}{x:Str}{val:Value}{Q:Value→Shared→Prop}{E}(hE:EnOK X en r)(hR:Rel X B φ σ s)(hx:en.kindOf x=some .globalImplicit)(e:nsIn X.K mainGlobals x=some (some val))(hd:(x ==("__debug__" :Str))=false){pos}(q:Q val s):
  wpAny X.M A' (eval (.Name x pos) en) Q E s:=by
 refine hide fun gG kK=>?_;obtain⟨p,loose,mg,mb,T⟩:=hR.gl.top;refine kK ?_;exact Name_function_global hE.kind hx (loadGlobal_global ((by rw[hE.Qq];exact T.g.keeps fun b o z=>hR.kB b o (hR.kH b o z)):s.heap.Ns en.globals mg) (mg_of hR.gl.K T.g e) q) hd
structure HW (X:Fx):Prop where
 base:mroIn X.K fY (.type "BaseException")=some true
 self:mroIn X.K fY (.ref fY)=some true
 cls:peek X.K ⟨X.M.prog,X.M.w.params⟩ (isType (.ref fY))=some true
 typ:typeIn X.K (.ref fY)=some (.type "type")
 ga:findIn X.K (.ref fY) "__getattribute__" =some (some (.builtin "BaseException.__getattribute__"))
 gt:findIn X.K (.ref fY) "__getattr__" =some none
 HK:hasDictIn X.K fY=true
 at_:findIn X.K (.ref fY) "at" =some none
theorem K6{Q:MQ Out}{y n z:Str}{py pz pn pat Qc ph:Pos}{p:P}{e:Addr}{E:Value→Shared→Prop}(hE:vQ X en r)(CK:HW X)(hR:Rel X B φ σ s)(L:iw B φ en le s.heap)(x:Exc X B φ σ s.heap p e)
  (VS:en.kindOf y=some .local) (hy:idOf y<ids.length) (WU:en.kindOf n=some .local) (hn:idOf n<ids.length) (YU:idOf n≠idOf y) (hg:bW le (idOf n)=none) (VP:(n ==("__debug__" :Str))=false)
  (YV:en.kindOf z=some .globalImplicit) (hz:nsIn X.K mainGlobals z=some (some (.ref fY))) (YW:(z ==("__debug__" :Str))=false) (z':Q (.next (bx le (idOf y) (.p p))) σ):
  wpAny X.M X.A (handleBy (.ref e) en [.ExceptHandler (some (.Name z pz)) (some n) [.Assign [.Name y py] (.Attribute (.Name n pn) "at" pat) Qc] ph])
   (QS X B φ s.heap (RO en) Q) E s:=by
 refine wpAny_handleBy_cons (codeAny_handlers_test (yg hE.toEnOK hR YV hz YW ?_)) (by intro q;contradiction);obtain⟨dx0,vs0,he0,_⟩:=x.obj;refine zD hR.Ks CK.base CK.self CK.cls CK.typ he0 rfl ?_;refine codeAny_handlers_suite_as ?_;refine gH (X:=X.at_ (X.A.mark (some (.ref e)))) (hR.around _) (Exc.move (X:=X) rfl rfl x) fun aZ gh fZ x₁=>?_;replace gh:=gh.gk;replace fZ:=fZ.gk;replace x₁:=x₁.gk;have L₁:=L.step fZ hE.mem;refine B0 hE gh L₁ WU hn hg fun s₂ m R₂ S₂ L₂ hm hv sb=>?_;refine hide fun gG kK=>?_;obtain⟨dx,vs,he,ha0,dG,⟨es,nn,v,hd,⟨hat,hI⟩⟩,hfree,_⟩:=x₁.obj;refine kK ?_;have lp:=fj hE;have he₂:s₂.heap.get? e=_:=(sb.2 e fun q=>(hfree e (.inl rfl)).2.2.1 (q▸lp)).trans he;have hd₂:s₂.heap.get? dx=_:=(sb.2 dx fun q=>(hfree dx (.inr rfl)).2.2.1 (q▸lp)).trans hd;have I₂:InstAt s₂.heap e ⟨.ref fY,some dx,.fields vs,#[]⟩ fY (some (dictOf es nn)):=⟨he₂,rfl,rfl,hd₂⟩;have hVp:dM B φ v (.p p):=hI;have q1:∀(st:Stmt),execs [st] en=(exec st en >>=fun f=>match f with| .next=>execs [] en|f=>Pure.pure f):=fun U=>rfl;refine ER (q1 ..) (ER (exec_Assign_Name _ _ _ _ _ (jY rfl _ _) ..) ?_);refine wpAny_bind (wpAny_bind (wpAny_standAt (wpAny_bind ?_)));refine ER (arm_eval_Attribute ..) (ER (iq rfl ..) ?_);refine wpAny_bind (wpAny_Name (wpAny_loadName_local hE.kind WU hm hv ?_) VP);refine wpAny_bind (wpAny_standAt (wpAny_bind (wpAny_holding (NO R₂.Ks I₂ CK.ga CK.gt CK.base (findObj_own (K:=X.K) (C:=fY) (name:=Str.ofString "at") (od:=dictOf es nn) (attr:=Option.none) CK.HK CK.at_ rfl (by refine ER (lookIn_dict ..) ?_;exact hat)) hVp.handed (wpAny_bind (wpAny_letTemporaryGo (wpAny_pure ?_)))))));have R₃:Rel X B φ σ {s₂ with toks:=s₂.toks+1}:=R₂.pw (tk:=s₂.toks+1) (h':=s₂.heap) lp (.refl ..) ⟨_,hm.choose_spec.choose_spec.choose_spec.1⟩ fun U U=>⟨_,hm⟩;refine wpAny_bind (wpAny_standAt (wpAny_bind (wpAny_bindName (B3 hE R₃ L₂ hVp VS hy fun s₄ R₄ S₄ L₄=>wpAny_pure ?_))));refine wpAny_pure ?_;refine name_goes hE R₄ L₄ WU hn (by refine ER (qM ..) (ER (if_neg (Ne.symm YU) ..) ?_);exact hg) fun s₅ R₅ S₅ L₅=>?_;exact⟨B,φ,σ,Out.next _,R₅,((fZ.toS.trans S₂).trans S₄).trans S₅,⟨rfl,L₅⟩,z'⟩
def HX(x y n:Nat)(c:ai→M V):ai→M Out:=fun le σ Q U=>bW le n=none∧c le σ (fun v ah=>Q (.next (bx le x v)) ah) (fun p ah=>Q (.next (bx le y (.p p))) ah)
theorem Ex.WV{f:Expr}{c:ai→M V}{x y n z:Str}{px pa py pz pn pat Qc ph pos:Pos}(hE:vQ X en r)(CK:HW X)(h:Ev X en f c)(YX:iy f=true)
  (hkx:en.kindOf x=some .local) (hx:idOf x<ids.length)
  (VS:en.kindOf y=some .local) (hy:idOf y<ids.length) (WU:en.kindOf n=some .local) (hn:idOf n<ids.length) (YU:idOf n≠idOf y) (VP:(n ==("__debug__" :Str))=false)
  (YV:en.kindOf z=some .globalImplicit) (hz:nsIn X.K mainGlobals z=some (some (.ref fY))) (YW:(z ==("__debug__" :Str))=false):
  Ex X en (exec (.Try [.Assign [.Name x px] f pa] [.ExceptHandler (some (.Name z pz)) (some n) [.Assign [.Name y py] (.Attribute (.Name n pn) "at" pat) Qc] ph] [] [] pos) en) (HX (idOf x) (idOf y) (idOf n) c):=by
 rintro B φ σ le s hR L Q E ⟨hg,z⟩;refine wpAny_Try_except ?_;have q1:∀(st:Stmt),execs [st] en=(exec st en >>=fun f=>match f with| .next=>execs [] en|f=>Pure.pure f):=fun U=>rfl;refine ER (q1 ..) (ER (exec_Assign_Name _ _ _ _ _ (jY YX _ _) ..) ?_);refine wpAny_bind (wpAny_bind (wpAny_standAt (wpAny_bind (wpAny_mono (h B φ σ le s hR L.loc _ _ z) (fun val aZ hh=>hh.casesOn fun bA aS br v gh fZ V₁ z=>?_) fun ev aZ hh=>hh.casesOn fun bA aS br e p he gh fZ x₁ z=>?_))))
 ·refine wpAny_bind (wpAny_standAt (wpAny_bind (wpAny_bindName (B3 hE gh (L.step fZ hE.mem) V₁ hkx hx fun s₂ R₂ S₂ L₂=>wpAny_pure ?_))));exact wpAny_pure (wpAny_pure ⟨bA,aS,br,Out.next _,R₂,fZ.toS.trans S₂,⟨rfl,L₂⟩,z⟩)
 ·subst he;have L₁:=L.step fZ hE.mem;refine wpAny_mono (qR gh hE.MP hE.frame ((by refine EL hE.code ?_;exact hE.frame):X.outer.head?.bind (·.frame)=some en.locals) x₁) (fun U s₂ q=>?_) fun U U z=>z;obtain⟨R₂,S₂,x₂,_⟩:=q;refine gH R₂ x₂ fun s₃ R₃ S₃ x₃=>?_;have L₃:=(L₁.step S₂ hE.mem).step S₃ hE.mem;exact wpAny_mono (K6 hE CK R₃ L₃ x₃ VS hy WU hn YU hg VP YV hz YW z) (fun f s₄ q=>q.after ((fZ.trans S₂).trans S₃).toS) fun U U z=>z
end
end
inductive WW (k1 v1 k2 v2:Str) (i:V) (Q:V→Prop):Prop
 |a (e:i= .p (.str k1)) (q:Q (.p (.str v1)))
 |b (e:i= .p (.str k2)) (q:Q (.p (.str v2)))
def Fv(k1 v1 k2 v2:Str)(c:ai→M V):ai→M V:=fun le σ Q E=>c le σ (fun i σ=>WW k1 v1 k2 v2 i fun v=>Q v σ) E
section
variable {X:Fx}{en:Env}{r:Nat}
abbrev RD(X:Fx)(k1 v1 k2 v2:Str):Fz→AA→Heap→Value→Unit→Prop:=fun B U U val U=>
 ∃d o t1 t2,val= .ref d∧B d=some o∧∀h':Heap,h'.get? d=some o→h'.DictOf (PySem.strKind X.prog X.w) d [(k1,.str v1 t1),(k2,.str v2 t2)]
theorem HY{B φ σ s}{k1 v1 k2 v2:Str}{a1 a2 b1 b2:Nat}{p1 p2 p3 p4 pos:Pos}(hR:Rel X B φ σ s)(dG:k1≠k2):
  aE X B φ (RD X k1 v1 k2 v2) (eval (.Dict [some (.Constant (.str k1) a1 p1),some (.Constant (.str k2) a2 p2)] [.Constant (.str v1) b1 p3,.Constant (.str v2) b2 p4] pos) en) (fun Q U=>Q () σ) s:=fun Q E z=>by
 refine wpAny_Dict_walk (knd:=PySem.strKind X.prog X.w) rfl rfl (by simp) (bl rfl) ?_;refine pairTrees_cons_walk (wpAny_Constant_str (wpAny_Constant_str (pairTrees_cons_walk (wpAny_Constant_str (wpAny_Constant_str (pairTrees_nil_walk ?_))))));have iso:∀(x:Str) t,Value.isStrOf x (.str x t)=true:=fun x t=>decide_eq_true rfl;refine⟨[(k1,.str v1 (s.toks+1)),(k2,.str v2 (s.toks+1+1+1))],⟨iso _ s.toks,rfl,iso _ (s.toks+1+1),rfl,trivial⟩,Heap.DictOf.new _,fun h' hD hs=>?_⟩;have hm:merged [] [(k1,Value.str v1 (s.toks+1)),(k2,Value.str v2 (s.toks+1+1+1))]=[(k1,Value.str v1 (s.toks+1)),(k2,Value.str v2 (s.toks+1+1+1))]:=by simp[merged,stored,dG]
 rw[hm]at hD;obtain⟨o,es,ep,ho,rest⟩:=hD;have k:∀b x,s.heap.get? b=some x→h'.get? b=some x:=fun b x e=>
  (hs.2 b (ne_of_lt (lt_size e))).trans (get?_push_of_some _ e)
 exact⟨_,φ,σ,(),hR.yR k (le_refl _) ho,Step.yR hR k (le_refl _),⟨_,o,_,_,rfl,by unfold jb;simp,fun CL e=>⟨o,es,ep,e,rest⟩⟩,z⟩
theorem Ev.pick{k1 v1 k2 v2:Str}{a1 a2 b1 b2:Nat}{p1 p2 p3 p4 p5 pos:Pos}{b:Expr}{cb:ai→M V}(hE:EnOK X en r)(dG:k1≠k2)(ok1:PyData.strOk v1=true)(ok2:PyData.strOk v2=true)(hn:iQ b=true)(hb:Ev X en b cb):
  Ev X en (.Subscript (.Dict [some (.Constant (.str k1) a1 p1),some (.Constant (.str k2) a2 p2)] [.Constant (.str v1) b1 p3,.Constant (.str v2) b2 p4] p5) b pos) (Fv k1 v1 k2 v2 cb):=by
 intro B φ σ le s hR hL;generalize hdx:(.Dict [some (.Constant (.str k1) a1 p1),some (.Constant (.str k2) a2 p2)] [.Constant (.str v1) b1 p3,.Constant (.str v2) b2 p4] p5:Expr)=a;have q:eval (.Subscript a b pos) en=(eval a en >>=fun o=>holding [o] (eval b en) >>=fun i=>standAt pos >>=fun U=>(do subscripted b (←getitemInPython o) o i) >>=fun r=>letTemporaryGo a o r >>=fun U=>pure r):=by rw[arm_eval_Subscript];simp only[bind_assoc]
 refine ER q ?_;refine(hdx▸HY hR dG:aE X B φ (RD X k1 v1 k2 v2) (eval a en) (fun Q U=>Q () σ) s).bind (f:=fun U σ=>Fv k1 v1 k2 v2 cb le σ) fun U br val aZ bA aS hR₁ hS₁ hV₁=>?_;obtain⟨d,o,t1,t2,rfl,hB,hD⟩:=hV₁;refine(aE.holding (hb bA aS br le aZ hR₁ (hL.step hS₁ hE.mem))).bind fun i dg iv s₂ B₂ φ₂ hR₂ hS₂ hV₂=>aE.standAt ?_;have D₂:=hD s₂.heap (hR₂.kB _ _ (hS₂.bB _ _ hB));have fin:∀{x y:Str} {t t':Tok},iv= .str x t→valueAt [(k1,Value.str v1 t1),(k2,Value.str v2 t2)] x=some (.str y t')→PyData.strOk y=true→
   aE X B₂ φ₂ RV ((do subscripted b (←getitemInPython (.ref d)) (.ref d) iv) >>=fun r=>letTemporaryGo a (.ref d) r >>=fun U=>pure r) (fun Q U=>Q (.p (.str y)) dg) s₂:=by
  intro x y t t' e1 e2 e3;refine aE.cC (val:=.str y t') (tk:=s₂.toks+1) hR₂ (fun Q E q=>?_) (.str y t' e3);refine wpAny_bind (uE (T:= "dict") D₂.typeIs slot_dict_getitem.lookup ?_);refine ER (pq hn ..) ?_;refine wpAny_operating (wpAny_getItem_of (k:=x) (knd:=PySem.strKind X.prog X.w) ?_ D₂.mapOf e2 (wpAny_bind (wpAny_letTemporaryGo (wpAny_pure q))));refine ER e1 ?_;show Value.isStrOf x (.str x t)=true;exact decide_eq_true rfl
 intro Q E z;rcases z with ⟨e,z⟩|⟨e,z⟩<;>subst e<;>cases hV₂
 ·exact fin (x:=k1) (t':=t1) rfl (by simp[valueAt]) ok1 Q E z
 ·exact fin (x:=k2) (t':=t2) rfl (by simp[valueAt,dG]) ok2 Q E z
end
noncomputable def zE(f:Value→Option P):Lv→Option (Lp)
 |[]=>some []
 |v::vs=>(f v).bind fun x=>(zE f vs).bind fun l=>some (x::l)
noncomputable def NP:Value→Option P
 | .none=>some .none
 | .bool b=>some (.bool b)
 | .int i _=>some (.int i)
 | .str x _=>if PyData.strOk x=true then some (.str x)else none
 |_=>none
def WX(f:Value→Option P)(t:String)(vs:Lv):Option P:=(zE f vs).bind fun l=>if t= "tuple" then some (.tup l)else if t= "list" then some (.list l)else none
def WY(f:Value→Option P):Obj→Option P
 |⟨.type t,none,.seq vs _,sl⟩=>if sl.size=0 then WX f t vs.toList else none
 |_=>none
noncomputable def refOf:Value→Option Addr
 | .ref a=>some a
 |_=>none
noncomputable def Jv(K:Frag):Nat→Value→Option P
 |0,v=>NP v
 |n+1,v=>match refOf v with
  |some a=>(K.lookup a).bind (WY (Jv K n))
  |none=>NP v
theorem Fw{B:Fz}{f:Value→Option P}(hf:∀v p,f v=some p→Is B v p):∀{vs:Lv} {l:Lp},zE f vs=some l→aG B vs l:=by
 intro rv;induction rv with
 |nil=>exact fun {U} h=>by injection h with h;subst h;exact .nil
 |cons v vs ih=>
  intro U h;obtain⟨x,h1,h⟩:=bind_eq_some_iff.mp h;obtain⟨l,h2,h⟩:=bind_eq_some_iff.mp h;obtain rfl:=Option.some.inj h;exact .cons (hf v x h1) (ih h2)
theorem Fy{B:Fz}{v:Value}{p:P}(h:NP v=some p):Is B v p:=by
 induction v with
 |none=>obtain rfl:=Option.some.inj h;exact .none
 |bool b=>injection h with h;subst h;exact .bool b
 |int i t=>injection h with h;subst h;exact .int i t
 |str x t=>
  have h:(if PyData.strOk x=true then some (P.str x)else none)=some p:=h;by_cases e:PyData.strOk x=true
  ·rw[if_pos e]at h;injection h with h;subst h;exact .str x t e
  ·rw[if_neg e]at h;contradiction
 |_=>contradiction
theorem QT{B:Fz}{f:Value→Option P}(hf:∀v p,f v=some p→Is B v p){a:Addr}{o:Obj}{p:P}(hb:B a=some o)(h:WY f o=some p):Is B (.ref a) p:=by
 obtain⟨cl,dd,dt,sl⟩:=o;induction cl with
 |type t=>induction dd with
  |some=>contradiction
  |none=>induction dt with
   |seq vs m=>
    have h:(if sl.size=0 then WX f t vs.toList else none)=some p:=h;by_cases hz:sl.size=0
    ·replace h:=(if_pos hz)▸h;have hsl:sl=#[]:=Array.size_eq_zero_iff.mp hz;subst hsl;obtain⟨l,h2,h5⟩:=bind_eq_some_iff.mp h;have hA:=Fw hf h2;by_cases e:t= "tuple"
     ·replace h5:=(if_pos e)▸h5;subst e;injection h5 with h5;subst h5;exact .tup (vs:=vs.toList) (n:=m) (by simpa using hb) hA
     ·rw[if_neg e]at h5;by_cases e':t= "list"
      ·replace h5:=(if_pos e')▸h5;subst e';injection h5 with h5;subst h5;exact .list (vs:=vs.toList) (n:=m) (by simpa using hb) hA
      ·rw[if_neg e']at h5;contradiction
    ·rw[if_neg hz]at h;contradiction
   |_=>contradiction
 |_=>contradiction
theorem NQ{K:Frag}{B:Fz}(hB:∀b o,K.lookup b=some o→B b=some o):∀(n:Nat) (v:Value) (p:P),Jv K n v=some p→Is B v p:=by
 intro n;induction n with
 |zero=>exact fun v p h=>Fy h
 |succ n ih=>
  intro v p h;induction v with
  |ref a=>
   obtain⟨o,h1,h2⟩:=bind_eq_some_iff.mp h;exact QT ih (hB _ _ h1) h2
  |_=>exact Fy h
section
variable {X:Fx}{en:Env}{r:Nat}
theorem Ev.fixed{x:Str}{pos}{val:Value}{p:P}{n:Nat}(hE:EnOK X en r)(hK:X.K.In X.H0)(hx:en.kindOf x=some .globalImplicit)(e:nsIn X.K mainGlobals x=some (some val))(hp:Jv X.K n val=some p)(hd:(x ==("__debug__" :Str))=false):
  Ev X en (.Name x pos) (cP p):=
 Ev.glob hE hx e (fun U k=>NQ (fun b o z=>k b o (hK b o z)) n val p hp) hd
end
noncomputable section
abbrev F:=List V→M V
abbrev CV:=ai→M V
structure Tab where
 fns:List (Nat×F):=[]
 cls:List (Nat×(Nat×F)):=[]
 YY:List ((Nat×Nat)×F):=[]
noncomputable def Tab.mt(T:Tab):E6:=fun c n=>T.YY.lookup (c,n)
structure Ctx where
 K:Frag
 sc:Scope
 k0:Nat
 T:Tab
 top:Bool
 turns:Ls
def xA(x:Str):Bool:=decide (idOf x<ids.length)
noncomputable def sS(x:Str):Bool:= !(x ==("__debug__" :Str))&&!(x ==("__classdict__" :Str))
noncomputable def NR(sc:Scope)(x:Str)(k:NameKind):Bool:=decide (sc.names.lookup x=some k)
def nT(sc:Scope)(x:Str):Bool:=NR sc x .local&&xA x
def ownName(sc:Scope)(x:Str):Bool:=(NR sc x .local || NR sc x .cell)&&xA x
def qU(sc:Scope)(x:Str):Bool:=NR sc x .globalImplicit
structure KD (K:Frag):Prop where
 exc:∃D f cc xy,(∀p,Ja p→K3 K p fY D f cc xy)∧fY≠D∧typeIn K (.ref f)=some (.type "function")
 keep:keepIn K (.ref fY)=true
 base:mroIn K fY (.type "BaseException")=some true
 self:mroIn K fY (.ref fY)=some true
 cls:∀p P,peek K ⟨p,P⟩ (isType (.ref fY))=some true
 typ:typeIn K (.ref fY)=some (.type "type")
 ga:findIn K (.ref fY) "__getattribute__" =some (some (.builtin "BaseException.__getattribute__"))
 gt:findIn K (.ref fY) "__getattr__" =some none
 HK:hasDictIn K fY=true
 at_:findIn K (.ref fY) "at" =some none
structure YZ (K:Frag) (H0:Heap) (need:Nat) (a:Nat) (f:F):Prop where
 call:gQ K H0 (.ref a) need f
 keep:keepIn K (.ref a)=true
structure WZ (K:Frag) (H0:Heap) (need:Nat) (C:Nat) (g:Nat×F):Prop where
 makes:makesIn K C=true
 init:findIn K (.ref C) "__init__" =some (some (.ref g.1))
 typ:typeIn K (.ref g.1)=some (.type "function")
 keep:keepIn K (.ref C)=true
 call:gQ K H0 (.ref g.1) need g.2
structure dh (K:Frag) (H0:Heap) (need:Nat) (T:Tab):Prop where
 fn:∀a f,T.fns.lookup a=some f→YZ K H0 need a f
 cls:∀C g,T.cls.lookup C=some g→WZ K H0 need C g
 mt:Wz K H0 need T.mt
structure C7 (C:Ctx) (X:Fx) (en:Env) (r:Nat):Prop where
 eo:EnOK X en r
 sc:en.scope=C.sc
 K:X.K=C.K
 k0:X.k0≤C.k0
 tab:∃need,dh X.K X.H0 need C.T∧need+1≤r
 kd:KD X.K
 cell:C.top=true→∀x,en.kindOf x=some .cell→∃c,en.cells.lookup x=some c
section
variable {X:Fx}{en:Env}{r:Nat}{C:Ctx}
theorem pC{sc:Scope}{x:Str}{k:NameKind}(h:NR sc x k=true):sc.names.lookup x=some k:=of_decide_eq_true h
theorem C7.kind(h:C7 C X en r){x:Str}{k:NameKind}(g:NR C.sc x k=true):en.kindOf x=some k:=(congrArg (fun s:Scope=>s.names.lookup x) h.sc).trans (pC g)
theorem bY{a b:Bool}(h:(a&&b)=true):a=true:=(and_eq_true_iff.mp h).1
theorem aH{a b:Bool}(h:(a&&b)=true):b=true:=(and_eq_true_iff.mp h).2
theorem NT{a:Bool}(h:(!a)=true):a=false:=by simpa using h
theorem fm{x:Str}(h:xA x=true):idOf x<ids.length:=of_decide_eq_true h
theorem C7.own(h:C7 C X en r){x:Str}(g:ownName C.sc x=true):BN en x:=⟨(or_eq_true_iff.mp (bY g)).imp h.kind h.kind,fm (aH g)⟩
theorem FA{x:Str}(h:sS x=true):(x ==("__debug__" :Str))=false:=not_eq_true' .. |>.mp (bY h)
theorem Y0{x:Str}(h:sS x=true):(x ==("__classdict__" :Str))=false:=not_eq_true' .. |>.mp (aH h)
end
noncomputable def fq{α:Type}(b:Bool)(k:b=true→Option α):Option α:=if h:b=true then k h else none
@[elab_as_elim] def S7 {m:Stmt→Sort u} (s:Stmt) (f:∀t e p,m (.Assign [t] e p)) (g:∀s,m s):m s:=by
 apply @Stmt.casesOn m s<;>intros<;>first|(exact List.casesOn (motive:=fun ts=>m (.Assign ts _ _)) _ (g _) fun t ts=>List.casesOn (motive:=fun ts=>m (.Assign (t::ts) _ _)) ts (f t _ _) fun t' ts=>g _)|exact g _
abbrev SE(C:Ctx)(e:Expr):={c:CV // ∀{X:Fx} {en:Env} {r:Nat},C7 C X en r→Ev X en e c}
abbrev ST(C:Ctx)(e:Expr):={c:ai→M Bool // ∀{X:Fx} {en:Env} {r:Nat},C7 C X en r→Tr X en e c}
abbrev SL(C:Ctx)(es:List Expr):={c:List CV // ∀{X:Fx} {en:Env} {r:Nat},C7 C X en r→vP X en es c}
abbrev SS(C:Ctx)(tg e:Expr):={c:ai→M Src // ∀{X:Fx} {en:Env} {r:Nat},C7 C X en r→iR X en tg e c}
abbrev Y3(C:Ctx)(es:List Expr):={c:ai→M Bool // ∀{X:Fx} {en:Env} {r:Nat},C7 C X en r→j0 X en es c}
abbrev SO(C:Ctx)(e:Option Expr):={c:CV // ∀{X:Fx} {en:Env} {r:Nat},C7 C X en r→Qu X en e c}
abbrev X5(ok:Str→Bool)(e:Expr):={t:A5 // (∀{en:Env},(∀x,ok x=true→BN en x)→E0 en e t)∧∀{en:Env},(∀x,ok x=true→zu en x)→C4 en e t}
noncomputable def W0{C:Ctx}(f:∀e,Option (SE C e))(e:Expr)(q:∀en,isTrue e en (eval e en)=(do let v ←eval e en;standAt e.pos;holding [v] (truthy v))):Option (ST C e):=(f e).map fun a=>⟨au a.1,fun h=>Tr.of (a.2 h) (q _)⟩
noncomputable def trU{C:Ctx}(ih:∀e,Option (ST C e)):∀o e p,Option (ST C (.UnaryOp o e p))
 | .Not,e,_=>(ih e).map fun a=>⟨e7 a.1,fun h=>Tr.not (a.2 h)⟩
 |_,_,_=>none
noncomputable def trB{C:Ctx}(ih:∀e,Option (ST C e)):∀o es p,Option (ST C (.BoolOp o es p))
 |_,[],_=>none
 | .And,e::es,p=>(ih e).bind fun a=>match es with
  |[]=>some ⟨a.1,fun h=>Tr.bY (a.2 h)⟩
  |e'::es=>(ih (.BoolOp .And (e'::es) p)).map fun b=>⟨nO a.1 b.1,fun h=>Tr.and h.eo (a.2 h) (b.2 h)⟩
 | .Or,e::es,p=>(ih e).bind fun a=>match es with
  |[]=>some ⟨a.1,fun h=>Tr.ZT (a.2 h)⟩
  |e'::es=>(ih (.BoolOp .Or (e'::es) p)).map fun b=>⟨CQ a.1 b.1,fun h=>Tr.or h.eo (a.2 h) (b.2 h)⟩
def trC{C:Ctx}(f:∀e,Option (SE C e))(a:Expr)(p:Pos):∀os bs,Option (ST C (.Compare a os bs p))
 |[op],[b]=>fq (!behindInMarks op b) fun q=>(f a).bind fun ca=>(f b).map fun cb=>⟨au (aQ op ca.1 cb.1),fun h=>Tr.cmp h.eo (ca.2 h) (cb.2 h) (NT q)⟩
 |[o1,o2],[b,c]=>fq (!behindInMarks o2 c) fun q=>(f a).bind fun ca=>(f b).bind fun cb=>(f c).map fun cc=>⟨NN o1 o2 ca.1 cb.1 cc.1,fun h=>Tr.YT h.eo (ca.2 h) (cb.2 h) (cc.2 h) (NT q)⟩
 |_,_=>none
def X6{C:Ctx}(f:∀e,Option (SE C e))(n:Nat):∀e,Option (ST C e):=n.rec (fun e=>none) fun n ih e=>
 V0 e (trU ih) fun e=>MC e (trB ih) fun e=>SJ e (fun a b c d=>trC f a d b c) fun e=>
 ja e (fun a b=>W0 f _ fun U=>rfl) fun e=>CF e (fun a b c d=>W0 f _ fun U=>rfl) fun e=>yQ e (fun a b c=>W0 f _ fun U=>rfl) fun e=>MF e (fun a b c=>W0 f _ fun U=>rfl) fun e=>CE e (fun a b c=>W0 f _ fun U=>rfl) fun e=>none
noncomputable def S8{C:Ctx}(f:∀e,Option (SE C e)):∀es,Option (SL C es)
 |[]=>some ⟨[],fun U=>vP.nil⟩
 |e::es=>fq (notStar e) fun q=>(f e).bind fun a=>(S8 f es).map fun b=>⟨a.1::b.1,fun h=>vP.cons h.eo (a.2 h) (b.2 h) (cZ q)⟩
def evM{C:Ctx}(f:∀e,Option (SE C e))(e:Expr):Option (SE C e):=Hv e (fun es p=>match es with
 |[]=>some ⟨eE C.k0 [],fun h=>Ev.SN h.k0 vP.nil⟩
 |e::es=>f (.List (e::es) p)) f
noncomputable def ZK{C:Ctx}(f:∀e,Option (SE C e)):∀e,Option (SO C e)
 |none=>some ⟨fi,fun U=>Qu.no⟩
 |some e=>(f e).map fun a=>⟨a.1,fun h=>Qu.one (a.2 h)⟩
def Y4{C:Ctx}(f:∀e,Option (SE C e))(tg:Expr)(x:Str)(p pos:Pos)(e:Expr):Option (SS C tg (.Call (.Name x p) [e] [] pos)):=
 fq (qU C.sc x&&notStar e) fun q=>fq (decide (nsIn C.K mainGlobals x=some none)) fun h=>
  if hx:x= "range" then fq (je tg) fun t=>(f e).map fun a=>⟨cX a.1,fun hC=>by subst hx;exact iR.Um hC.eo (hC.kind (bY q)) (by rw[hC.K];exact of_decide_eq_true h) (aH q) t (a.2 hC)⟩
  else if hx:x= "enumerate" then fq (CZ tg) fun t=>(f e).map fun a=>⟨Jl a.1,fun hC=>by subst hx;exact iR.enum hC.eo (hC.kind (bY q)) (by rw[hC.K];exact of_decide_eq_true h) (aH q) t (a.2 hC)⟩else none
def Y5{C:Ctx}(f:∀e,Option (SE C e))(tg:Expr)(x:Str)(p pos:Pos)(e e':Expr):Option (SS C tg (.Call (.Name x p) [e,e'] [] pos)):=
 fq (qU C.sc x&&(notStar e&&(notStar e'&&je tg))) fun q=>fq (decide (nsIn C.K mainGlobals x=some none)) fun h=>
  if hx:x= "range" then(f e).bind fun a=>(f e').map fun b=>⟨uK a.1 b.1,fun hC=>by subst hx;exact iR.Un hC.eo (hC.kind (bY q)) (by rw[hC.K];exact of_decide_eq_true h) (bY (aH q)) (bY (aH (aH q))) (aH (aH (aH q))) (a.2 hC) (b.2 hC)⟩else none
def Uz{C:Ctx}(f:∀e,Option (SE C e))(tg e:Expr):Option (SS C tg e):=fq (Nk e&&je tg) fun q=>(f e).map fun a=>⟨fM a.1,fun hC=>iR.of hC.eo (bY q) (aH q) (a.2 hC)⟩
def Y6{C:Ctx}(f:∀e,Option (SE C e))(tg:Expr)(x:Str)(p pos:Pos):∀es ks,Option (SS C tg (.Call (.Name x p) es ks pos))
 |[e],[]=>Y4 f tg x p pos e
 |[e,e'],[]=>Y5 f tg x p pos e e'
 |es,ks=>Uz f tg (.Call (.Name x p) es ks pos)
def W2{C:Ctx}(f:∀e,Option (SE C e))(tg e:Expr):Option (SS C tg e):=
 CF e (fun o es ks pos=>ja (m:=fun o=>Option (SS C tg (.Call o es ks pos))) o (fun x p=>Y6 f tg x p pos es ks) fun o=>Uz f tg _) (Uz f tg)
def W3(ok:Str→Bool)(e:Expr):Option (X5 ok e):=
 ja e (fun x p=>fq (ok x) fun q=>some ⟨.one (idOf x),fun H=>.one (H x q),fun H=>.one (H x q)⟩) fun e=>
 MD e (fun elts k p=>match h:namesOf elts with
  |some xs=>fq (xs.all ok) fun q=>some ⟨.many (xs.map idOf),fun H=>.many h fun x hx=>H x (all_eq_true.mp q x hx),fun H=>.many h fun x hx=>H x (all_eq_true.mp q x hx)⟩
  |none=>none) fun e=>none
def W4{C:Ctx}(f:∀e,Option (SE C e))(n:Nat):∀es,Option (Y3 C es)
 |[]=>some ⟨bV,fun U=>j0.no⟩
 |[e]=>(X6 f n e).map fun a=>⟨a.1,fun h=>j0.one (a.2 h)⟩
 |_=>none
noncomputable def UA(sc:Scope)(g:Str×NameKind→Bool):Bool:=sc.names.all g
def NU(sc scope:Scope):Bool:=
 decide (scope.kind= .function)&&(UA scope (fun y=> !decide (y.2= .cell))&&(UA scope (fun x=> !decide (x.2= .local) || NR scope x.1 .local)&&
 UA scope fun x=> !decide (x.2= .free) || (NR sc x.1 .cell&&(NR (oV scope sc) x.1 .cell || NR (oV scope sc) x.1 .free))))
theorem Y7{a b:Bool}(h:(!a || b)=true)(ha:a=true):b=true:=by rw[ha]at h;exact h
theorem QU{sc scope:Scope}(h:NU sc scope=true):KU sc scope:=
 ⟨of_decide_eq_true (bY h),fun y hy q=>absurd (all_eq_true.mp (bY (aH h)) y hy) (by rw[decide_eq_true q];decide),
  fun x hx q=>pC (Y7 (all_eq_true.mp (bY (aH (aH h))) x hx) (decide_eq_true q)),
  fun x hx q=>have z:=Y7 (all_eq_true.mp (aH (aH (aH h))) x hx) (decide_eq_true q);⟨pC (bY z),(or_eq_true_iff.mp (aH z)).imp pC pC⟩⟩
def UB(C:Ctx)(scope:Scope):Ctx:={C with sc:=oV scope C.sc,top:=false,turns:=[]}
structure Inner (X:Fx) (en:Env) (r:Nat) (scope:Scope) (X':Fx) (bu:Env):Prop where
 h1:X'.K=X.K
 h2:X'.H0=X.H0
 h3:X'.k0=X.k0
 h4:bu.scope=oV scope en.scope
 h5:EnOK X' bu r
theorem C7.inside{C:Ctx}{X:Fx}{en:Env}{r:Nat}(hC:C7 C X en r){scope:Scope}{X':Fx}{bu:Env}(i:Inner X en r scope X' bu):C7 (UB C scope) X' bu r:=
 ⟨i.h5,i.h4.trans (congrArg (oV scope) hC.sc),i.h1.trans hC.K,i.h3▸hC.k0,i.h1▸i.h2▸hC.tab,i.h1▸hC.kd,fun h=>Bool.noConfusion h⟩
def S9{β:Type}(f:∀C e,Option (SE C e))(n:Nat)(C:Ctx)(elt tg aaH:Expr)(ifs:List Expr)(scope:Scope)(k:X5 (nT (oV scope C.sc)) tg→SS C tg aaH→Y3 (UB C scope) ifs→SE (UB C scope) elt→(C.top&&NU C.sc scope)=true→β):Option β:=
 fq (C.top&&NU C.sc scope) fun q=>(W3 (nT (oV scope C.sc)) tg).bind fun t=>(W2 (f C) tg aaH).bind fun s=>(W4 (f (UB C scope)) n ifs).bind fun d=>(f (UB C scope) elt).map fun e=>k t s d e q
section
variable {X:Fx}{en:Env}{r:Nat}{C:Ctx}{elt tg aaH:Expr}{ifs:List Expr}{scope:Scope}
theorem SP.sc(q:(C.top&&NU C.sc scope)=true)(hC:C7 C X en r):KU en.scope scope:=by rw[hC.sc];exact QU (aH q)
theorem SP.ZL(t:X5 (nT (oV scope C.sc)) tg)(hC:C7 C X en r)(D:Addr):C4 (compEnvC scope (kX en.cells scope.names []) D en) tg t.1:=
 t.2.2 fun x hx=>⟨(congrArg (fun s=>(oV scope s).names.lookup x) hC.sc).trans (pC (bY hx)),fm (aH hx)⟩
theorem SP.ok(t:X5 (nT (oV scope C.sc)) tg)(s:SS C tg aaH)(d:Y3 (UB C scope) ifs)(e:SE (UB C scope) elt)(q:(C.top&&NU C.sc scope)=true)(hC:C7 C X en r){pos}:Ev X en (.ListComp elt [⟨tg,aaH,ifs,0⟩] scope pos) (cV C.k0 s.1 t.1 (lD scope) d.1 e.1):=
 Ev.comp hC.eo hC.k0 (hC.cell (bY q)) (SP.sc q hC) (SP.ZL t hC) (s.2 hC) (fun U U h1 h2 h3 h4 h5=>d.2 (hC.inside ⟨h1,h2,h3,h4,h5⟩)) fun U U h1 h2 h3 h4 h5=>e.2 (hC.inside ⟨h1,h2,h3,h4,h5⟩)
end
theorem Ev.NK{C:Ctx}{X:Fx}{en:Env}{r:Nat}{x:Str}{es:List Expr}{cs:List CV}{p pos}(hC:C7 C X en r)(hx:en.kindOf x=some .globalImplicit)(hk:nsIn X.K mainGlobals x=some (some (.ref fY)))(hd:(x ==("__debug__" :Str))=false)(hp:cu es=true)(hs:vP X en es cs):
  Ev X en (.Call (.Name x p) es [] pos) (K5 cs):=fun B φ σ le s hR L=>
 let ⟨_,_,_,_,E,QQ,hf⟩:=hC.kd.exc;let ⟨_,_,hn⟩:=hC.tab
 Ev.exc hC.eo (le_trans (Nat.le_add_left ..) hn) hx hk hd (E X.prog hR.gl.A2) QQ hf hC.kd.keep hp hs B φ σ le s hR L
def bfG{C:Ctx}(f:∀e,Option (SE C e))(x:Str)(p pos:Pos)(q:(qU C.sc x&&sS x)=true)(h:nsIn C.K mainGlobals x=some none):∀es,Option (SE C (.Call (.Name x p) es [] pos))
 |[e]=>fq (notStar e) fun q2=>match YE.lookup x with
  |some g=>if hb:bootBuiltins x=some g.val∧x≠ "__name__" then(f e).map fun a=>⟨cT g a.1,fun hC=>Ev.bf hC.eo (hC.kind (bY q)) (by rw[hC.K];exact h) hb.1 hb.2 (FA (aH q)) q2 (a.2 hC)⟩else none
  |none=>none
 |_=>none
def W5{C:Ctx}(f:∀e,Option (SE C e))(x:Str)(p:Pos)(es:List Expr)(pos:Pos):Option (SE C (.Call (.Name x p) es [] pos)):=
 fq (qU C.sc x&&sS x) fun q=>match h:nsIn C.K mainGlobals x with
  |some (some (.ref a))=>fq (cu es) fun q3=>
   if hr:a=fY then(S8 f es).map fun s=>⟨K5 s.1,fun hC=>Ev.NK hC (hC.kind (bY q)) (by rw[hC.K,h,hr]) (FA (aH q)) q3 (s.2 hC)⟩
   else(match hl:C.T.fns.lookup a with
   |some g=>(S8 f es).map fun s=>⟨ay g s.1,fun hC=>let ⟨_,hT,hn⟩:=hC.tab;have z:=hT.fn _ _ hl;Ev.call hC.eo (hC.kind (bY q)) (by rw[hC.K];exact h) (FA (aH q)) z.call (Nat.le_of_succ_le hn) z.keep q3 (s.2 hC)⟩
   |none=>(match hc:C.T.cls.lookup a with
    |some g=>(S8 (evM f) es).map fun s=>⟨mQ a g.2 s.1,fun hC=>let ⟨_,hT,hn⟩:=hC.tab;have z:=hT.cls _ _ hc;Ev.make hC.eo (hC.kind (bY q)) (by rw[hC.K];exact h) (FA (aH q)) z.makes z.init z.typ z.call hn z.keep q3 (s.2 hC)⟩
    |none=>none))
  |some none=>bfG f x p pos q h es
  |_=>none
noncomputable def Y8:List (Str×Bm):=[("append",.append),("index",.index),("count",.count),("join",.join)]
def W6{C:Ctx}(f:∀e,Option (SE C e))(o:Expr)(x:Str)(aaJ:Pos)(pos:Pos):∀es,Option (SE C (.Call (.Attribute o x aaJ) es [] pos)):=fun es=>
 fq (jU o&&(aaJ.endLine ==pos.line)) fun q=>match Y8.lookup x,es with
  |some m,[e]=>if hx:m.name=x then fq (notStar e) fun q2=>(f o).bind fun a=>(f e).map fun b=>⟨ry m a.1 b.1,fun hC=>by subst hx;exact Ev.bm hC.eo (bY q) q2 (aH q) (a.2 hC) (b.2 hC)⟩else none
  |_,es=>fq (xA x&&(cu es&&qS es)) fun q2=>(f o).bind fun a=>(S8 f es).map fun b=>⟨aM C.T.mt (idOf x) a.1 b.1,fun hC=>let ⟨_,hT,hn⟩:=hC.tab;Ev.bJ hC.eo (fm (bY q2)) hT.mt (Nat.le_of_succ_le hn) (bY q) (bY (aH q2)) (aH (aH q2)) (aH q) (a.2 hC) (b.2 hC)⟩
def W7{C:Ctx}(x:Str)(p:Pos):Option (SE C (.Name x p)):=fq (sS x) fun d=>
 if g:qU C.sc x=true then(match hv:nsIn C.K mainGlobals x with
  |some (some v)=>(match hp:Jv C.K 4 v with
   |some z=>some ⟨cP z,fun hC B φ σ le s hR L=>Ev.fixed hC.eo hR.gl.K (hC.kind g) (by rw[hC.K];exact hv) (by rw[hC.K];exact hp) (FA d) B φ σ le s hR L⟩
   |none=>none)
  |_=>none)
 else fq (xA x) fun i=>some ⟨aa (idOf x),fun hC=>Ev.var hC.eo.kind (fm i) (FA d) (Y0 d)⟩
def UC{C:Ctx}:∀c k p,Option (SE C (.Constant c k p))
 | .int i,_,_=>some ⟨cP (.int i),fun U=>Ev.int⟩
 | .str x,_,_=>fq (PyData.strOk x) fun q=>some ⟨cP (.str x),fun U=>Ev.str q⟩
 | .bool b,_,_=>some ⟨cP (.bool b),fun U=>Ev.bool⟩
 | .none,_,_=>some ⟨cP .none,fun U=>Ev.Wa⟩
 |_,_,_=>none
noncomputable def W8{C:Ctx}(f:∀e,Option (SE C e)):∀o es p,Option (SE C (.BoolOp o es p))
 |_,[e],_=>(f e).map fun a=>⟨a.1,fun h=>Ev.Wb (a.2 h)⟩
 | .And,e::e'::es,p=>(f e).bind fun a=>(f (.BoolOp .And (e'::es) p)).map fun b=>⟨r9 a.1 b.1,fun h=>Ev.and h.eo (a.2 h) (b.2 h)⟩
 | .Or,e::e'::es,p=>(f e).bind fun a=>(f (.BoolOp .Or (e'::es) p)).map fun b=>⟨Qs a.1 b.1,fun h=>Ev.or h.eo (a.2 h) (b.2 h)⟩
 |_,_,_=>none
noncomputable def unG{C:Ctx}(f:∀e,Option (SE C e)):∀o e p,Option (SE C (.UnaryOp o e p))
 | .Not,e,_=>(f e).map fun a=>⟨MU a.1,fun h=>Ev.Yr (a.2 h)⟩
 | .USub,e,_=>(f e).map fun a=>⟨nN a.1,fun h=>Ev.neg (a.2 h)⟩
 |_,_,_=>none
def Y9{C:Ctx}(f:∀e,Option (SE C e)):∀a os bs p,Option (SE C (.Compare a os bs p))
 |a,[op],[b],_=>fq (!behindInMarks op b) fun q=>(f a).bind fun ca=>(f b).map fun cb=>⟨aQ op ca.1 cb.1,fun h=>Ev.cmp h.eo (ca.2 h) (cb.2 h) (NT q)⟩
 |_,_,_,_=>none
def W9{C:Ctx}(f:∀e,Option (SE C e))(a:Expr)(p:Pos)(b:Expr):Option (SE C (.Subscript a b p)):=fq (iQ b) fun q=>(f a).bind fun ca=>(f b).map fun cb=>⟨aL ca.1 cb.1,fun h=>Ev.sub h.eo q (ca.2 h) (cb.2 h)⟩
def Za{C:Ctx}(f:∀e,Option (SE C e))(a b:Expr)(p:Pos):Option (SE C (.Subscript a b p)):=
 I8 (m:=fun b=>Option (SE C (.Subscript a b p))) b (fun lo hi st q=>match st with
  |none=>(f a).bind fun ca=>(ZK f lo).bind fun cl=>(ZK f hi).map fun ch=>⟨iu ca.1 cl.1 ch.1,fun h=>Ev.cut h.eo (ca.2 h) (cl.2 h) (ch.2 h)⟩
  |some s=>W9 f a p (.Slice lo hi (some s) q)) (W9 f a p)
structure NV (e:Expr) where
 x:Str
 k:Nat
 p:Pos
 is:e= .Constant (.str x) k p
def uA(e:Expr):Option (NV e):=CE e (fun c k p=>match c with
 | .str x=>some ⟨x,k,p,rfl⟩
 |_=>none) fun e=>none
set_option maxHeartbeats 4000000 in
theorem QV{X:Fx}{en:Env}{r:Nat}{k1 k2 v1 v2 b:Expr}{c:CV}{p p':Pos}(hE:EnOK X en r)(a1:NV k1)(a2:NV k2)(b1:NV v1)(b2:NV v2)(h1:a1.x≠a2.x)(h2:PyData.strOk b1.x=true)(h3:PyData.strOk b2.x=true)(h4:iQ b=true)(h:Ev X en b c):
  Ev X en (.Subscript (.Dict [some k1,some k2] [v1,v2] p) b p') (Fv a1.x b1.x a2.x b2.x c):=by
 obtain⟨_,_,_,rfl⟩:=a1;obtain⟨_,_,_,rfl⟩:=a2;obtain⟨_,_,_,rfl⟩:=b1;obtain⟨_,_,_,rfl⟩:=b2;exact Ev.pick hE h1 h2 h3 h4 h
def Xa{C:Ctx}(f:∀e,Option (SE C e)):∀ks vs p b p',Option (SE C (.Subscript (.Dict ks vs p) b p'))
 |[some k1,some k2],[v1,v2],_,b,_=>(uA k1).bind fun a1=>(uA k2).bind fun a2=>(uA v1).bind fun b1=>(uA v2).bind fun b2=>
  if q1:a1.x≠a2.x then fq (PyData.strOk b1.x&&(PyData.strOk b2.x&&iQ b)) fun q=>(f b).map fun a=>⟨Fv a1.x b1.x a2.x b2.x a.1,fun h=>QV h.eo a1 a2 b1 b2 q1 (bY q) (bY (aH q)) (aH (aH q)) (a.2 h)⟩else none
 |_,_,_,_,_=>none
def Xb(f:∀C e,Option (SE C e))(n:Nat)(C:Ctx)(elt:Expr):∀gs scope p,Option (SE C (.ListComp elt gs scope p))
 |[⟨tg,aaH,ifs,0⟩],scope,_=>S9 f n C elt tg aaH ifs scope fun t s d e q=>⟨_,fun h=>SP.ok t s d e q h⟩
 |_,_,_=>none
def Xc{C:Ctx}(f:∀e,Option (SE C e))(o:Expr)(es:List Expr)(pos:Pos):∀ks,Option (SE C (.Call o es ks pos))
 |[]=>ja (m:=fun o=>Option (SE C (.Call o es [] pos))) o (fun x p=>W5 f x p es pos) fun o=>yQ (m:=fun o=>Option (SE C (.Call o es [] pos))) o (fun o x aaJ=>W6 f o x aaJ pos es) fun o=>none
 |_::_=>none
def evS(f:∀C e,Option (SE C e))(n:Nat)(C:Ctx)(e:Expr):Option (SE C e):=
 CE e UC fun e=>ja e W7 fun e=>
 VZ e (fun a op b p=>(f C a).bind fun ca=>(f C b).map fun cb=>⟨aJ op ca.1 cb.1,fun h=>Ev.bin h.eo (ca.2 h) (cb.2 h)⟩) fun e=>
 SJ e (Y9 (f C)) fun e=>
 Yh e (fun t a b p=>(X6 (f C) n t).bind fun ct=>(f C a).bind fun ca=>(f C b).map fun cb=>⟨jI ct.1 ca.1 cb.1,fun h=>Ev.ite h.eo (ct.2 h) (ca.2 h) (cb.2 h)⟩) fun e=>
 MC e (W8 (f C)) fun e=>V0 e (unG (f C)) fun e=>
 yQ e (fun o x p=>fq (xA x&&jU o) fun q=>(f C o).map fun a=>⟨bM (idOf x) a.1,fun h=>Ev.attr (fm (bY q)) (aH q) (a.2 h)⟩) fun e=>
 MD e (fun es k p=>(S8 (f C) es).map fun a=>⟨bG C.k0 a.1,fun h=>Ev.tup h.k0 (a.2 h)⟩) fun e=>
 Hv e (fun es p=>(S8 (f C) es).map fun a=>⟨aw C.k0 a.1,fun h=>Ev.Wk h.k0 (a.2 h)⟩) fun e=>
 MF e (fun a b p=>TS (m:=fun a=>Option (SE C (.Subscript a b p))) a (fun ks vs p'=>Xa (f C) ks vs p' b p) fun a=>Za (f C) a b p) fun e=>
 CF e (fun o es ks p=>Xc (f C) o es p ks) fun e=>
 MG e (Xb f n C) fun e=>none
def ev(n:Nat):∀C e,Option (SE C e):=n.rec (fun C e=>none) fun n ih C e=>evS ih n C e
abbrev CO:=ai→M Out
structure UD (C:Ctx) (X:Fx) (en:Env) (r:Nat):Prop where
 s:vQ X en r
 c:C7 C X en r
theorem UD.lock{C:Ctx}{X:Fx}{en:Env}{r:Nat}(h:UD C X en r)(own:List Addr)(g:Heap):UD C (X.own own g) en r:=
 ⟨h.s.lock own g,⟨h.c.eo.lock own g,h.c.sc,h.c.K,h.c.k0,h.c.tab,h.c.kd,h.c.cell⟩⟩
theorem KD.catch{X:Fx}(k:KD X.K):HW X:=⟨k.base,k.self,k.cls _ _,k.typ,k.ga,k.gt,k.HK,k.at_⟩
abbrev SX(C:Ctx)(st:Stmt):={c:CO // ∀{X:Fx} {en:Env} {r:Nat},UD C X en r→Ex X en (exec st en) c}
abbrev SB(C:Ctx)(b:List Stmt):={c:CO // ∀{X:Fx} {en:Env} {r:Nat},UD C X en r→Ex X en (execs b en) c}
def setG{C:Ctx}(f:∀e,Option (SE C e))(x:Str)(e:Expr):Option (SE C e):=
 Hv e (fun es p=>if x∈C.turns then(S8 f es).map fun a=>⟨eE C.k0 a.1,fun h=>Ev.SN h.k0 (a.2 h)⟩else f (.List es p)) f
def Tc(sc:Scope)(scope:Scope)(y:Str)(l1 l2:Nat):Bool:=NR sc y .local&&(l1 ==l2&&!(scope.names.any fun (n,k)=>n ==y&&(k == .local || k == .cell)))
theorem NX{C:Ctx}{X:Fx}{en:Env}{r:Nat}(h:C7 C X en r){scope:Scope}{y:Str}{py pos:Pos}{elt:Expr}{gs:List Comprehension}(q:Tc C.sc scope y py.line pos.line=true):HS en scope y py (.ListComp elt gs scope pos):=by
 refine and_eq_true_iff.mpr ⟨and_eq_true_iff.mpr ⟨and_eq_true_iff.mpr ⟨?_,?_⟩,bY (aH q)⟩,aH (aH q)⟩
 ·unfold Env.blockKind;rw[h.eo.kind];rfl
 ·rw[(h.kind (bY q))];rfl
def Zb{C:Ctx}(n:Nat)(x:Str)(px aaM:Pos)(e:Expr):Option (SX C (.Assign [.Name x px] e aaM)):=
 fq (ownName C.sc x&&iy e) fun q=>(setG (ev n C) x e).map fun a=>⟨aN (idOf x) a.1,fun h=>Ex.set h.s (h.c.own (bY q)).2 (h.c.own (bY q)).1 (aH q) (a.2 h.c)⟩
def Zc{C:Ctx}(n:Nat)(x:Str)(px aaM:Pos)(elt:Expr)(scope:Scope)(pos:Pos):∀gs,Option (SX C (.Assign [.Name x px] (.ListComp elt gs scope pos) aaM))
 |[⟨tg,aaH,ifs,0⟩]=>fq (xA x&&Tc C.sc scope x px.line pos.line) fun q=>S9 (ev (n - 1)) (n - 1) C elt tg aaH ifs scope fun t s d e q'=>⟨aN (idOf x) (cV C.k0 s.1 t.1 (lD scope) d.1 e.1),fun h=>
   Ex.QJ h.s h.c.k0 (fm (bY q)) (h.c.kind (bY (aH q))) (NX h.c (aH q)) (SP.sc q' h.c) (SP.ZL t h.c) (s.2 h.c) (fun U U h1 h2 h3 h4 h5=>d.2 (h.c.inside ⟨h1,h2,h3,h4,h5⟩)) fun U U h1 h2 h3 h4 h5=>e.2 (h.c.inside ⟨h1,h2,h3,h4,h5⟩)⟩
 |_=>none
def Zd{C:Ctx}(n:Nat)(t e:Expr)(p:Pos):Option (SX C (.Assign [t] e p)):=
 ja (m:=fun t=>Option (SX C (.Assign [t] e p))) t (fun x px=>MG (m:=fun e=>Option (SX C (.Assign [.Name x px] e p))) e (fun elt gs scope pos=>Zc n x px p elt scope pos gs) (Zb n x px p)) fun t=>
 MD (m:=fun t=>Option (SX C (.Assign [t] e p))) t (fun elts k pt=>fq (iy e&&SR e) fun q=>match hx:namesOf elts with
  |some xs=>fq (xs.all (ownName C.sc)) fun qa=>(ev n C e).map fun a=>⟨M5 (xs.map idOf) a.1,fun h=>Ex.ZZ h.s hx (fun x hm=>h.c.own (all_eq_true.mp qa x hm)) (bY q) (aH q) (a.2 h.c)⟩
  |none=>none) fun t=>
 yQ (m:=fun t=>Option (SX C (.Assign [t] e p))) t (fun o x pt=>fq (xA x&&iy e) fun q=>(ev n C o).bind fun co=>(ev n C e).map fun c=>⟨kW (idOf x) co.1 c.1,fun h=>Ex.put h.s (fm (bY q)) (aH q) (co.2 h.c) (c.2 h.c)⟩) fun t=>
 MF (m:=fun t=>Option (SX C (.Assign [t] e p))) t (fun o i pt=>fq (iy e&&iQ i) fun q=>(ev n C o).bind fun co=>(ev n C i).bind fun ci=>(ev n C e).map fun c=>⟨Fo co.1 ci.1 c.1,fun h=>Ex.item h.s (bY q) (aH q) (co.2 h.c) (ci.2 h.c) (c.2 h.c)⟩) fun t=>none
def Ze{C:Ctx}(n:Nat)(x:Str)(px:Pos)(e:Expr)(pa:Pos)(z:Str)(pz:Pos)(m y:Str)(py:Pos)(m':Str)(pm:Pos)(a:Str)(pat Qc ph pos:Pos):
  Option (SX C (.Try [.Assign [.Name x px] e pa] [.ExceptHandler (some (.Name z pz)) (some m) [.Assign [.Name y py] (.Attribute (.Name m' pm) a pat) Qc] ph] [] [] pos)):=if hm:m'=m∧a= "at" ∧idOf m≠idOf y then
  fq (iy e&&(nT C.sc x&&(nT C.sc y&&(nT C.sc m&&(sS m&&(sS z&&qU C.sc z)))))) fun q=>fq (decide (nsIn C.K mainGlobals z=some (some (.ref fY)))) fun rf=>(ev n C e).map fun c=>⟨HX (idOf x) (idOf y) (idOf m) c.1,fun h=>by
   obtain⟨rfl,rfl,dG⟩:=hm;have q1:=aH q;have q2:=aH q1;have q3:=aH q2;have q4:=aH q3;have q5:=aH q4;exact Ex.WV h.s h.c.kd.catch (c.2 h.c) (bY q) (h.c.kind (bY (bY q1))) (fm (aH (bY q1))) (h.c.kind (bY (bY q2))) (fm (aH (bY q2))) (h.c.kind (bY (bY q3))) (fm (aH (bY q3))) dG (FA (bY q4)) (h.c.kind (aH q5)) (by rw[h.c.K];exact of_decide_eq_true rf) (FA (bY q5))⟩else none
def Zf{C:Ctx}(n:Nat)(x:Str)(px:Pos)(e:Expr)(pa pos:Pos):∀hs,Option (SX C (.Try [.Assign [.Name x px] e pa] hs [] [] pos))
 |[.ExceptHandler (some zt) (some m) [st] ph]=>
  let T (zt:Expr) (st:Stmt):=Option (SX C (.Try [.Assign [.Name x px] e pa] [.ExceptHandler (some zt) (some m) [st] ph] [] [] pos))
  ja (m:=fun zt=>T zt st) zt (fun z pz=>S7 (m:=fun st=>T (.Name z pz) st) st (fun yt ye Qc=>ja (m:=fun yt=>T (.Name z pz) (.Assign [yt] ye Qc)) yt (fun y py=>yQ (m:=fun ye=>T (.Name z pz) (.Assign [.Name y py] ye Qc)) ye (fun o a pat=>
   ja (m:=fun o=>T (.Name z pz) (.Assign [.Name y py] (.Attribute o a pat) Qc)) o (fun m' pm=>Ze n x px e pa z pz m y py m' pm a pat Qc ph pos) fun e=>none) fun e=>none) fun e=>none) fun e=>none) fun e=>none
 |_=>none
def Zg{C:Ctx}(n:Nat)(pos:Pos)(hs:List ExceptHandler):∀b oe fb,Option (SX C (.Try b hs oe fb pos))
 |[st],[],[]=>S7 (m:=fun st=>Option (SX C (.Try [st] hs [] [] pos))) st (fun t e pa=>ja (m:=fun t=>Option (SX C (.Try [.Assign [t] e pa] hs [] [] pos))) t (fun x px=>Zf n x px e pa pos hs) fun e=>none) fun e=>none
 |_,_,_=>none
def ex1{C:Ctx}(g:∀b,Option (SB C b))(n:Nat):∀st,Option (SX C st)
 | .Return (some e) _=>(setG (ev n C) "return" e).map fun a=>⟨aX a.1,fun h=>Ex.ret h.c.eo (a.2 h.c)⟩
 | .Assign [t] e p=>Zd n t e p
 | .If t a b _=>(X6 (ev n C) n t).bind fun ct=>(g a).bind fun ca=>(g b).map fun cb=>⟨dP ct.1 ca.1 cb.1,fun h=>Ex.ZX h.c.eo (ct.2 h.c) (ca.2 h) (cb.2 h)⟩
 | .While t b [] _=>(X6 (ev n C) n t).bind fun ct=>(g b).map fun cb=>⟨gP ct.1 cb.1,fun h=>Ex.loop h.s (ct.2 h.c) (cb.2 h)⟩
 | .For tg e b [] _=>(W3 (ownName C.sc) tg).bind fun t=>(W2 (ev n C) tg e).bind fun cs=>(g b).map fun cb=>⟨iS cs.1 t.1 cb.1,fun h=>Ex.YK h.s (t.2.1 fun x hx=>h.c.own hx) (cs.2 h.c) fun own k=>cb.2 (h.lock own k)⟩
 | .Expr e _=>fq (iy e) fun q=>(ev n C e).map fun a=>⟨oU a.1,fun h=>Ex.ZY h.s q (a.2 h.c)⟩
 | .Raise (some e) none _=>(ev n C e).map fun a=>⟨eF a.1,fun h=>Ex.raise h.s h.c.kd.base h.c.kd.typ (a.2 h.c)⟩
 | .Try b hs oe fb pos=>Zg n pos hs b oe fb
 |_=>none
def ex(n:Nat):∀C b,Option (SB C b):=n.rec (fun C b=>none) fun n ih C b=>match b with
 |[]=>some ⟨ak,fun U=>Ex.nil⟩
 |st::rest=>(ex1 (ih C) n st).bind fun a=>(ih C rest).map fun b=>⟨ae a.1 b.1,fun h=>Ex.cons (a.2 h) (b.2 h)⟩
def FC(K:Frag)(T:Tab)(a:Nat)(sc:Scope)(turns:Ls)(body:List Stmt)(c:Nat→CO):Prop:=∀k0,(ex 40 ⟨K,sc,k0,T,true,turns⟩ body).map (·.1)=some (c k0)
theorem FC.ok{K:Frag}{T:Tab}{a:Nat}{sc:Scope}{turns:Ls}{body:List Stmt}{c:Nat→CO}(h:FC K T a sc turns body c){k0:Nat}{X:Fx}{en:Env}{r:Nat}(hS:UD ⟨K,sc,k0,T,true,turns⟩ X en r):Ex X en (execs body en) (c k0):=
 let ⟨s,_,e⟩:=map_eq_some_iff.mp (h k0)
 e▸s.2 hS
theorem gQ.more{K:Frag}{H0:Heap}{a:Value}{n m:Nat}{f:F}(h:gQ K H0 a n f)(k:n≤m):gQ K H0 a m f:=fun X h1 h2 B φ σ s r vs vals R hA hr=>h X h1 h2 B φ σ s r vs vals R hA (le_trans k hr)
theorem a9{K:Frag}{H0:Heap}{need:Nat}{T:Tab}(hT:dh K H0 need T)(kd:KD K){a:Addr}{fd:FuncData}{body:List Stmt}{ns:Ls}(D:XY K a fd body ns){xs:Ln}(hx:ns.map idOf=xs)(turns:Ls){c:Nat→CO}
  (h:FC K T a fd.scope turns body c):gQ K H0 (.ref a) (need+2) (bK xs c):=
 hx▸QB D c (need+1) fun X en r hK hH hE hsc hn=>h.ok ⟨hE,⟨hE.toEnOK,hsc,hK,le_refl _,⟨need,by rw[hK,hH];exact hT,hn⟩,by rw[hK];exact kd,fun U=>hE.cellOf⟩⟩
noncomputable def Tab.bh(T:Tab)(a:Nat)(f:F):Tab:={T with fns:=(a,f)::T.fns}
noncomputable def Tab.wa(T:Tab)(C i:Nat)(f:F):Tab:={T with cls:=(C,(i,f))::T.cls}
noncomputable def Tab.fu(T:Tab)(C x:Nat)(f:F):Tab:={T with YY:=((C,x),f)::T.YY}
section
variable {K:Frag}{H0:Heap}{need:Nat}{T:Tab}
theorem dh.none:dh K H0 0 {}:=⟨fun U U h=>(by contradiction),fun U U h=>(by contradiction),fun U U U h=>(by contradiction)⟩
theorem dh.more(hT:dh K H0 need T){m:Nat}(k:need≤m):dh K H0 m T where
 fn:=fun a f h=>⟨(hT.fn a f h).1.more k,(hT.fn a f h).2⟩
 cls:=fun C g h=>(hT.cls C g h).casesOn fun h1 h2 h3 h4 h5=>⟨h1,h2,h3,h4,h5.more k⟩
 mt:=fun c nm f h=>(hT.mt c nm f h).casesOn fun h1 hh=>hh.casesOn fun a hh=>hh.casesOn fun h2 hh=>hh.casesOn fun h3 hh=>hh.casesOn fun h4 hh=>hh.casesOn fun h5 h6=>⟨h1,a,h2,h3,h4,h5,h6.more k⟩
theorem dh.bh(hT:dh K H0 need T){a:Nat}{f:F}(h:gQ K H0 (.ref a) need f)(k:keepIn K (.ref a)=true):dh K H0 need (T.bh a f) where
 fn:=fun b g h'=>by
  simp only[Tab.bh,lookup_cons]at h';split at h'
  ·rename_i q;injection h' with h';subst h';rw[beq_iff_eq.mp q];exact⟨h,k⟩
  ·exact hT.fn _ _ h'
 cls:=hT.cls
 mt:=hT.mt
theorem dh.wa(hT:dh K H0 need T){C i:Nat}{f:F}(h:gQ K H0 (.ref i) need f)(k:(makesIn K C&&keepIn K (.ref C))=true)(k1:findIn K (.ref C) "__init__" =some (some (.ref i)))(k2:typeIn K (.ref i)=some (.type "function")):dh K H0 need (T.wa C i f) where
 fn:=hT.fn
 cls:=fun b g h'=>by
  simp only[and_eq_true]at k;simp only[Tab.wa,lookup_cons]at h';split at h'
  ·rename_i q;injection h' with h';subst h';rw[beq_iff_eq.mp q];exact⟨k.1,k1,k2,k.2,h⟩
  ·exact hT.cls _ _ h'
 mt:=hT.mt
theorem dh.fu(hT:dh K H0 need T){C x a:Nat}{f:F}(h:gQ K H0 (.ref a) need f)(k:(decide (x<ids.length)&&plainGet K C (ident x)&&isFn K (.ref a)&&keepIn K (.ref a))=true)(k1:findIn K (.ref C) (ident x)=some (some (.ref a))):dh K H0 need (T.fu C x f) where
 fn:=hT.fn
 cls:=hT.cls
 mt:=fun c nm g h'=>by
  simp only[and_eq_true,decide_eq_true_eq]at k;simp only[Tab.mt,Tab.fu,lookup_cons]at h';split at h'
  ·rename_i q;injection h' with h';subst h';cases (beq_iff_eq.mp q);exact⟨k.1.1.1,a,k.1.1.2,k1,k.1.2,k.2,h⟩
  ·exact hT.mt _ _ _ h'
end
@[elab_as_elim] def Xd {m:Data→Sort u} (d:Data) (f:∀fd,m (.func fd)) (g:∀d,m d):m d:=by apply @Data.casesOn m d<;>intros<;>first|exact f _|exact g _
noncomputable def fnOf(d:Data):FuncData:=Xd d (fun fd=>fd) fun d=>default
noncomputable def Jw(d:Data):Bool:=Xd d (fun fd=>true) fun d=>false
theorem NY(d:Data):Jw d=true→d= .func (fnOf d):=by apply @Data.casesOn (fun d=>Jw d=true→d= .func (fnOf d)) d<;>intros<;>first|rfl|exact Bool.noConfusion ‹_=true›
def fdOf(K:Frag)(a:Nat):FuncData:=(K.lookup a).elim default fun o=>fnOf o.data
theorem QW{K:Frag}{a:Nat}(h:(K.lookup a).elim false (fun o=>Jw o.data)=true):∃o,K.lookup a=some o∧o.data= .func (fdOf K a):=by
 unfold fdOf;generalize q:K.lookup a=gg;induction gg with
 |none=>rw[q]at h;exact Bool.noConfusion h
 |some o=>rw[q]at h;exact⟨o,rfl,NY _ h⟩
noncomputable def bodyOf(fd:FuncData):List Stmt:=match fd.body with
 | .stmts b=>b
 | .expr _=>[]
noncomputable def Td:FuncBody→Bool
 | .stmts _=>true
 | .expr _=>false
theorem QX{fd:FuncData}(h:Td fd.body=true):fd.body= .stmts (bodyOf fd):=by
 unfold bodyOf;generalize q:fd.body=gg;induction gg with
 |stmts b=>rfl
 |expr b=>rw[q]at h;exact Bool.noConfusion h
def fnB(K:Frag)(a:Nat)(fd:FuncData)(ns:Ls):Bool:=
 (K.lookup a).elim false (fun o=>Jw o.data)&&(Td fd.body&&(fd.closure.isEmpty&&(decide (fd.globals=mainGlobals)&&(decide (fd.builtins=builtinsNs)&&(codeIn K fd.code fd.qualname&&(!fd.scope.isCoroutine&&(!fd.scope.isGenerator&&(decide (fd.scope.kind= .function)&&
 (ns.all (ownName fd.scope)&&(decide ns.Nodup&&(fd.scope.names.all (fun p=> !decide (fd.scope.names.lookup p.1=some .cell) || decide (p.1∈(cellsFrom 0 fd.scope.names []).map (·.1)))&&decide ((cellsFrom 0 fd.scope.names []).map (·.1)).Nodup)))))))))))
theorem aI{K:Frag}{a:Nat}{ns:Ls}(h:fnB K a (fdOf K a) ns=true)(hb:∀vals:Lv,vals.length=ns.length→bindArgs (fdOf K a) ⟨vals,[]⟩=pure (ns.zip vals)):XY K a (fdOf K a) (bodyOf (fdOf K a)) ns:=
 ⟨QW (bY h),QX (bY (aH h)),isEmpty_iff.mp (bY (aH (aH h))),of_decide_eq_true (bY (aH (aH (aH h)))),of_decide_eq_true (bY (aH (aH (aH (aH h))))),bY (aH (aH (aH (aH (aH h))))),NT (bY (aH (aH (aH (aH (aH (aH h))))))),NT (bY (aH (aH (aH (aH (aH (aH (aH h)))))))),of_decide_eq_true (bY (aH (aH (aH (aH (aH (aH (aH (aH h))))))))),hb,
  fun x hx=>⟨(or_eq_true_iff.mp (bY (all_eq_true.mp (bY (aH (aH (aH (aH (aH (aH (aH (aH (aH h)))))))))) x hx))).imp pC pC,fm (aH (all_eq_true.mp (bY (aH (aH (aH (aH (aH (aH (aH (aH (aH h)))))))))) x hx))⟩,of_decide_eq_true (bY (aH (aH (aH (aH (aH (aH (aH (aH (aH (aH h))))))))))),
  fun x hx=>of_decide_eq_true (Y7 (all_eq_true.mp (bY (aH (aH (aH (aH (aH (aH (aH (aH (aH (aH (aH h)))))))))))) _ (mem_of_lookup hx)) (decide_eq_true hx)),of_decide_eq_true (aH (aH (aH (aH (aH (aH (aH (aH (aH (aH (aH (aH h))))))))))))⟩
section
variable {α:Type}{p:List α→Prop}
theorem len0(h:p [])(l:List α)(e:l.length=0):p l:=List.length_eq_zero_iff.mp e▸h
theorem NZ{n:Nat}(h:∀a (l:List α),l.length=n→p (a::l))(l:List α)(e:l.length=n+1):p l:=l.casesOn (motive:=fun l=>l.length=n+1→p l) (fun e=>by cases e) (fun a l e=>h a l (Nat.succ.inj e)) e
theorem iz(h:∀a,p [a]):∀l:List α,l.length=1→p l:=NZ fun a=>len0 (p:=fun l=>p (a::l)) (h a)
end
section
variable {α:Type}{p:List α→Prop}
theorem gw(h:∀a b,p [a,b]):∀l:List α,l.length=2→p l:=NZ fun a=>iz (p:=fun l=>p (a::l)) (h a)
end
section
variable {α:Type}{p:List α→Prop}
theorem yh(h:∀a b c,p [a,b,c]):∀l:List α,l.length=3→p l:=NZ fun a=>gw (p:=fun l=>p (a::l)) (h a)
end
section
variable {α:Type}{p:List α→Prop}
theorem UE(h:∀a b c d,p [a,b,c,d]):∀l:List α,l.length=4→p l:=NZ fun a=>yh (p:=fun l=>p (a::l)) (h a)
theorem Zh(h:∀a b c d e,p [a,b,c,d,e]):∀l:List α,l.length=5→p l:=NZ fun a=>UE (p:=fun l=>p (a::l)) (h a)
end
end
end
section
open PySem PySem.W
noncomputable def QY:P:=.tup [(.str "lookup"),(.str "flag"),(.str "sub"),(.str "by"),(.str "from"),(.str "NULL"),(.str "pos"),(.str "feature"),(.str "script"),(.str "language")]
noncomputable def qV:P:=.str "abcdefghijklmnopqrstuvwxyzABCDEFGHIJKLMNOPQRSTUVWXYZ_."
noncomputable def jP:P:=.str "0123456789"
noncomputable def QZ:P:=.str "{}[];'<>"
noncomputable def N1:P:=.str " \t\r\n"
noncomputable def FE:P:=.str "\r\n"
noncomputable def C8:P:=.int 6
noncomputable def FF:P:=.int 65535
noncomputable def fN:P:=.int 32767
noncomputable def cN:P:=.list [(.str "a"),(.str "b"),(.str "c"),(.str "f_i"),(.str "x.alt"),(.str "N1"),(.str "_")]
noncomputable def T0:Tab:={}
def oB(_k0:Nat):CO:=
 (ae (kW 2 (aa 25) (aa 2)) (ae (kW 3 (aa 25) (aa 3)) ak))
def jf:F:=bK [25,2,3] oB
def gI(k0:Nat):CO:=
 (ae (aN 13 (cV k0 (fM (bM 2 (aa 25))) (.one 26) [] bV (bM 4 (aa 26)))) (ae (aX (jI (au (aQ .In (aa 4) (aa 13))) (ry .index (aa 13) (aa 4)) (nN (cP (.int 1))))) ak))
def gJ:F:=bK [25,4] gI
def j3(_k0:Nat):CO:=
 (ae (kW 4 (aa 25) (aa 4)) (ae (kW 5 (aa 25) (aa 5)) (ae (kW 6 (aa 25) (aa 6)) ak)))
def gx:F:=bK [25,4,5,6] j3
def pD(_k0:Nat):CO:=
 (ae (kW 7 (aa 25) (aa 7)) (ae (kW 8 (aa 25) (aa 8)) ak))
def b9:F:=bK [25,7,8] pD
def pF(k0:Nat):CO:=
 (ae (aX (bG k0 [(bM 7 (aa 25)),(bM 8 (aa 25))])) ak)
def pG:F:=bK [25] pF
def wb(_k0:Nat):CO:=
 (ae (aX (aL (bM 8 (aa 25)) (cP (.int 0)))) ak)
def wc(k0:Nat):CO:=
 (ae (aX (jI (au (aQ .In (bM 7 (aa 25)) (bG k0 [(cP (.str "adjust")),(cP (.str "pair"))]))) (cP (.str "pos")) (cP (.str "sub")))) ak)
def pH(k0:Nat):CO:=
 (ae (dP (au (aQ .Eq (bM 7 (aa 25)) (cP (.str "chain")))) (wb k0) ak) (wc k0))
def j4:F:=bK [25] pH
def wg(_k0:Nat):CO:=
 (ae (aX (cP .none)) ak)
def wh(_k0:Nat):CO:=
 (ae (aX (jI (au (aQ .Eq (bM 7 (aa 25)) (cP (.str "pair")))) (iu (bM 8 (aa 25)) fi (cP (.int 2))) (iu (bM 8 (aa 25)) fi (cP (.int 1))))) ak)
def pI(k0:Nat):CO:=
 (ae (dP (au (aQ .Eq (bM 7 (aa 25)) (cP (.str "chain")))) (wg k0) ak) (wh k0))
def j5:F:=bK [25] pI
def lE(_k0:Nat):CO:=
 (ae (kW 9 (aa 25) (aa 9)) (ae (kW 10 (aa 25) (aa 10)) (ae (kW 11 (aa 25) (aa 11)) (ae (kW 2 (aa 25) (aa 2)) ak))))
def gS:F:=bK [25,9,10,11,2] lE
def lF(k0:Nat):CO:=
 (ae (aX (bG k0 [(bM 9 (aa 25)),(bM 10 (aa 25)),(bM 11 (aa 25)),(bM 2 (aa 25))])) ak)
def lG:F:=bK [25] lF
def xB(_k0:Nat):ai→M Bool:=
 (nO (au (aQ .Lt (aa 30) (cT .len (aa 28)))) (au (aQ .In (aL (aa 28) (aa 30)) (aa 29))))
def xC(_k0:Nat):CO:=
 (ae (aN 30 (aJ .Add (aa 30) (cP (.int 1)))) ak)
def FG(_k0:Nat):CO:=
 (ae (aX (aa 30)) ak)
def B4(k0:Nat):CO:=
 (ae (aN 30 (aa 1)) (ae (gP (xB k0) (xC k0)) (FG k0)))
def jQ:F:=bK [28,1,29] B4
def xD(_k0:Nat):ai→M Bool:=
 (nO (au (aQ .Lt (aa 31) (cT .len (aa 28)))) (CQ (au (aQ .In (aL (aa 28) (aa 31)) (cP N1))) (au (aQ .Eq (aL (aa 28) (aa 31)) (cP (.str "#"))))))
def FH(_k0:Nat):ai→M Bool:=
 (nO (au (aQ .Lt (aa 31) (cT .len (aa 28)))) (au (aQ .NotIn (aL (aa 28) (aa 31)) (cP FE))))
def FJ(_k0:Nat):CO:=
 (ae (aN 31 (aJ .Add (aa 31) (cP (.int 1)))) ak)
def FN(k0:Nat):CO:=
 (ae (gP (FH k0) (FJ k0)) ak)
def FO(_k0:Nat):CO:=
 (ae (aN 31 (aJ .Add (aa 31) (cP (.int 1)))) ak)
def xE(k0:Nat):CO:=
 (ae (dP (au (aQ .Eq (aL (aa 28) (aa 31)) (cP (.str "#")))) (FN k0) (FO k0)) ak)
def FP(_k0:Nat):CO:=
 (ae (aX (aa 31)) ak)
def B5(k0:Nat):CO:=
 (ae (aN 31 (aa 1)) (ae (gP (xD k0) (xE k0)) (FP k0)))
def mR:F:=bK [28,1] B5
def B6(_k0:Nat):CO:=
 (ae (aX (r9 (aQ .NotEq (aa 17) (cP (.str ""))) (r9 (aQ .In (aL (aa 17) (cP (.int 0))) (cP qV)) (aQ .NotIn (aa 17) (cP QY))))) ak)
def fO:F:=bK [17] B6
def lH(_k0:Nat):CO:=
 (ae (aX (aL (aL (bM 12 (aa 25)) (bM 1 (aa 25))) (cP (.int 0)))) ak)
def lI:F:=bK [25] lH
def j6(_k0:Nat):CO:=
 (ae (aX (K5 [(aa 0),(aL (aL (bM 12 (aa 25)) (bM 1 (aa 25))) (cP (.int 1)))])) ak)
def dj:F:=bK [25,0] j6
def lJ(_k0:Nat):CO:=
 (ae (aN 17 (aL (aL (bM 12 (aa 25)) (bM 1 (aa 25))) (cP (.int 0)))) (ae (kW 1 (aa 25) (aJ .Add (bM 1 (aa 25)) (cP (.int 1)))) (ae (aX (aa 17)) ak)))
def lK:F:=bK [25] lJ
def xF(k0:Nat):CO:=
 (ae (aX (aQ .NotEq (cV k0 (fM (aa 38)) (.one 45) [] (au (aL (aa 45) (cP (.int 1)))) (aa 45)) (aw k0 []))) ak)
def pJ:F:=bK [38] xF
def B7(k0:Nat):CO:=
 (ae (aX (eE k0 [(cV k0 (fM (iu (aa 10) fi (cP (.int 63)))) (.one 56) [] bV (cT .int (aa 56))),(cP (.int 0)),(cP (.int 0))])) ak)
def wj:F:=bK [10] B7
def C9(_k0:Nat):CO:=
 (ae (aN 55 (aJ .Mod (cT .int (aL (aa 53) (cP (.int 2)))) (aa 54))) (ae (Fo (aa 53) (cP (.int 2)) (aJ .FloorDiv (cT .int (aL (aa 53) (cP (.int 2)))) (aa 54))) (ae (aX (aa 55)) ak)))
def Dc(_k0:Nat):CO:=
 (ae (aN 56 (aL (aL (aa 53) (cP (.int 0))) (aJ .Mod (cT .int (aa 43)) (cT .len (aL (aa 53) (cP (.int 0))))))) ak)
def Dd(_k0:Nat):CO:=
 (ae (aN 57 (aJ .Sub (cT .abs (aa 56)) (aJ .Pow (cP (.int 10)) (cP (.int 18))))) (ae (Fo (aa 53) (cP (.int 2)) (aJ .FloorDiv (cT .int (aa 57)) (aa 54))) (ae (aX (aJ .Mod (cT .int (aa 57)) (aa 54))) ak)))
def uN(_k0:Nat):CO:=
 (ae (aN 58 (aJ .Mod (cT .int (aJ .Pow (aJ .Add (aJ .Add (aJ .Mod (cT .int (aa 56)) (cP (.int 2147483587))) (aJ .Mult (cP (.int 60037)) (aa 43))) (cP (.int 6007))) (cP (.int 5)))) (cP (.int 2147483629)))) (ae (aN 58 (aJ .Mod (cT .int (aJ .Pow (aJ .Add (aJ .Add (aJ .Mult (aa 58) (aJ .Add (aJ .Mult (cP (.int 2)) (aa 43)) (cP (.int 3011)))) (aJ .Mult (aJ .Mult (cP (.int 701)) (aa 43)) (aa 43))) (cP (.int 37))) (cP (.int 3)))) (cP (.int 2147483579)))) (ae (aX (aJ .Mod (cT .int (aJ .FloorDiv (aa 58) (cP (.int 32)))) (aa 54))) ak)))
def uO(k0:Nat):CO:=
 (ae (dP (nO (au (aQ .Lt (aa 43) (cT .len (aL (aa 53) (cP (.int 0)))))) (au (aQ .GtE (cT .abs (aa 56)) (aJ .Pow (cP (.int 10)) (cP (.int 18)))))) (Dd k0) ak) (uN k0))
def De(k0:Nat):CO:=
 (ae (aN 43 (aL (aa 53) (cP (.int 1)))) (ae (Fo (aa 53) (cP (.int 1)) (aJ .Add (aa 43) (cP (.int 1)))) (ae (aN 56 (cP (.int 0))) (ae (dP (au (aQ .NotEq (aL (aa 53) (cP (.int 0))) (aw k0 []))) (Dc k0) ak) (uO k0)))))
def zF(k0:Nat):CO:=
 (ae (dP (au (aQ .Gt (aL (aa 53) (cP (.int 2))) (cP (.int 0)))) (C9 k0) ak) (De k0))
def aK:F:=bK [53,54] zF
def xG(k0:Nat):CO:=
 (ae (aX (aw k0 [(cP (.str "single")),(cP (.str "multiple")),(cP (.str "alternate")),(cP (.str "ligature")),(cP (.str "adjust")),(cP (.str "pair")),(cP (.str "chain")),(cP (.str "chain"))])) ak)
def pK:F:=bK [] xG
def Df(_k0:Nat):CO:=
 (ae (aX (cP .none)) ak)
def Dg(_k0:Nat):CO:=
 (ae (aX (jI (au (aQ .Eq (aL (aa 27) (cP (.int 0))) (cP (.str "pair")))) (iu (aL (aa 27) (cP (.int 1))) fi (cP (.int 2))) (iu (aL (aa 27) (cP (.int 1))) fi (cP (.int 1))))) ak)
def zG(k0:Nat):CO:=
 (ae (dP (au (aQ .Eq (aL (aa 27) (cP (.int 0))) (cP (.str "chain")))) (Df k0) ak) (Dg k0))
def iA:F:=bK [27] zG
def oE(k0:Nat):CO:=
 (ae (aX (jI (nO (au (aQ .Eq (cT .len (aa 37)) (cP (.int 1)))) (e7 (au (aa 67)))) (cT .list (aa 37)) (aJ .Add (aJ .Add (aw k0 [(cP (.str "["))]) (cT .list (aa 37))) (aw k0 [(cP (.str "]"))])))) ak)
def eU:F:=bK [37,67] oE
def rz(k0:Nat):CO:=
 (ae (aX (aw k0 [(cT .str (aL (aa 68) (cP (.int 2))))])) ak)
def rA(k0:Nat):CO:=
 (ae (aX (aJ .Add (aJ .Add (aw k0 [(cP (.str "<"))]) (cV k0 (fM (aa 68)) (.one 24) [] bV (cT .str (aa 24)))) (aw k0 [(cP (.str ">"))]))) ak)
def lM(k0:Nat):CO:=
 (ae (dP (nO (au (aQ .Eq (bG k0 [(aL (aa 68) (cP (.int 0))),(aL (aa 68) (cP (.int 1))),(aL (aa 68) (cP (.int 3)))]) (bG k0 [(cP (.int 0)),(cP (.int 0)),(cP (.int 0))]))) (e7 (au (aa 67)))) (rz k0) ak) (rA k0))
def gT:F:=bK [68,67] lM
def oW(k0:Nat):CO:=
 (ae (aN 33 (aJ .Add (aa 33) (aw k0 [(cP (.str "script")),(aa 10)]))) ak)
def oX(k0:Nat):CO:=
 (ae (aN 33 (aJ .Add (aa 33) (aw k0 [(cP (.str "language")),(aa 11)]))) ak)
def ie(k0:Nat):CO:=
 (ae (aX (aJ .Add (aJ .Add (aJ .Add (aa 33) (aw k0 [(cP (.str "{"))])) (cT .list (aa 66))) (aw k0 [(cP (.str "}"))]))) ak)
def ig(k0:Nat):CO:=
 (ae (dP (CQ (au (aQ .NotEq (aa 11) (cP (.str "dflt")))) (au (aa 69))) (oX k0) ak) (ie k0))
def jv(k0:Nat):CO:=
 (ae (M5 [9,10,11,66] (aa 72)) (ae (aN 33 (aw k0 [(cP (.str "feature")),(aa 9)])) (ae (dP (CQ (au (aQ .NotEq (aa 10) (cP (.str "DFLT")))) (au (aa 69))) (oW k0) ak) (ig k0))))
def f6:F:=bK [72,69] jv
def FQ(k0:Nat):CO:=
 (ae (aX (jI (au (aQ .Gt (aa 70) (cP (.int 0)))) (cT .len (ry .join (cP (.str " ")) (aJ .Add (iu (aa 12) fi (aa 70)) (aw k0 [(cP (.str ""))])))) (cP (.int 0)))) ak)
def zH:F:=bK [12,70] FQ
def xH(k0:Nat):CO:=
 (ae (aX (cV k0 (Jl (aa 12)) (.many [43,17]) [73] (au (aQ .In (aa 17) (aa 73))) (aa 43))) ak)
def pL:F:=bK [12,73] xH
def B8(_k0:Nat):CO:=
 (ae (aX (aJ .Add (aJ .Add (iu (aa 12) fi (aa 70)) (aa 74)) (iu (aa 12) (aa 70) fi))) ak)
def c9:F:=bK [12,70,74] B8
def T1:Tab:=((((((((((((((((((((((((((T0.wa 91 78 jf).fu 91 15 gJ).wa 131 109 gx).wa 173 149 b9).fu 173 14 pG).fu 173 17 j4).fu 173 18 j5).wa 201 191 gS).fu 201 14 lG).bh 212 jQ).bh 219 mR).bh 240 fO).fu 320 17 lI).fu 320 19 dj).fu 320 20 lK).bh 369 pJ).bh 429 wj).bh 436 aK).bh 444 pK).bh 480 iA).bh 497 eU).bh 502 gT).bh 523 f6).bh 544 zH).bh 556 pL).bh 563 c9)
def j7(k0:Nat):CO:=
 (ae (aX (bG k0 [(bM 4 (aa 25)),(bM 5 (aa 25)),(cT .tuple (cV k0 (fM (bM 6 (aa 25))) (.one 27) [] bV (aM T1.mt 14 (aa 27) [])))])) ak)
def j8:F:=bK [25] j7
def Dh(_k0:Nat):CO:=
 (ae (aX (ay jQ [(aa 28),(aa 1),(aJ .Add (cP qV) (cP jP))])) ak)
def Di(_k0:Nat):CO:=
 (ae (aX (ay jQ [(aa 28),(aa 1),(cP jP)])) ak)
def Dj(_k0:Nat):CO:=
 (ae (aX (ay jQ [(aa 28),(aJ .Add (aa 1) (cP (.int 1))),(cP jP)])) ak)
def Dk(_k0:Nat):CO:=
 (ae (aX (aJ .Add (aa 1) (cP (.int 1)))) ak)
def Dl(_k0:Nat):CO:=
 (ae (eF (K5 [(cP (.str "a sign that means nothing")),(aa 1)])) ak)
def uP(k0:Nat):CO:=
 (ae (dP (au (aQ .In (aa 32) (cP QZ))) (Dk k0) ak) (Dl k0))
def Dm(k0:Nat):CO:=
 (ae (dP (nO (au (aQ .Eq (aa 32) (cP (.str "-")))) (au (aQ .Gt (ay jQ [(aa 28),(aJ .Add (aa 1) (cP (.int 1))),(cP jP)]) (aJ .Add (aa 1) (cP (.int 1)))))) (Dj k0) ak) (uP k0))
def Dn(k0:Nat):CO:=
 (ae (dP (au (aQ .In (aa 32) (cP jP))) (Di k0) ak) (Dm k0))
def zI(k0:Nat):CO:=
 (ae (aN 32 (aL (aa 28) (aa 1))) (ae (dP (au (aQ .In (aa 32) (cP qV))) (Dh k0) ak) (Dn k0)))
def nU:F:=bK [28,1] zI
def rB(_k0:Nat):CO:=
 (ae (aX (cP (.bool false))) ak)
def rC(_k0:Nat):CO:=
 (ae (oU (aM T1.mt 20 (aa 25) [])) (ae (aX (cP (.bool true))) ak))
def lN(k0:Nat):CO:=
 (ae (dP (au (aQ .NotEq (aM T1.mt 17 (aa 25) []) (aa 17))) (rB k0) ak) (rC k0))
def lO:F:=bK [25,17] lN
def rD(_k0:Nat):CO:=
 (ae (eF (aM T1.mt 19 (aa 25) [(cP (.str "a name is missing"))])) ak)
def rE(_k0:Nat):CO:=
 (ae (aX (aM T1.mt 20 (aa 25) [])) ak)
def lP(k0:Nat):CO:=
 (ae (dP (e7 (au (ay fO [(aM T1.mt 17 (aa 25) [])]))) (rD k0) ak) (rE k0))
def lQ:F:=bK [25] lP
def pM(_k0:Nat):CO:=
 (ae (eF (aM T1.mt 19 (aa 25) [(cP (.str "no known glyph"))])) ak)
def pN(_k0:Nat):CO:=
 (ae (aX (aM T1.mt 20 (aa 25) [])) ak)
def j9(k0:Nat):CO:=
 (ae (dP (CQ (e7 (au (ay fO [(aM T1.mt 17 (aa 25) [])]))) (au (aQ .NotIn (aM T1.mt 17 (aa 25) []) (bM 13 (aa 25))))) (pM k0) ak) (pN k0))
def kc:F:=bK [25] j9
def e8(_k0:Nat):CO:=
 (ae (eF (aM T1.mt 19 (aa 25) [(aJ .Add (aJ .Add (aJ .Add (aJ .Add (cP (.str "a number from ")) (cT .str (aa 34))) (cP (.str " to "))) (cT .str (aa 35))) (cP (.str " is missing")))])) ak)
def oY(_k0:Nat):CO:=
 (ae (oU (aM T1.mt 20 (aa 25) [])) (ae (aX (cT .int (aa 17))) ak))
def jw(k0:Nat):CO:=
 (ae (aN 17 (aM T1.mt 17 (aa 25) [])) (ae (dP (CQ (au (aQ .Eq (aa 17) (cP (.str "")))) (CQ (au (aQ .NotIn (aL (aa 17) (nN (cP (.int 1)))) (cP jP))) (CQ (au (aQ .In (aL (aa 17) (cP (.int 0))) (cP qV))) (CQ (au (aQ .Gt (cT .len (aa 17)) (cP C8))) (e7 (NN .LtE .LtE (aa 34) (cT .int (aa 17)) (aa 35))))))) (e8 k0) ak) (oY k0)))
def jx:F:=bK [25,34,35] jw
def sU(_k0:Nat):CO:=
 (ae (eF (aM T1.mt 19 (aa 25) [(cP (.str "a tag is missing"))])) ak)
def sV(_k0:Nat):CO:=
 (ae (aX (aM T1.mt 20 (aa 25) [])) ak)
def mS(k0:Nat):CO:=
 (ae (dP (CQ (e7 (au (ay fO [(aM T1.mt 17 (aa 25) [])]))) (au (aQ .Gt (cT .len (aM T1.mt 17 (aa 25) [])) (cP (.int 4))))) (sU k0) ak) (sV k0))
def mT:F:=bK [25] mS
def se(_k0:Nat):CO:=
 (ae (aX (Qs (aQ .Eq (aM T1.mt 17 (aa 36) []) (cP (.str "["))) (ay fO [(aM T1.mt 17 (aa 36) [])]))) ak)
def mj:F:=bK [36] se
def iK(k0:Nat):CO:=
 (ae (oU (ry .append (aa 44) (bG k0 [(aJ .Sub (aa 43) (aL (aa 42) (cP (.int 0)))),(aa 4)]))) (ae (oU (ry .append (aa 41) (bG k0 [(aa 4),(aa 1)]))) ak))
def iL(k0:Nat):CO:=
 (ae (iS (fM (aL (aL (aa 38) (aa 43)) (cP (.int 2)))) (.many [4,1]) (iK k0)) ak)
def mq(k0:Nat):CO:=
 (ae (aN 37 (cV k0 (fM (aa 38)) (.one 45) [] bV (aL (aa 45) (cP (.int 0))))) (ae (aN 46 (cT .tuple (iu (aa 37) fi (aL (aa 42) (cP (.int 0)))))) (ae (aX (mQ 173 b9 [(cP (.str "chain")),(bG k0 [(aa 17),(aa 46),(cT .tuple (iu (aa 37) (aL (aa 42) (cP (.int 0))) (aJ .Add (aL (aa 42) (nN (cP (.int 1)))) (cP (.int 1))))),(cT .tuple (iu (aa 37) (aJ .Add (aL (aa 42) (nN (cP (.int 1)))) (cP (.int 1))) fi)),(cT .tuple (aa 44))])])) ak)))
def xJ(k0:Nat):CO:=
 (ae (aN 42 (cV k0 (cX (cT .len (aa 38))) (.one 43) [38] (au (aL (aL (aa 38) (aa 43)) (cP (.int 1)))) (aa 43))) (ae (aN 44 (eE k0 [])) (ae (iS (fM (aa 42)) (.one 43) (iL k0)) (mq k0))))
def pO:F:=bK [17,38,41] xJ
def yi(_k0:Nat):CO:=
 (ae (kW 1 (aa 36) (aa 40)) (ae (eF (aM T1.mt 19 (aa 36) [(cP (.str "a set outside of a chain"))])) ak))
def gn(k0:Nat):CO:=
 (ae (dP (au (aQ .Eq (aL (aL (bM 12 (aa 36)) (aa 40)) (cP (.int 0))) (cP (.str "[")))) (yi k0) ak) ak)
def sf(k0:Nat):CO:=
 (ae (iS (uK (aa 49) (bM 1 (aa 36))) (.one 40) (gn k0)) ak)
def mr:F:=bK [36,49] sf
def Bb(_k0:Nat):CO:=
 (ae (eF (aM T1.mt 19 (aa 36) [(cP (.str "a row of another kind"))])) ak)
def Bc(_k0:Nat):CO:=
 (ae (eF (aM T1.mt 19 (aa 36) [(cP (.str "a second row for the same glyphs"))])) ak)
def sj(_k0:Nat):CO:=
 (ae (kW 1 (aa 36) (aa 50)) ak)
def su(k0:Nat):CO:=
 (ae (dP (nO (au (aQ .NotEq (bM 7 (aa 27)) (cP (.str "chain")))) (au (aQ .In (aM T1.mt 18 (aa 27) []) (cV k0 (fM (aa 6)) (.one 26) [] bV (aM T1.mt 18 (aa 26) []))))) (Bc k0) ak) (sj k0))
def xK(k0:Nat):CO:=
 (ae (aN 50 (bM 1 (aa 36))) (ae (kW 1 (aa 36) (aa 40)) (ae (dP (nO (au (aQ .NotEq (aa 6) (aw k0 []))) (CQ (au (aQ .NotEq (bM 7 (aa 27)) (bM 7 (aL (aa 6) (cP (.int 0)))))) (au (aQ .NotEq (aM T1.mt 17 (aa 27) []) (aM T1.mt 17 (aL (aa 6) (cP (.int 0))) []))))) (Bb k0) ak) (su k0))))
def lR:F:=bK [36,6,27,40] xK
def xM(_k0:Nat):CO:=
 (ae (aX (aL (cP cN) (ay aK [(aa 53),(cT .len (cP cN))]))) ak)
def c5:F:=bK [53] xM
def Bd(k0:Nat):CO:=
 (ae (aX (bG k0 [(cP (.int 0)),(cP (.int 0)),(aL (aw k0 [(cP (.int 0)),(cP (.int 10)),(nN (cP (.int 20))),(cP (.int 32767)),(nN (cP (.int 32768)))]) (ay aK [(aa 53),(cP (.int 5))])),(cP (.int 0))])) ak)
def Be(k0:Nat):CO:=
 (ae (aX (cT .tuple (cV k0 (cX (cP (.int 4))) (.one 43) [53] bV (aL (aw k0 [(cP (.int 0)),(cP (.int 1)),(nN (cP (.int 5))),(cP (.int 300))]) (ay aK [(aa 53),(cP (.int 4))]))))) ak)
def xN(k0:Nat):CO:=
 (ae (dP (au (aQ .Eq (ay aK [(aa 53),(cP (.int 2))]) (cP (.int 0)))) (Bd k0) ak) (Be k0))
def lS:F:=bK [53] xN
def lT(_k0:Nat):CO:=
 (ae (aN 33 (aJ .Add (aa 33) (ay eU [(aa 37),(aa 69)]))) ak)
def lU(k0:Nat):CO:=
 (ae (aN 33 (aJ .Add (aa 33) (jI (au (aQ .Eq (aa 70) (aa 43))) (aw k0 [(cP (.str "lookup")),(aa 4)]) (aw k0 [])))) ak)
def lV(k0:Nat):CO:=
 (ae (aN 33 (aJ .Add (aJ .Add (aa 33) (ay eU [(aa 37),(aa 69)])) (aw k0 [(cP (.str "'"))]))) (ae (iS (fM (aL (aa 8) (cP (.int 4)))) (.many [70,4]) (lU k0)) ak))
def uQ(_k0:Nat):CO:=
 (ae (aN 33 (aJ .Add (aa 33) (ay eU [(aa 37),(aa 69)]))) ak)
def uR(k0:Nat):CO:=
 (ae (aX (aJ .Add (aa 33) (aw k0 [(cP (.str ";"))]))) ak)
def uS(k0:Nat):CO:=
 (ae (iS (fM (aL (aa 8) (cP (.int 3)))) (.one 37) (uQ k0)) (uR k0))
def uT(k0:Nat):CO:=
 (ae (iS (Jl (aL (aa 8) (cP (.int 2)))) (.many [43,37]) (lV k0)) (uS k0))
def uU(k0:Nat):CO:=
 (ae (aN 33 (aw k0 [(aL (aa 8) (cP (.int 0)))])) (ae (iS (fM (aL (aa 8) (cP (.int 1)))) (.one 37) (lT k0)) (uT k0)))
def lW(k0:Nat):CO:=
 (ae (aX (aJ .Add (aJ .Add (aJ .Add (aw k0 [(cP (.str "pos"))]) (cT .list (iu (aa 8) fi (nN (cP (.int 1)))))) (ay gT [(aL (aa 8) (nN (cP (.int 1)))),(aa 69)])) (aw k0 [(cP (.str ";"))]))) ak)
def sW(k0:Nat):CO:=
 (ae (aX (aJ .Add (aJ .Add (aw k0 [(cP (.str "sub")),(aL (aa 8) (cP (.int 0))),(cP (.str "from")),(cP (.str "["))]) (cT .list (aL (aa 8) (cP (.int 1))))) (aw k0 [(cP (.str "]")),(cP (.str ";"))]))) ak)
def kg(k0:Nat):CO:=
 (ae (aX (aJ .Add (aJ .Add (aJ .Add (aJ .Add (aw k0 [(cP (.str "sub"))]) (aa 18)) (aw k0 [(cP (.str "by"))])) (jI (au (aQ .NotEq (aa 47) (aw k0 []))) (aa 47) (aw k0 [(cP (.str "NULL"))]))) (aw k0 [(cP (.str ";"))]))) ak)
def sX(k0:Nat):CO:=
 (ae (aN 47 (jI (au (aQ .Eq (aa 7) (cP (.str "multiple")))) (cT .list (aL (aa 8) (cP (.int 1)))) (aw k0 [(aL (aa 8) (cP (.int 1)))]))) (kg k0))
def kh(k0:Nat):CO:=
 (ae (aN 18 (jI (au (aQ .Eq (aa 7) (cP (.str "ligature")))) (cT .list (aL (aa 8) (cP (.int 0)))) (aw k0 [(aL (aa 8) (cP (.int 0)))]))) (sX k0))
def sY(k0:Nat):CO:=
 (ae (dP (au (aQ .Eq (aa 7) (cP (.str "alternate")))) (sW k0) ak) (kh k0))
def ki(k0:Nat):CO:=
 (ae (dP (CQ (au (aQ .Eq (aa 7) (cP (.str "adjust")))) (au (aQ .Eq (aa 7) (cP (.str "pair"))))) (lW k0) ak) (sY k0))
def oF(k0:Nat):CO:=
 (ae (M5 [7,8] (aa 27)) (ae (dP (au (aQ .Eq (aa 7) (cP (.str "chain")))) (uU k0) ak) (ki k0)))
def jg:F:=bK [27,69] oF
def T2:Tab:=((((((((((((((T1.fu 131 14 j8).bh 226 nU).fu 320 21 lO).fu 320 4 lQ).fu 320 23 kc).fu 320 24 jx).fu 320 9 mT).bh 345 mj).bh 357 pO).bh 391 mr).bh 403 lR).bh 451 c5).bh 463 lS).bh 509 jg)
def oG(k0:Nat):CO:=
 (ae (aX (bG k0 [(cT .tuple (cV k0 (fM (bM 2 (aa 25))) (.one 26) [] bV (aM T2.mt 14 (aa 26) []))),(cT .tuple (cV k0 (fM (bM 3 (aa 25))) (.one 26) [] bV (aM T2.mt 14 (aa 26) [])))])) ak)
def oH:F:=bK [25] oG
def gU(_k0:Nat):ai→M Bool:=
 (au (aQ .Lt (aa 1) (cT .len (aa 28))))
def gV(k0:Nat):CO:=
 (ae (aN 30 (ay nU [(aa 28),(aa 1)])) (ae (oU (ry .append (aa 33) (bG k0 [(iu (aa 28) (aa 1) (aa 30)),(aa 1)]))) (ae (aN 1 (ay mR [(aa 28),(aa 30)])) ak)))
def uV(k0:Nat):CO:=
 (ae (oU (ry .append (aa 33) (bG k0 [(cP (.str "")),(cT .len (aa 28))]))) (ae (aX (aa 33)) ak))
def oJ(k0:Nat):CO:=
 (ae (aN 33 (eE k0 [])) (ae (aN 1 (ay mR [(aa 28),(cP (.int 0))])) (ae (gP (gU k0) (gV k0)) (uV k0))))
def jh:F:=bK [28] oJ
def rF(_k0:Nat):CO:=
 (ae (eF (aM T2.mt 19 (aa 25) [(aJ .Add (aa 17) (cP (.str " is missing")))])) ak)
def lX(k0:Nat):CO:=
 (ae (dP (e7 (au (aM T2.mt 21 (aa 25) [(aa 17)]))) (rF k0) ak) ak)
def lY:F:=bK [25,17] lX
def kj(_k0:Nat):ai→M Bool:=
 (e7 (au (aM T2.mt 21 (aa 36) [(cP (.str "]"))])))
def sZ(_k0:Nat):CO:=
 (ae (eF (aM T2.mt 19 (aa 36) [(cP (.str "a glyph twice in a set"))])) ak)
def s8(_k0:Nat):CO:=
 (ae (oU (ry .append (aa 33) (aM T2.mt 23 (aa 36) []))) ak)
def km(k0:Nat):CO:=
 (ae (dP (au (aQ .In (aM T2.mt 17 (aa 36) []) (aa 33))) (sZ k0) ak) (s8 k0))
def s9(_k0:Nat):CO:=
 (ae (kW 1 (aa 36) (aJ .Sub (bM 1 (aa 36)) (cP (.int 1)))) (ae (eF (aM T2.mt 19 (aa 36) [(cP (.str "an empty set"))])) ak))
def tm(_k0:Nat):CO:=
 (ae (aX (cT .tuple (aa 33))) ak)
def tn(k0:Nat):CO:=
 (ae (dP (au (aQ .Eq (aa 33) (aw k0 []))) (s9 k0) ak) (tm k0))
def mU(k0:Nat):CO:=
 (ae (aN 33 (eE k0 [])) (ae (gP (kj k0) (km k0)) (tn k0)))
def fP:F:=bK [36] mU
def pP(_k0:Nat):ai→M Bool:=
 (au (ay fO [(aM T2.mt 17 (aa 36) [])]))
def pQ(_k0:Nat):CO:=
 (ae (oU (ry .append (aa 33) (aM T2.mt 23 (aa 36) []))) ak)
def zJ(_k0:Nat):CO:=
 (ae (aX (cT .tuple (aa 33))) ak)
def uW(k0:Nat):CO:=
 (ae (aN 33 (eE k0 [(aM T2.mt 23 (aa 36) [])])) (ae (gP (pP k0) (pQ k0)) (zJ k0)))
def nV:F:=bK [36] uW
def uX(_k0:Nat):CO:=
 (ae (oU (ry .append (aa 33) (aa 23))) ak)
def eG(k0:Nat):CO:=
 (ae (aN 23 (ay c5 [(aa 53)])) (ae (dP (au (aQ .NotIn (aa 23) (aa 33))) (uX k0) ak) ak))
def Dp(_k0:Nat):CO:=
 (ae (aX (cT .tuple (aa 33))) ak)
def zK(k0:Nat):CO:=
 (ae (aN 33 (eE k0 [])) (ae (iS (cX (aJ .Add (aa 59) (ay aK [(aa 53),(aa 60)]))) (.one 43) (eG k0)) (Dp k0)))
def gy:F:=bK [53,59,60] zK
def pR(_k0:Nat):CO:=
 (ae (aN 33 (aJ .Add (aa 33) (ay jg [(aa 27),(aa 69)]))) ak)
def pS(k0:Nat):CO:=
 (ae (aX (aJ .Add (aa 33) (aw k0 [(cP (.str "}"))]))) ak)
def fz(k0:Nat):CO:=
 (ae (iS (fM (aa 6)) (.one 27) (pR k0)) (pS k0))
def kq(k0:Nat):CO:=
 (ae (M5 [4,5,6] (aa 71)) (ae (aN 33 (aJ .Add (aJ .Add (aw k0 [(cP (.str "lookup")),(aa 4)]) (jI (CQ (au (aQ .Gt (aa 5) (cP (.int 0)))) (au (aa 69))) (aw k0 [(cP (.str "flag")),(cT .str (aa 5))]) (aw k0 []))) (aw k0 [(cP (.str "{"))]))) (fz k0)))
def gz:F:=bK [71,69] kq
def T3:Tab:=(((((((T2.fu 91 14 oH).bh 233 jh).fu 320 22 lY).bh 331 fP).bh 364 nV).bh 458 gy).bh 516 gz)
def lZ(_k0:Nat):CO:=
 (ae (kW 12 (aa 25) (ay jh [(aa 28)])) (ae (kW 13 (aa 25) (aa 13)) (ae (kW 1 (aa 25) (cP (.int 0))) ak)))
def gW:F:=bK [25,28,13] lZ
def Bg(k0:Nat):CO:=
 (ae (aX (bG k0 [(aa 37),(cP (.bool false)),(aw k0 [])])) ak)
def sy(_k0:Nat):ai→M Bool:=
 (au (aM T3.mt 21 (aa 36) [(cP (.str "lookup"))]))
def sA(_k0:Nat):CO:=
 (ae (oU (ry .append (aa 2) (aL (bM 12 (aa 36)) (bM 1 (aa 36))))) (ae (oU (aM T3.mt 4 (aa 36) [])) ak))
def Bh(k0:Nat):CO:=
 (ae (aX (bG k0 [(aa 37),(cP (.bool true)),(aa 2)])) ak)
def Bj(k0:Nat):CO:=
 (ae (aN 2 (eE k0 [])) (ae (gP (sy k0) (sA k0)) (Bh k0)))
def sD(k0:Nat):CO:=
 (ae (dP (e7 (au (aM T3.mt 21 (aa 36) [(cP (.str "'"))]))) (Bg k0) ak) (Bj k0))
def xO(k0:Nat):CO:=
 (ae (aN 37 (jI (au (aM T3.mt 21 (aa 36) [(cP (.str "["))])) (ay fP [(aa 36)]) (bG k0 [(aM T3.mt 23 (aa 36) [])]))) (sD k0))
def l7:F:=bK [36] xO
def kY(k0:Nat):CO:=
 (ae (oU (aM T3.mt 22 (aa 36) [(cP (.str "["))])) (ae (aX (mQ 173 b9 [(cP (.str "alternate")),(bG k0 [(aL (aa 18) (cP (.int 0))),(ay fP [(aa 36)])])])) ak))
def k6(k0:Nat):CO:=
 (ae (aX (mQ 173 b9 [(cP (.str "ligature")),(bG k0 [(aa 18),(aM T3.mt 23 (aa 36) [])])])) ak)
def k7(k0:Nat):CO:=
 (ae (aX (mQ 173 b9 [(cP (.str "multiple")),(bG k0 [(aL (aa 18) (cP (.int 0))),(bG k0 [])])])) ak)
def k8(k0:Nat):CO:=
 (ae (aX (mQ 173 b9 [(cP (.str "single")),(bG k0 [(aL (aa 18) (cP (.int 0))),(aL (aa 47) (cP (.int 0)))])])) ak)
def k9(k0:Nat):CO:=
 (ae (aX (mQ 173 b9 [(cP (.str "multiple")),(bG k0 [(aL (aa 18) (cP (.int 0))),(aa 47)])])) ak)
def lg(k0:Nat):CO:=
 (ae (aN 47 (ay nV [(aa 36)])) (ae (dP (au (aQ .Eq (cT .len (aa 47)) (cP (.int 1)))) (k8 k0) ak) (k9 k0)))
def lh(k0:Nat):CO:=
 (ae (dP (au (aM T3.mt 21 (aa 36) [(cP (.str "NULL"))])) (k7 k0) ak) (lg k0))
def fX(k0:Nat):CO:=
 (ae (oU (aM T3.mt 22 (aa 36) [(cP (.str "by"))])) (ae (dP (au (aQ .Gt (cT .len (aa 18)) (cP (.int 1)))) (k6 k0) ak) (lh k0)))
def gK(k0:Nat):CO:=
 (ae (aN 18 (cT .tuple (cV k0 (fM (aa 38)) (.one 45) [] bV (aL (aL (aa 45) (cP (.int 0))) (cP (.int 0)))))) (ae (dP (nO (au (aQ .Eq (cT .len (aa 18)) (cP (.int 1)))) (au (aM T3.mt 21 (aa 36) [(cP (.str "from"))]))) (kY k0) ak) (fX k0)))
def dW:F:=bK [36,38] gK
def zL(k0:Nat):CO:=
 (ae (aX (bG k0 [(cP (.int 0)),(cP (.int 0)),(aM T3.mt 24 (aa 36) [(aa 34),(cP fN)]),(cP (.int 0))])) ak)
def zM(k0:Nat):CO:=
 (ae (aN 33 (cV k0 (cX (cP (.int 4))) (.one 48) [34,36] bV (aM T3.mt 24 (aa 36) [(aa 34),(cP fN)]))) (ae (oU (aM T3.mt 22 (aa 36) [(cP (.str ">"))])) (ae (aX (cT .tuple (aa 33))) ak)))
def uY(k0:Nat):CO:=
 (ae (aN 34 (aJ .Sub (nN (cP fN)) (cP (.int 1)))) (ae (dP (e7 (au (aM T3.mt 21 (aa 36) [(cP (.str "<"))]))) (zL k0) ak) (zM k0)))
def nW:F:=bK [36] uY
def mV(_k0:Nat):ai→M Bool:=
 (au (ay fO [(aM T3.mt 17 (aa 36) [])]))
def mW(_k0:Nat):CO:=
 (ae (oU (ry .append (aa 41) (aL (bM 12 (aa 36)) (bM 1 (aa 36))))) (ae (oU (ry .append (aa 2) (aM T3.mt 20 (aa 36) []))) ak))
def wk(_k0:Nat):CO:=
 (ae (eF (aM T3.mt 19 (aa 36) [(cP (.str "a feature without lookups"))])) ak)
def wm(_k0:Nat):CO:=
 (ae (oU (aM T3.mt 22 (aa 36) [(cP (.str "}"))])) (ae (aX (mQ 201 gS [(aa 9),(aa 10),(aa 11),(cT .tuple (aa 2))])) ak))
def wo(k0:Nat):CO:=
 (ae (dP (au (aQ .Eq (aa 2) (aw k0 []))) (wk k0) ak) (wm k0))
def mX(k0:Nat):CO:=
 (ae (oU (aM T3.mt 22 (aa 36) [(cP (.str "{"))])) (ae (aN 2 (eE k0 [])) (ae (gP (mV k0) (mW k0)) (wo k0))))
def mY(k0:Nat):CO:=
 (ae (aN 11 (jI (au (aM T3.mt 21 (aa 36) [(cP (.str "language"))])) (aM T3.mt 9 (aa 36) []) (cP (.str "dflt")))) (mX k0))
def pT(k0:Nat):CO:=
 (ae (aN 9 (aM T3.mt 9 (aa 36) [])) (ae (aN 10 (jI (au (aM T3.mt 21 (aa 36) [(cP (.str "script"))])) (aM T3.mt 9 (aa 36) []) (cP (.str "DFLT")))) (mY k0)))
def kr:F:=bK [36,41] pT
def iM(k0:Nat):CO:=
 (ae (oU (ry .append (aa 44) (bG k0 [(aa 43),(aL (aa 13) (ay aK [(aa 53),(cT .len (aa 13))]))]))) ak)
def iN(k0:Nat):CO:=
 (ae (iS (cX (ay aK [(aa 53),(cP (.int 3))])) (.one 48) (iM k0)) ak)
def Bk(k0:Nat):CO:=
 (ae (aX (bG k0 [(cP (.str "chain")),(bG k0 [(aa 17),(aa 46),(aa 62),(aa 63),(cT .tuple (aa 44))])])) ak)
def xP(k0:Nat):CO:=
 (ae (aN 17 (aL (aw k0 [(cP (.str "sub")),(cP (.str "pos"))]) (ay aK [(aa 53),(cP (.int 2))]))) (ae (aN 46 (cT .tuple (cV k0 (cX (ay aK [(aa 53),(cP (.int 3))])) (.one 43) [53] bV (ay gy [(aa 53),(cP (.int 1)),(cP (.int 2))])))) (ae (aN 62 (cT .tuple (cV k0 (cX (aJ .Add (cP (.int 1)) (ay aK [(aa 53),(cP (.int 2))]))) (.one 43) [53] bV (ay gy [(aa 53),(cP (.int 1)),(cP (.int 2))])))) (ae (aN 63 (cT .tuple (cV k0 (cX (ay aK [(aa 53),(cP (.int 2))])) (.one 43) [53] bV (ay gy [(aa 53),(cP (.int 1)),(cP (.int 2))])))) (ae (aN 44 (eE k0 [])) (ae (iS (cX (cT .len (aa 62))) (.one 43) (iN k0)) (Bk k0)))))))
def pU:F:=bK [53,13] xP
def Bl(_k0:Nat):CO:=
 (ae (aN 33 (aJ .Add (aa 33) (ay gz [(aa 71),(aa 69)]))) ak)
def Bo(_k0:Nat):CO:=
 (ae (aN 33 (aJ .Add (aa 33) (ay f6 [(aa 72),(aa 69)]))) ak)
def Bp(_k0:Nat):CO:=
 (ae (aX (aa 33)) ak)
def Bq(k0:Nat):CO:=
 (ae (iS (fM (aL (aa 51) (cP (.int 1)))) (.one 72) (Bo k0)) (Bp k0))
def xQ(k0:Nat):CO:=
 (ae (aN 33 (aw k0 [])) (ae (iS (fM (aL (aa 51) (cP (.int 0)))) (.one 71) (Bl k0)) (Bq k0)))
def gM:F:=bK [51,69] xQ
def T4:Tab:=(((((((T3.wa 320 254 gW).bh 338 l7).bh 374 dW).bh 379 nW).bh 417 kr).bh 468 pU).bh 530 gM)
def ku(_k0:Nat):ai→M Bool:=
 (au (ay mj [(aa 36)]))
def zN(_k0:Nat):CO:=
 (ae (kW 1 (aa 36) (aa 40)) (ae (eF (aM T4.mt 19 (aa 36) [(cP (.str "what is marked does not stand in a row"))])) ak))
def pV(k0:Nat):CO:=
 (ae (dP (nO (au (aa 39)) (au (aL (aL (aa 38) (nN (cP (.int 1)))) (cP (.int 1))))) (zN k0) ak) ak)
def pW(k0:Nat):CO:=
 (ae (oU (ry .append (aa 38) (ay l7 [(aa 36)]))) (ae (aN 39 (Qs (aa 39) (r9 (aL (aL (aa 38) (nN (cP (.int 2)))) (cP (.int 1))) (MU (aL (aL (aa 38) (nN (cP (.int 1)))) (cP (.int 1))))))) (pV k0)))
def ky(k0:Nat):CO:=
 (ae (aN 40 (bM 1 (aa 36))) (pW k0))
def zO(_k0:Nat):CO:=
 (ae (aX (aa 38)) ak)
def uZ(k0:Nat):CO:=
 (ae (aN 38 (eE k0 [(ay l7 [(aa 36)])])) (ae (aN 39 (cP (.bool false))) (ae (gP (ku k0) (ky k0)) (zO k0))))
def nX:F:=bK [36] uZ
def oZ(_k0:Nat):CO:=
 (ae (eF (aM T4.mt 19 (aa 36) [(cP (.str "at most two glyphs have a place"))])) ak)
def o6(k0:Nat):CO:=
 (ae (aX (mQ 173 b9 [(jI (au (aQ .Eq (cT .len (aa 18)) (cP (.int 1)))) (cP (.str "adjust")) (cP (.str "pair"))),(aJ .Add (aa 18) (bG k0 [(ay nW [(aa 36)])]))])) ak)
def jy(k0:Nat):CO:=
 (ae (aN 18 (cT .tuple (cV k0 (fM (aa 38)) (.one 45) [] bV (aL (aL (aa 45) (cP (.int 0))) (cP (.int 0)))))) (ae (dP (au (aQ .Gt (cT .len (aa 18)) (cP (.int 2)))) (oZ k0) ak) (o6 k0)))
def f7:F:=bK [36,38] jy
def FT(_k0:Nat):CO:=
 (ae (aX (ay pU [(aa 53),(aa 13)])) ak)
def FU(k0:Nat):CO:=
 (ae (aX (bG k0 [(aa 7),(bG k0 [(aa 64),(ay c5 [(aa 53)])])])) ak)
def FW(k0:Nat):CO:=
 (ae (aN 54 (aL (aw k0 [(cP (.int 0)),(cP (.int 2)),(cP (.int 3))]) (ay aK [(aa 53),(cP (.int 3))]))) (ae (aX (bG k0 [(aa 7),(bG k0 [(aa 64),(cT .tuple (cV k0 (cX (aa 54)) (.one 43) [53] bV (ay c5 [(aa 53)])))])])) ak))
def FY(k0:Nat):CO:=
 (ae (aX (bG k0 [(aa 7),(bG k0 [(aa 64),(ay gy [(aa 53),(cP (.int 1)),(cP (.int 3))])])])) ak)
def FZ(k0:Nat):CO:=
 (ae (aN 65 (cT .tuple (cV k0 (cX (aJ .Add (cP (.int 1)) (ay aK [(aa 53),(cP (.int 2))]))) (.one 43) [53] bV (ay c5 [(aa 53)])))) (ae (aX (bG k0 [(aa 7),(bG k0 [(aJ .Add (bG k0 [(aa 64)]) (aa 65)),(ay c5 [(aa 53)])])])) ak))
def F0(k0:Nat):CO:=
 (ae (aX (bG k0 [(aa 7),(bG k0 [(aa 64),(ay lS [(aa 53)])])])) ak)
def F4(k0:Nat):CO:=
 (ae (aX (bG k0 [(aa 7),(bG k0 [(aa 64),(ay c5 [(aa 53)]),(ay lS [(aa 53)])])])) ak)
def F5(k0:Nat):CO:=
 (ae (dP (au (aQ .Eq (aa 7) (cP (.str "adjust")))) (F0 k0) ak) (F4 k0))
def F6(k0:Nat):CO:=
 (ae (dP (au (aQ .Eq (aa 7) (cP (.str "ligature")))) (FZ k0) ak) (F5 k0))
def Dq(k0:Nat):CO:=
 (ae (dP (au (aQ .Eq (aa 7) (cP (.str "alternate")))) (FY k0) ak) (F6 k0))
def Dr(k0:Nat):CO:=
 (ae (dP (au (aQ .Eq (aa 7) (cP (.str "multiple")))) (FW k0) ak) (Dq k0))
def Ds(k0:Nat):CO:=
 (ae (aN 64 (ay c5 [(aa 53)])) (ae (dP (au (aQ .Eq (aa 7) (cP (.str "single")))) (FU k0) ak) (Dr k0)))
def B9(k0:Nat):CO:=
 (ae (dP (au (aQ .Eq (aa 7) (cP (.str "chain")))) (FT k0) ak) (Ds k0))
def wu:F:=bK [53,7,13] B9
def T5:Tab:=(((T4.bh 352 nX).bh 384 f7).bh 473 wu)
def Dt(_k0:Nat):CO:=
 (ae (aN 27 (ay pO [(aa 17),(aa 38),(aa 41)])) ak)
def Du(_k0:Nat):CO:=
 (ae (oU (ay mr [(aa 36),(aa 49)])) (ae (aN 27 (jI (au (aQ .Eq (aa 17) (cP (.str "sub")))) (ay dW [(aa 36),(aa 38)]) (ay f7 [(aa 36),(aa 38)]))) ak))
def u0(_k0:Nat):CO:=
 (ae (oU (aM T5.mt 22 (aa 36) [(cP (.str ";"))])) (ae (aX (aa 27)) ak))
def zQ(k0:Nat):CO:=
 (ae (aN 17 (aM T5.mt 20 (aa 36) [])) (ae (aN 49 (bM 1 (aa 36))) (ae (aN 38 (ay nX [(aa 36)])) (ae (dP (au (ay pJ [(aa 38)])) (Dt k0) (Du k0)) (u0 k0)))))
def tq:F:=bK [36,41] zQ
def pX(k0:Nat):CO:=
 (ae (aN 27 (bG k0 [(aa 7),(aJ .Add (bG k0 [(aL (aL (aL (aa 6) (cP (.int 0))) (cP (.int 1))) (cP (.int 0)))]) (iu (aL (aa 27) (cP (.int 1))) (cP (.int 1)) fi))])) ak)
def pY(_k0:Nat):CO:=
 (ae (oU (ry .append (aa 6) (aa 27))) ak)
def gX(k0:Nat):CO:=
 (ae (dP (CQ (au (aQ .Is (ay iA [(aa 27)]) (cP .none))) (au (aQ .NotIn (ay iA [(aa 27)]) (cV k0 (fM (aa 6)) (.one 26) [] bV (ay iA [(aa 26)]))))) (pY k0) ak) ak)
def dX(k0:Nat):CO:=
 (ae (aN 27 (ay wu [(aa 53),(aa 7),(aa 13)])) (ae (dP (nO (au (aQ .Eq (aa 7) (cP (.str "chain")))) (au (aQ .NotEq (aa 6) (aw k0 [])))) (pX k0) ak) (gX k0)))
def zR(k0:Nat):CO:=
 (ae (aX (bG k0 [(aa 4),(aL (aw k0 [(cP (.int 0)),(cP (.int 8)),(cP (.int 65535)),(cP (.int 256))]) (ay aK [(aa 53),(cP (.int 4))])),(cT .tuple (aa 6))])) ak)
def u1(k0:Nat):CO:=
 (ae (aN 7 (aL (ay pK []) (ay aK [(aa 53),(cP (.int 8))]))) (ae (aN 6 (eE k0 [])) (ae (iS (cX (aJ .Add (cP (.int 1)) (ay aK [(aa 53),(cP (.int 2))]))) (.one 48) (dX k0)) (zR k0))))
def fQ:F:=bK [53,4,13] u1
def T6:Tab:=((T5.bh 398 tq).bh 485 fQ)
def jj(k0:Nat):ai→M Bool:=
 (au (aQ .In (aM T6.mt 17 (aa 36) []) (bG k0 [(cP (.str "sub")),(cP (.str "pos"))])))
def yj(_k0:Nat):CO:=
 (ae (aN 27 (ay tq [(aa 36),(aa 41)])) (ae (oU (ay lR [(aa 36),(aa 6),(aa 27),(aa 40)])) (ae (oU (ry .append (aa 6) (aa 27))) ak)))
def jk(k0:Nat):CO:=
 (ae (aN 40 (bM 1 (aa 36))) (yj k0))
def yk(_k0:Nat):CO:=
 (ae (eF (aM T6.mt 19 (aa 36) [(cP (.str "a lookup without rows"))])) ak)
def yl(_k0:Nat):CO:=
 (ae (oU (aM T6.mt 22 (aa 36) [(cP (.str "}"))])) (ae (aX (mQ 131 gx [(aa 4),(aa 5),(aa 6)])) ak))
def ym(k0:Nat):CO:=
 (ae (dP (au (aQ .Eq (aa 6) (aw k0 []))) (yk k0) ak) (yl k0))
def oK(k0:Nat):CO:=
 (ae (oU (aM T6.mt 22 (aa 36) [(cP (.str "{"))])) (ae (aN 6 (eE k0 [])) (ae (gP (jj k0) (jk k0)) (ym k0))))
def sF(k0:Nat):CO:=
 (ae (aN 4 (aM T6.mt 4 (aa 36) [])) (ae (aN 5 (jI (au (aM T6.mt 21 (aa 36) [(cP (.str "flag"))])) (aM T6.mt 24 (aa 36) [(cP (.int 0)),(cP FF)]) (cP (.int 0)))) (oK k0)))
def mu:F:=bK [36,41] sF
def dH(k0:Nat):CO:=
 (ae (aN 9 (aL (aw k0 [(cP (.str "liga")),(cP (.str "ss01")),(cP (.str "k")),(cP (.str "_x"))]) (ay aK [(aa 53),(cP (.int 4))]))) (ae (aN 10 (aL (aw k0 [(cP (.str "DFLT")),(cP (.str "latn")),(cP (.str "arab"))]) (ay aK [(aa 53),(cP (.int 3))]))) (ae (aN 11 (aL (aw k0 [(cP (.str "dflt")),(cP (.str "DEU"))]) (ay aK [(aa 53),(cP (.int 2))]))) (ae (aN 66 (cT .tuple (cV k0 (cX (aJ .Add (cP (.int 1)) (ay aK [(aa 53),(cP (.int 2))]))) (.one 43) [13,53] bV (aL (aa 13) (ay aK [(aa 53),(cT .len (aa 13))]))))) (ae (oU (ry .append (aa 3) (bG k0 [(aa 9),(aa 10),(aa 11),(aa 66)]))) ak)))))
def u2(k0:Nat):CO:=
 (ae (aX (bG k0 [(aa 2),(cT .tuple (aa 3))])) ak)
def oM(k0:Nat):CO:=
 (ae (aN 13 (iu (aw k0 [(cP (.str "L0")),(cP (.str "liga")),(cP (.str "k.2"))]) fi (aJ .Add (cP (.int 1)) (ay aK [(aa 53),(cP (.int 3))])))) (ae (aN 2 (cT .tuple (cV k0 (fM (aa 13)) (.one 4) [13,53] bV (ay fQ [(aa 53),(aa 4),(aa 13)])))) (ae (aN 3 (eE k0 [])) (ae (iS (cX (ay aK [(aa 53),(cP (.int 3))])) (.one 48) (dH k0)) (u2 k0)))))
def jl:F:=bK [53] oM
def T7:Tab:=((T6.bh 410 mu).bh 490 jl)
def kC(_k0:Nat):ai→M Bool:=
 (au (aQ .NotEq (aM T7.mt 17 (aa 36) []) (cP (.str ""))))
def zS(_k0:Nat):CO:=
 (ae (eF (aM T7.mt 19 (aa 36) [(cP (.str "a lookup told twice"))])) ak)
def zT(_k0:Nat):CO:=
 (ae (oU (ry .append (bM 2 (aa 51)) (ay mu [(aa 36),(aa 41)]))) ak)
def zU(k0:Nat):CO:=
 (ae (dP (au (aQ .GtE (aM T7.mt 15 (aa 51) [(aM T7.mt 17 (aa 36) [])]) (cP (.int 0)))) (zS k0) ak) (zT k0))
def zV(_k0:Nat):CO:=
 (ae (oU (aM T7.mt 22 (aa 36) [(cP (.str "feature"))])) (ae (oU (ry .append (bM 3 (aa 51)) (ay kr [(aa 36),(aa 41)]))) ak))
def kD(k0:Nat):CO:=
 (ae (dP (au (aM T7.mt 21 (aa 36) [(cP (.str "lookup"))])) (zU k0) (zV k0)) ak)
def zW(_k0:Nat):CO:=
 (ae (eF (K5 [(aJ .Add (cP (.str "no lookup ")) (aa 4)),(aa 1)])) ak)
def gY(k0:Nat):CO:=
 (ae (dP (au (aQ .Lt (aM T7.mt 15 (aa 51) [(aa 4)]) (cP (.int 0)))) (zW k0) ak) ak)
def zX(_k0:Nat):CO:=
 (ae (aX (aa 51)) ak)
def jm(k0:Nat):CO:=
 (ae (iS (fM (aa 41)) (.many [4,1]) (gY k0)) (zX k0))
def u3(k0:Nat):CO:=
 (ae (aN 36 (mQ 320 gW [(aa 28),(aa 13)])) (ae (aN 51 (mQ 91 jf [(eE k0 []),(eE k0 [])])) (ae (aN 41 (eE k0 [])) (ae (gP (kC k0) (kD k0)) (jm k0)))))
def nY:F:=bK [28,13] u3
def T8:Tab:=(T7.bh 424 nY)
def sG(_k0:Nat):CO:=
 (ae (aX (jI (au (aQ .Is (aa 43) (cP .none))) (aa 33) (aa 43))) ak)
def xR(k0:Nat):CO:=
 (ae (aN 43 (cP .none)) (ae (HX 33 43 52 (aM T8.mt 14 (ay nY [(ry .join (cP (.str " ")) (aa 12)),(cP cN)]) [])) (sG k0)))
def fB:F:=bK [12] xR
def T9:Tab:=(T8.bh 537 fB)
def xS(_k0:Nat):CO:=
 (ae (aX (aQ .Eq (ay fB [(aa 12)]) (jI (au (aQ .Lt (aa 70) (cT .len (aa 12)))) (ay zH [(aa 12),(aa 70)]) (cT .len (ry .join (cP (.str " ")) (aa 12)))))) ak)
def aD:F:=bK [12,70] xS
def VU:Tab:=(T9.bh 551 aD)
def tu(_k0:Nat):CO:=
 (ae (aX (ay aD [(aa 27),(aa 43)])) ak)
def gA(k0:Nat):CO:=
 (ae (dP (nO (au (aa 78)) (au (aQ .NotIn (aL (aa 27) (aa 43)) (aa 77)))) (tu k0) ak) ak)
def bE(k0:Nat):CO:=
 (ae (aN 78 (r9 (aQ .Eq (aL (aa 27) (aJ .Sub (aa 43) (cP (.int 1)))) (cP (.str "lookup"))) (r9 (aQ .Gt (aa 43) (cP (.int 1))) (aQ .NotEq (aL (aa 27) (aJ .Sub (aa 43) (cP (.int 2)))) (cP (.str "}")))))) (gA k0))
def eH(_k0:Nat):CO:=
 (ae (aX (aQ .Eq (ay fB [(aa 27)]) (aa 76))) ak)
def mZ(k0:Nat):CO:=
 (ae (aN 75 (cV k0 (uK (cP (.int 1)) (aJ .Add (cT .len (aL (aa 51) (cP (.int 0)))) (cP (.int 1)))) (.one 79) [51] bV (bG k0 [(cT .tuple (iu (aL (aa 51) (cP (.int 0))) fi (aa 79))),(bG k0 [])]))) (ae (aN 75 (aJ .Add (aa 75) (cV k0 (uK (cP (.int 1)) (aJ .Add (cT .len (aL (aa 51) (cP (.int 1)))) (cP (.int 1)))) (.one 79) [51] bV (bG k0 [(aL (aa 51) (cP (.int 0))),(cT .tuple (iu (aL (aa 51) (cP (.int 1))) fi (aa 79)))])))) (ae (aN 76 (aL (cV k0 (fM (aa 75)) (.one 26) [27] (au (aQ .Eq (ay gM [(aa 26),(cP (.bool false))]) (aa 27))) (aa 26)) (cP (.int 0)))) (ae (aN 77 (cV k0 (fM (aL (aa 76) (cP (.int 0)))) (.one 71) [] bV (aL (aa 71) (cP (.int 0))))) (ae (iS (cX (cT .len (aa 27))) (.one 43) (bE k0)) (eH k0))))))
def iB:F:=bK [51,27] mZ
def tw(_k0:Nat):CO:=
 (ae (aX (cP (.bool false))) ak)
def tB(_k0:Nat):CO:=
 (ae (aX (cP (.bool false))) ak)
def kE(_k0:Nat):CO:=
 (ae (aX (cP (.bool false))) ak)
def tC(k0:Nat):CO:=
 (ae (aN 82 (aw k0 [(Fv "sub" "pos" "pos" "sub" (aL (aL (aa 64) (cP (.int 1))) (cP (.int 0)))),(cP (.str "a")),(cP (.str "'")),(cP (.str ";"))])) (ae (dP (e7 (au (ay aD [(ay c9 [(aa 12),(aa 30),(aa 82)]),(aa 30)]))) (kE k0) ak) ak))
def tD(_k0:Nat):CO:=
 (ae (aX (cP (.bool false))) ak)
def tE(k0:Nat):CO:=
 (ae (aN 27 (iu (aa 12) (aa 49) (aJ .Add (ry .index (aa 12) (cP (.str ";"))) (cP (.int 1))))) (ae (dP (e7 (au (ay aD [(ay c9 [(aa 12),(aa 30),(aa 27)]),(aa 30)]))) (tD k0) ak) ak))
def tF(_k0:Nat):CO:=
 (ae (aX (cP (.bool false))) ak)
def gB(k0:Nat):CO:=
 (ae (dP (e7 (au (ay aD [(ay c9 [(aa 12),(aa 49),(aa 84)]),(aJ .Add (aa 49) (aa 43))]))) (tF k0) ak) ak)
def kF(_k0:Nat):CO:=
 (ae (aX (cP (.bool true))) ak)
def dS(k0:Nat):CO:=
 (ae (aN 83 (aw k0 [(bG k0 [(aw k0 [(cP (.str "sub")),(cP (.str "by")),(cP (.str "by")),(cP (.str "a")),(cP (.str ";"))]),(cP (.int 1))]),(bG k0 [(aw k0 [(cP (.str "sub")),(cP (.str "zz")),(cP (.str "by")),(cP (.str "a")),(cP (.str ";"))]),(cP (.int 1))]),(bG k0 [(aw k0 [(cP (.str "sub")),(cP (.str "a")),(cP (.str "by")),(cP (.str "flag")),(cP (.str ";"))]),(cP (.int 3))]),(bG k0 [(aw k0 [(cP (.str "pos")),(cP (.str "a")),(cP (.str "x")),(cP (.str ";"))]),(cP (.int 2))]),(bG k0 [(aw k0 [(cP (.str "sub")),(cP (.str "a")),(cP (.str "[")),(cP (.str "b")),(cP (.str "zz")),(cP (.str "]")),(cP (.str "by")),(cP (.str "a")),(cP (.str ";"))]),(cP (.int 4))])])) (ae (iS (fM (aa 83)) (.many [84,43]) (gB k0)) (kF k0)))
def jz(k0:Nat):CO:=
 (ae (dP (au (aQ .Eq (aa 7) (cP (.str "chain")))) (tC k0) (tE k0)) (dS k0))
def rG(k0:Nat):CO:=
 (ae (aN 49 (aJ .Add (ry .index (aa 12) (cP (.str "{"))) (cP (.int 1)))) (ae (dP (e7 (au (ay aD [(aJ .Add (iu (aa 12) fi (aa 49)) (iu (aa 12) (aa 30) fi)),(aa 49)]))) (tB k0) ak) (jz k0)))
def jA(k0:Nat):CO:=
 (ae (dP (e7 (au (ay aD [(ay c9 [(aa 12),(aa 30),(aa 82)]),(aa 30)]))) (tw k0) ak) (rG k0))
def m5(k0:Nat):CO:=
 (ae (aN 7 (aL (aa 64) (cP (.int 0)))) (ae (aN 30 (ry .index (aa 12) (cP (.str "}")))) (ae (aN 82 (jI (au (aQ .NotEq (aa 7) (cP (.str "pair")))) (aw k0 [(cP (.str "pos")),(cP (.str "a")),(cP (.str "b")),(cP (.str "1")),(cP (.str ";"))]) (aw k0 [(cP (.str "sub")),(cP (.str "a")),(cP (.str "by")),(cP (.str "b")),(cP (.str ";"))]))) (jA k0))))
def iC:F:=bK [12,64] m5
def iU(_k0:Nat):CO:=
 (ae (aX (cP (.bool false))) ak)
def pZ(k0:Nat):CO:=
 (ae (aN 85 (aJ .Add (aJ .Add (aJ .Add (aw k0 [(cP (.str "lookup")),(cP (.str "new")),(cP (.str "{"))]) (aa 27)) (aw k0 [(cP (.str "}"))])) (aa 12))) (ae (dP (e7 (au (ay aD [(aa 85),(aJ .Add (cP (.int 3)) (aa 43))]))) (iU k0) ak) ak))
def p7(_k0:Nat):CO:=
 (ae (aX (cP (.bool false))) ak)
def p8(k0:Nat):CO:=
 (ae (dP (e7 (au (ay aD [(ay c9 [(aa 12),(aa 49),(aa 27)]),(aJ .Add (aa 49) (aa 43))]))) (p7 k0) ak) ak)
def fC(k0:Nat):CO:=
 (ae (dP (au (aQ .Eq (aL (aa 27) (nN (cP (.int 2)))) (cP (.str "nowhere")))) (pZ k0) (p8 k0)) ak)
def iV(_k0:Nat):CO:=
 (ae (aX (cP (.bool true))) ak)
def kG(k0:Nat):CO:=
 (ae (aN 6 (aw k0 [(bG k0 [(aw k0 [(cP (.str "sub")),(cP (.str "[")),(cP (.str "a")),(cP (.str "]")),(cP (.str "by")),(cP (.str "b")),(cP (.str ";"))]),(cP (.int 1))]),(bG k0 [(aw k0 [(cP (.str "sub")),(cP (.str "a")),(cP (.str "b")),(cP (.str "from")),(cP (.str "[")),(cP (.str "c")),(cP (.str "]")),(cP (.str ";"))]),(cP (.int 3))]),(bG k0 [(aw k0 [(cP (.str "sub")),(cP (.str "a")),(cP (.str "from")),(cP (.str "[")),(cP (.str "]")),(cP (.str ";"))]),(cP (.int 4))]),(bG k0 [(aw k0 [(cP (.str "sub")),(cP (.str "a")),(cP (.str "from")),(cP (.str "[")),(cP (.str "b")),(cP (.str "c")),(cP (.str "b")),(cP (.str "]")),(cP (.str ";"))]),(cP (.int 6))]),(bG k0 [(aw k0 [(cP (.str "pos")),(cP (.str "a")),(cP (.str "b")),(cP (.str "c")),(cP (.str "5")),(cP (.str ";"))]),(cP (.int 4))]),(bG k0 [(aw k0 [(cP (.str "pos")),(cP (.str "a")),(cP (.str "32768")),(cP (.str ";"))]),(cP (.int 2))]),(bG k0 [(aw k0 [(cP (.str "pos")),(cP (.str "a")),(cP (.str "-32769")),(cP (.str ";"))]),(cP (.int 2))]),(bG k0 [(aw k0 [(cP (.str "pos")),(cP (.str "a")),(cP (.str "<")),(cP (.str "1")),(cP (.str "2")),(cP (.str "3")),(cP (.str ">")),(cP (.str ";"))]),(cP (.int 6))]),(bG k0 [(aw k0 [(cP (.str "pos")),(cP (.str "[")),(cP (.str "a")),(cP (.str "b")),(cP (.str "]")),(cP (.str "1")),(cP (.str ";"))]),(cP (.int 1))]),(bG k0 [(aw k0 [(cP (.str "sub")),(cP (.str "a")),(cP (.str "'")),(cP (.str "b")),(cP (.str "c")),(cP (.str "'")),(cP (.str ";"))]),(cP (.int 4))]),(bG k0 [(aw k0 [(cP (.str "sub")),(cP (.str "a")),(cP (.str "'")),(cP (.str "by")),(cP (.str "b")),(cP (.str ";"))]),(cP (.int 3))]),(bG k0 [(aw k0 [(cP (.str "sub")),(cP (.str "a")),(cP (.str "lookup")),(cP (.str "L0")),(cP (.str ";"))]),(cP (.int 2))]),(bG k0 [(aw k0 [(cP (.str "sub")),(cP (.str "a")),(cP (.str "'")),(cP (.str "lookup")),(cP (.str "{")),(cP (.str ";"))]),(cP (.int 4))]),(bG k0 [(aw k0 [(cP (.str "sub")),(cP (.str "a")),(cP (.str "by")),(cP (.str "b")),(cP (.str "}"))]),(cP (.int 4))]),(bG k0 [(aw k0 [(cP (.str "sub")),(cP (.str ";"))]),(cP (.int 1))]),(bG k0 [(aw k0 [(cP (.str "sub")),(cP (.str "a")),(cP (.str "b")),(cP (.str "by")),(cP (.str "NULL")),(cP (.str ";"))]),(cP (.int 4))]),(bG k0 [(aw k0 [(cP (.str "pos")),(cP (.str "a")),(cP (.str "1000000")),(cP (.str ";"))]),(cP (.int 2))]),(bG k0 [(aw k0 [(cP (.str "pos")),(cP (.str "a")),(cP (.str "0000010")),(cP (.str ";"))]),(cP (.int 2))]),(bG k0 [(aw k0 [(cP (.str "sub")),(cP (.str "a")),(cP (.str "'")),(cP (.str "lookup")),(cP (.str "nowhere")),(cP (.str ";"))]),(cP (.int 4))])])) (ae (iS (fM (aa 6)) (.many [27,43]) (fC k0)) (iV k0)))
def gC:F:=bK [12,49] kG
def rH(_k0:Nat):CO:=
 (ae (aX (cP (.bool false))) ak)
def rI(_k0:Nat):CO:=
 (ae (aX (cP (.bool false))) ak)
def rJ(_k0:Nat):CO:=
 (ae (aX (cP (.bool false))) ak)
def rK(_k0:Nat):CO:=
 (ae (aX (cP (.bool false))) ak)
def jB(k0:Nat):CO:=
 (ae (dP (e7 (au (ay aD [(aJ .Add (aJ .Add (aJ .Add (aa 12) (aw k0 [(cP (.str "feature")),(cP (.str "liga"))])) (aa 74)) (aw k0 [(cP (.str "L0")),(cP (.str "}"))])),(aa 43)]))) (rK k0) ak) ak)
def f9(k0:Nat):CO:=
 (ae (aN 43 (aJ .Add (cT .len (aa 12)) (jI (au (aQ .Eq (cT .len (aa 74)) (cP (.int 4)))) (cP (.int 5)) (cP (.int 3))))) (jB k0))
def rL(_k0:Nat):CO:=
 (ae (aX (cP (.bool false))) ak)
def rM(_k0:Nat):CO:=
 (ae (aX (cP (.bool false))) ak)
def rN(_k0:Nat):CO:=
 (ae (aX (cP (.bool false))) ak)
def p9(_k0:Nat):CO:=
 (ae (aX (cP (.bool false))) ak)
def qb(_k0:Nat):CO:=
 (ae (aX (cP (.bool false))) ak)
def iW(k0:Nat):CO:=
 (ae (aN 70 (ay aK [(aa 53),(aJ .Add (cT .len (aa 12)) (cP (.int 1)))])) (ae (aN 32 (aL (aw k0 [(cP (.str "!")),(cP (.str "-")),(cP (.str "é")),(cP (.str "@")),(cP (.str "("))]) (ay aK [(aa 53),(cP (.int 5))]))) (ae (aX (ay aD [(ay c9 [(aa 12),(aa 70),(aw k0 [(aa 32)])]),(aa 70)])) ak)))
def qc(k0:Nat):CO:=
 (ae (dP (CQ (e7 (au (ay aD [(aJ .Add (aa 12) (aw k0 [(cP (.str "rows"))])),(cT .len (aa 12))]))) (e7 (au (ay aD [(aJ .Add (aa 12) (aw k0 [(cP (.str ";"))])),(cT .len (aa 12))])))) (qb k0) ak) (iW k0))
def qd(k0:Nat):CO:=
 (ae (dP (CQ (e7 (au (ay aD [(aJ .Add (aa 12) (aw k0 [(cP (.str "lookup")),(cP (.str "new")),(cP (.str "flag")),(cP (.str "-1")),(cP (.str "{"))])),(aJ .Add (cT .len (aa 12)) (cP (.int 3)))]))) (e7 (au (ay aD [(aJ .Add (aa 12) (aw k0 [(cP (.str "lookup")),(cP (.str "9")),(cP (.str "{"))])),(aJ .Add (cT .len (aa 12)) (cP (.int 1)))])))) (p9 k0) ak) (qc k0))
def qe(k0:Nat):CO:=
 (ae (dP (e7 (au (ay aD [(aJ .Add (aa 12) (aw k0 [(cP (.str "lookup")),(cP (.str "new")),(cP (.str "flag")),(cP (.str "N1")),(cP (.str "{"))])),(aJ .Add (cT .len (aa 12)) (cP (.int 3)))]))) (rN k0) ak) (qd k0))
def qf(k0:Nat):CO:=
 (ae (dP (e7 (au (ay aD [(aJ .Add (aa 12) (aw k0 [(cP (.str "lookup")),(cP (.str "new")),(cP (.str "flag")),(cP (.str "65536")),(cP (.str "{"))])),(aJ .Add (cT .len (aa 12)) (cP (.int 3)))]))) (rM k0) ak) (qe k0))
def fD(k0:Nat):CO:=
 (ae (dP (e7 (au (ay aD [(aJ .Add (aa 12) (aw k0 [(cP (.str "lookup")),(cP (.str "L0")),(cP (.str "{"))])),(aJ .Add (cT .len (aa 12)) (cP (.int 1)))]))) (rL k0) ak) (qf k0))
def iX(k0:Nat):CO:=
 (ae (iS (fM (aw k0 [(aw k0 [(cP (.str "script")),(cP (.str "{"))]),(aw k0 [(cP (.str "script")),(cP (.str "latin")),(cP (.str "{"))]),(aw k0 [(cP (.str "language")),(cP (.str "DEUT5")),(cP (.str "{"))]),(aw k0 [(cP (.str "script")),(cP (.str "latn")),(cP (.str "language")),(cP (.str "{"))])])) (.one 74) (f9 k0)) (fD k0))
def qg(k0:Nat):CO:=
 (ae (dP (e7 (au (ay aD [(aJ .Add (aa 12) (aw k0 [(cP (.str "feature")),(cP (.str "liga5")),(cP (.str "{")),(cP (.str "L0")),(cP (.str "}"))])),(aJ .Add (cT .len (aa 12)) (cP (.int 1)))]))) (rJ k0) ak) (iX k0))
def qh(k0:Nat):CO:=
 (ae (dP (e7 (au (ay aD [(aJ .Add (aa 12) (aw k0 [(cP (.str "feature")),(cP (.str "liga")),(cP (.str "{")),(cP (.str "nowhere")),(cP (.str "}"))])),(aJ .Add (cT .len (aa 12)) (cP (.int 3)))]))) (rI k0) ak) (qg k0))
def l8(k0:Nat):CO:=
 (ae (dP (e7 (au (ay aD [(ay c9 [(aa 12),(cT .len (aa 12)),(aw k0 [(cP (.str "feature")),(cP (.str "liga")),(cP (.str "{")),(cP (.str "}"))])]),(aJ .Add (cT .len (aa 12)) (cP (.int 3)))]))) (rH k0) ak) (qh k0))
def gZ:F:=bK [53,12] l8
def Zi:Tab:=((((VU.bh 568 iB).bh 582 iC).bh 589 gC).bh 596 gZ)
def tG(_k0:Nat):CO:=
 (ae (aX (ay iB [(aa 51),(aa 27)])) ak)
def kI(_k0:Nat):CO:=
 (ae (aX (ay aD [(aa 27),(aJ .Add (aa 49) (ry .index (aa 80) (cP (.str "["))))])) ak)
def gD(_k0:Nat):CO:=
 (ae (aX (ay aD [(aa 27),(cT .len (aa 27))])) ak)
def gE(k0:Nat):CO:=
 (ae (dP (nO (au (aa 81)) (nO (au (aQ .In (cP (.str "[")) (aa 80))) (nO (au (aQ .NotEq (aL (aa 80) (nN (cP (.int 1)))) (cP (.str "[")))) (au (aQ .Eq (ry .count (aa 80) (cP (.str "["))) (ry .count (aa 80) (cP (.str "]")))))))) (kI k0) ak) (gD k0))
def kJ(k0:Nat):CO:=
 (ae (aN 81 (r9 (aQ .GtE (aa 49) (cP (.int 0))) (r9 (aQ .NotIn (cP (.str ";")) (aa 80)) (r9 (aQ .NotIn (cP (.str "'")) (aa 80)) (aQ .NotIn (cP (.str "from")) (aa 80)))))) (gE k0))
def tH(k0:Nat):CO:=
 (ae (aN 49 (cT .max (aJ .Add (aw k0 [(nN (cP (.int 1)))]) (ay pL [(aa 27),(aw k0 [(cP (.str "sub")),(cP (.str "pos"))])])))) (ae (aN 80 (jI (au (aQ .GtE (aa 49) (cP (.int 0)))) (iu (aa 27) (aa 49) fi) (aw k0 []))) (kJ k0)))
def m6(k0:Nat):CO:=
 (ae (aN 70 (aJ .Add (cP (.int 1)) (ay aK [(aa 53),(aJ .Sub (cT .len (aa 12)) (cP (.int 1)))]))) (ae (aN 27 (iu (aa 12) fi (aa 70))) (ae (dP (au (aQ .Eq (aL (aa 27) (nN (cP (.int 1)))) (cP (.str "}")))) (tG k0) ak) (tH k0))))
def fS:F:=bK [53,12,51] m6
def ZM:Tab:=(Zi.bh 575 fS)
def Q0(_k0:Nat):CO:=
 (ae (aX (cP (.bool false))) ak)
def Q2(_k0:Nat):CO:=
 (ae (aX (cP (.bool false))) ak)
def Q3(_k0:Nat):CO:=
 (ae (aX (ay iC [(aa 12),(aL (aL (aL (aL (aa 51) (cP (.int 0))) (cP (.int 0))) (cP (.int 2))) (cP (.int 0)))])) ak)
def Q4(_k0:Nat):CO:=
 (ae (aX (ay gC [(aa 12),(aa 49)])) ak)
def Q5(_k0:Nat):CO:=
 (ae (aX (ay gZ [(aa 53),(aa 12)])) ak)
def Q6(k0:Nat):CO:=
 (ae (dP (au (aQ .Eq (aa 86) (cP (.int 1)))) (Q4 k0) ak) (Q5 k0))
def Q7(k0:Nat):CO:=
 (ae (aN 49 (aJ .Add (ry .index (aa 12) (cP (.str "{"))) (cP (.int 1)))) (ae (aN 86 (ay aK [(aa 53),(cP (.int 3))])) (ae (dP (au (aQ .Eq (aa 86) (cP (.int 0)))) (Q3 k0) ak) (Q6 k0))))
def Q8(k0:Nat):CO:=
 (ae (dP (CQ (e7 (au (ay fS [(aa 53),(aa 12),(aa 51)]))) (e7 (au (ay fS [(aa 53),(aa 12),(aa 51)])))) (Q2 k0) ak) (Q7 k0))
def N2(k0:Nat):CO:=
 (ae (aN 53 (ay wj [(aa 10)])) (ae (aN 51 (ay jl [(aa 53)])) (ae (aN 12 (ay gM [(aa 51),(cP (.bool false))])) (ae (dP (au (aQ .NotEq (ay fB [(aa 12)]) (aa 51))) (Q0 k0) ak) (Q8 k0)))))
set_option genInjectivity true in
inductive Kw|lookup|flag|sub|Ca|eV|null|pos|gp|bk|aC
 deriving DecidableEq
set_option genInjectivity true in
inductive Sg|lc|rc|lb|rb|semi|q|lt|gt
 deriving DecidableEq
set_option genInjectivity true in
inductive Tk|nm (w:Str)|kw (k:Kw)|sg (s:Sg)|nu (w:Str)
 deriving DecidableEq
abbrev Lk:=List Tk
noncomputable def Kw.str:Kw→Str
 | .lookup=> "lookup" | .flag=> "flag" | .sub=> "sub" | .Ca=> "by" | .eV=> "from" | .null=> "NULL" | .pos=> "pos" | .gp=> "feature" | .bk=> "script" | .aC=> "language"
noncomputable def Sg.str:Sg→Str
 | .lc=> "{" | .rc=> "}" | .lb=> "[" | .rb=> "]" | .semi=> ";" | .q=> "'" | .lt=> "<" | .gt=> ">"
def Tk.str:Tk→Str
 | .nm w=>w| .kw k=>k.str| .sg s=>s.str| .nu w=>w
noncomputable def Tk.const:Tk→Bool
 | .kw _=>true| .sg _=>true|_=>false
noncomputable def Tk.isNm:Tk→Bool
 | .nm _=>true|_=>false
noncomputable def LE:Str:= "abcdefghijklmnopqrstuvwxyzABCDEFGHIJKLMNOPQRSTUVWXYZ_."
noncomputable def FI:Str:= "0123456789"
def Cb(c:Nat):Bool:=decide (c∈LE.cps.toList)
def u4(c:Nat):Bool:=decide (c∈FI.cps.toList)
noncomputable def Xe:Ls:=["lookup","flag","sub","by","from","NULL","pos","feature","script","language"]
def o7(w:Str):Bool:=match w.cps.toList with
 |[]=>false
 |c::cs=>Cb c&&cs.all (fun d=>Cb d || u4 d)&&decide (w∉Xe)&&decide (w.length≤64)
def Q9(w:Str):Bool:=match w.cps.toList with
 |[]=>false
 |c::cs=>((u4 c&&cs.all u4) || (c ==45&&!cs.isEmpty&&cs.all u4))&&decide (w.length≤64)&&(decide (6<w.length) || (PySem.intText? w).isSome)
def A3:Tk→Bool
 | .nm w=>o7 w
 | .nu w=>Q9 w
 |_=>true
def kL(w:Str):Bool:=match w.cps.toList with
 |[]=>false
 |c::_=>Cb c&&decide (w∉Xe)
noncomputable def lastOf:Nat→Ln→Nat
 |d,[]=>d
 |_,c::cs=>lastOf c cs
set_option tactic.hygienic true in
theorem qi{w:Str}(h:o7 w=true):∃c cs,w.cps.toList=c::cs∧Cb c=true∧w∉Xe∧w.length≤64:=by
 unfold o7 at h;split at h
 ·contradiction
 ·rename_i c cs e;simp only[and_eq_true,decide_eq_true_eq]at h;exact⟨c,cs,e,h.1.1.1,h.1.2,h.2⟩
theorem F7{w:Str}(h:o7 w=true):kL w=true:=by
 obtain⟨c,cs,e,h1,h2,_⟩:=qi h;simp[kL,e,h1,h2]
set_option tactic.hygienic true in
theorem m7{w:Str}(h:Q9 w=true):∃c cs,w.cps.toList=c::cs∧Cb c=false∧u4 (lastOf c cs)=true∧w.length≤64∧(w.length≤6→(PySem.intText? w).isSome=true):=by
 unfold Q9 at h;split at h
 ·contradiction
 ·rename_i c cs e;simp only[and_eq_true,Bool.or_eq_true,decide_eq_true_eq,beq_iff_eq,not_eq_true']at h;obtain⟨⟨h1,h2⟩,h3⟩:=h;have last:∀(l:Ln) (d:Nat),u4 d=true→l.all u4=true→u4 (lastOf d l)=true:=by
   intro l;induction l with
   |nil=>intro d hd _;exact hd
   |cons a l ih=>
    intro d hd hl;simp only[all_cons,and_eq_true]at hl;exact ih a hl.1 hl.2
  have fl:∀c,u4 c=true→Cb c=false:=by
   intro c hc;simp only[u4,decide_eq_true_eq]at hc;have:∀c∈FI.cps.toList,Cb c=false:=by decide+kernel
   exact this c hc
  refine⟨c,cs,e,?_,?_,h2,fun hl=>?_⟩
  ·rcases h1 with h1|h1
   ·exact fl _ h1.1
   ·rw[h1.1.1];decide+kernel
  ·rcases h1 with h1|h1
   ·exact last _ _ h1.1 h1.2
   ·induction cs with
    |nil=>cases h1.1.2
    |cons d cs=>
     have:=h1.2
     simp only[all_cons,and_eq_true]at this;exact last cs d this.1 this.2
  ·rcases h3 with h3|h3
   ·lia
   ·exact h3
theorem N4{w:Str}(h:Q9 w=true):kL w=false:=by
 obtain⟨c,cs,e,h1,_⟩:=m7 h;simp[kL,e,h1]
theorem F8(k:Kw):kL k.str=false:=by induction k<;>decide+kernel
theorem F9(k:Sg):kL k.str=false:=by induction k<;>decide+kernel
theorem K7{t:Tk}(h:A3 t=true):kL t.str=t.isNm:=by
 induction t with
 |nm w=>exact F7 h
 |nu w=>exact N4 h
 |kw k=>exact F8 k
 |sg k=>exact F9 k
def Cc(w:Str):Bool:=match w.cps.toList with
 |[]=>false
 |c::cs=>u4 (lastOf c cs)
theorem qj{t:Tk}(h:t.const=true):Cc t.str=false:=by
 cases t with
 |kw k=>induction k<;>decide+kernel
 |sg k=>induction k<;>decide+kernel
 |_=>contradiction
theorem N5{w:Str}(h:Q9 w=true):Cc w=true:=by
 obtain⟨c,cs,e,_,h2,_⟩:=m7 h;simp[Cc,e,h2]
theorem HZ{t:Tk}(h:t.const=true):kL t.str=false:=by
 cases t with
 |kw k=>exact F8 k
 |sg k=>exact F9 k
 |_=>contradiction
theorem Jx{α β:Type}[DecidableEq β]{f:α→β}{l:List α}(h:∀a,(l.find? fun x=>decide (f x=f a))=some a){a b:α}(e:f a=f b):a=b:=by
 have:=h a
 rw[e,h b]at this;exact(Option.some.inj this).symm
theorem UG(a b:Kw)(e:a.str=b.str):a=b:=Jx (f:=Kw.str) (l:=[.lookup,.flag,.sub,.Ca,.eV,.null,.pos,.gp,.bk,.aC]) (fun a=>by induction a<;>decide+kernel) e
theorem UH(a b:Sg)(e:a.str=b.str):a=b:=Jx (f:=Sg.str) (l:=[.lc,.rc,.lb,.rb,.semi,.q,.lt,.gt]) (fun a=>by induction a<;>decide+kernel) e
theorem Te(a:Kw)(b:Sg):a.str≠b.str:=by
 have h1:a.str.length≠1:=by induction a<;>decide+kernel
 have h2:b.str.length=1:=by induction b<;>decide+kernel
 intro e;rw[e]at h1;exact h1 h2
theorem qk{t c:Tk}(h:A3 t=true)(hc:c.const=true):t.str=c.str↔t=c:=by
 refine⟨fun e=>?_,fun e=>ER e rfl⟩;induction t with
 |nm w=>
  have h1:=F7 h
  have h2:=HZ hc
  rw[←e]at h2;have h2:kL w=false:=h2;replace h2:=h1▸h2;contradiction
 |nu w=>
  have h1:=N5 h
  have h2:=qj hc
  rw[←e]at h2;have h2:Cc w=false:=h2;replace h2:=h1▸h2;contradiction
 |kw k=>induction c with
  |kw k'=>rw[UG k k' e]
  |sg s=>exact absurd e (Te k s)
  |_=>contradiction
 |sg k=>induction c with
  |sg k'=>rw[UH k k' e]
  |kw s=>exact absurd e.symm (Te s k)
  |_=>contradiction
theorem Cd:("" :Str).cps.toList=[]:=by decide+kernel
theorem fT{t:Tk}(h:A3 t=true):t.str≠ "" :=by
 intro e;induction t with
 |nm w=>
  obtain⟨c,cs,e1,_⟩:=qi h;have e:w= "" :=e;rw[e,Cd]at e1;cases e1
 |nu w=>
  obtain⟨c,cs,e1,_⟩:=m7 h;have e:w= "" :=e;rw[e,Cd]at e1;cases e1
 |kw k=>induction k<;>exact absurd e (by decide+kernel)
 |sg k=>induction k<;>exact absurd e (by decide+kernel)
theorem Ce{t:Tk}(h:A3 t=true):t.str.length≤64:=by
 induction t with
 |nm w=>obtain⟨c,cs,_,_,_,h⟩:=qi h;exact h
 |nu w=>obtain⟨c,cs,_,_,_,h,_⟩:=m7 h;exact h
 |kw k=>induction k<;>decide+kernel
 |sg k=>induction k<;>decide+kernel
noncomputable def jn(w:Str)(o:Nat):P:=.tup [.str w,.int o]
noncomputable def m8:Nat→Lk→Lp
 |o,[]=>[jn "" (o - 1)]
 |o,t::ts=>jn t.str o::m8 (o+t.str.length+1) ts
def tK(l:Lk):Nat:=(l.map fun t=>t.str.length+1).sum
def jo:Lk→Str
 |[]=> ""
 |t::_=>t.str
def off(ts r:Lk):Nat:=if r.isEmpty then tK ts - 1 else tK (ts.take (ts.length - r.length))
theorem Ra(r:Lk):∀(pre:Lk) (o:Nat),(m8 o (pre++r))[pre.length]?=some (jn (jo r) (if r.isEmpty then o+tK pre - 1 else o+tK pre)):=by
 intro rv;induction rv with
 |nil=>exact fun o=>by induction r<;>rfl
 |cons t pre ih=>
  intro o;show(m8 (o+t.str.length+1) (pre++r))[pre.length]?=_;rw[ih];simp only[tK,map_cons,sum_cons]
  congr 2
  split<;>simp+arith
theorem Ga{ts r:Lk}(h:r<:+ts):(m8 0 ts)[ts.length - r.length]?=some (jn (jo r) (off ts r)):=by
 obtain⟨pre,rfl⟩:=h;have:=Ra r pre 0;refine ER (length_append ..) (ER (Nat.add_sub_cancel ..) ?_);rw[this]
 congr 2
 unfold off;induction r with
 |nil=>simp
 |cons t r=>simp[List.take_append_of_le_length]
def rd(ts r:Lk):MO:=.inst 320 [(12,.p (.list (m8 0 ts))),(13,.p cN),(1,.p (.int ((ts.length - r.length:Nat):Int)))]
structure At (ts:Lk) (σ:LM) (i:Nat) (r:Lk):Prop where
 get:σ[i]?=some (rd ts r)
 bX:r<:+ts
 ok:∀t∈ts,A3 t=true
 cS:ts.length≤100000
def bC(S:Ln)(σ ah:LM):Prop:=ah.length=σ.length∧∀k,k∉S→ah[k]?=σ[k]?
def Ext(S:Ln)(σ ah:LM):Prop:=σ.length≤ah.length∧∀k,k<σ.length→k∉S→ah[k]?=σ[k]?
section
variable {S:Ln}{σ ah bj:LM}{ts r r':Lk}{i k n:Nat}{o:MO}
theorem bC.refl(S:Ln)(σ:LM):bC S σ σ:=⟨rfl,fun U U=>rfl⟩
theorem bC.trans(a:bC S σ ah)(b:bC S ah bj):bC S σ bj:=⟨b.1.trans a.1,fun k h=>(b.2 k h).trans (a.2 k h)⟩
theorem bC.mono{T:Ln}(a:bC S σ ah)(h:∀k∈S,k∈T):bC T σ ah:=⟨a.1,fun k q=>a.2 k fun z=>q (h k z)⟩
theorem bC.get(a:bC S σ ah)(h:σ[k]?=some o)(hk:k∉S):ah[k]?=some o:=(a.2 k hk).trans h
theorem bC.set(h:k∈S):bC S σ (σ.set k o):=⟨length_set ..,fun j hj=>by
 rw[getElem?_set_ne];rintro rfl;exact hj h⟩
theorem Ext.refl(S:Ln)(σ:LM):Ext S σ σ:=⟨le_refl _,fun U U U=>rfl⟩
theorem Ext.same(a:Ext S σ ah)(b:bC S ah bj):Ext S σ bj:=⟨by rw[b.1];exact a.1,fun k h q=>(b.2 k q).trans (a.2 k h q)⟩
theorem Ext.Tf{T:Ln}(a:Ext S σ ah)(b:bC T ah bj)(h:∀k∈T,k∈S∨σ.length≤k):Ext S σ bj:=⟨by rw[b.1];exact a.1,fun k hk q=>(b.2 k fun z=>by
 rcases h k z with h|h
 ·exact q h
 ·lia).trans (a.2 k hk q)⟩
theorem Ext.mono{T:Ln}(a:Ext S σ ah)(h:∀k∈S,k∈T):Ext T σ ah:=⟨a.1,fun k hk q=>a.2 k hk fun z=>q (h k z)⟩
theorem Ext.trans(a:Ext S σ ah)(b:Ext S ah bj):Ext S σ bj:=⟨le_trans a.1 b.1,fun k hk q=>(b.2 k (lt_of_lt_of_le hk a.1) q).trans (a.2 k hk q)⟩
theorem Ext.push(a:Ext S σ ah):Ext S σ (ah++[o]):=⟨by rw[length_append];exact le_trans a.1 (le_add_right _ _),fun k h q=>by
 rw[getElem?_append_left (lt_of_lt_of_le h a.1)];exact a.2 k h q⟩
theorem Ext.set(a:Ext S σ ah)(h:σ.length≤n):Ext S σ (ah.set n o):=⟨by rw[length_set];exact a.1,fun k hk q=>by
 rw[getElem?_set_ne (by lia)];exact a.2 k hk q⟩
theorem Ext.Dv(a:Ext S σ ah)(h:n∈S):Ext S σ (ah.set n o):=⟨by rw[length_set];exact a.1,fun k hk q=>by
 rw[getElem?_set_ne (by rintro rfl;exact q h)];exact a.2 k hk q⟩
theorem Ext.take(a:Ext S σ ah):bC S σ (ah.take σ.length):=by
 refine⟨by rw[length_take];exact min_eq_left a.1,fun k q=>?_⟩;rw[getElem?_take];refine iT (fun _=>?_) fun _=>?_
 ·exact a.2 k ‹_› q
 ·rw[List.getElem?_eq_none (Nat.le_of_not_lt ‹_›)]
theorem At.lt(h:At ts σ i r):i<σ.length:=(List.getElem?_eq_some_iff.mp h.get).1
theorem At.take(h:At ts ah i r)(hi:i<σ.length):At ts (ah.take σ.length) i r:=⟨by rw[getElem?_take,if_pos hi];exact h.get,h.bX,h.ok,h.cS⟩
theorem At.same(h:At ts σ i r)(a:bC S σ ah)(hi:i∉S):At ts ah i r:=⟨a.get h.get hi,h.bX,h.ok,h.cS⟩
theorem At.push(h:At ts σ i r):At ts (σ++[o]) i r:=⟨by rw[getElem?_append_left h.lt];exact h.get,h.bX,h.ok,h.cS⟩
theorem At.Xf(h:At ts σ i r)(hn:n≠i):At ts (σ.set n o) i r:=⟨by rw[getElem?_set_ne hn];exact h.get,h.bX,h.ok,h.cS⟩
theorem At.move(h:At ts σ i r)(hr:r'<:+ts):At ts (σ.set i (rd ts r')) i r':=⟨by rw[List.getElem?_set_self h.lt],hr,h.ok,h.cS⟩
theorem At.hd(h:At ts σ i r){t:Tk}(e:r.head?=some t):A3 t=true:=by
 induction r with
 |nil=>contradiction
 |cons a r=>obtain rfl:=Option.some.inj e;exact h.ok _ (h.bX.subset (.head _))
theorem ba:(σ++[o])[σ.length]?=some o:=by simp
theorem get_set(h:n<σ.length):(σ.set n o)[n]?=some o:=List.getElem?_set_self h
end
inductive PR (α:Type) where
 |ok (a:α) (r:Lk)
 |err (r:Lk)
noncomputable def PR.bind{α β:Type}:PR α→(α→Lk→PR β)→PR β
 | .ok a r,k=>k a r
 | .err r,_=>.err r
def cO{α:Type}(ts:Lk)(i:Nat)(S:Ln)(σ:LM)(p:PR α)(Q:α→Lk→LM→Prop)(E:ME):Prop:=match p with
 | .ok a r=>∀ah,bC S σ ah→At ts ah i r→Q a r ah
 | .err r=>∀ah,bC S σ ah→E (.int (off ts r)) ah
structure ik (ts:Lk) (i:Nat) (S:Ln) (aj σ:LM) (r:Lk):Prop where
 at_:At ts σ i r
 ext:Ext S aj σ
 mem:i∈S
 lt:i<aj.length
section
variable {α β:Type}{ts r:Lk}{i:Nat}{S:Ln}{aj σ:LM}{Qf:β→Lk→LM→Prop}{Ef:ME}
theorem ik.own(n:ik ts i S aj σ r){ah:LM}(s:bC [i] σ ah):Ext S aj ah:=n.ext.same (s.mono fun k h=>by rw[mem_singleton.mp h];exact n.mem)
theorem ik.step(n:ik ts i S aj σ r){ah:LM}{r':Lk}(s:bC [i] σ ah)(a:At ts ah i r'):ik ts i S aj ah r':=⟨a,n.own s,n.mem,n.lt⟩
theorem At.now(h:At ts σ i r):ik ts i [i] σ σ r:=⟨h,.refl ..,.head _,h.lt⟩
theorem cO.go{p:PR α}{k:α→Lk→PR β}(n:ik ts i S aj σ r)(z:cO ts i S aj (p.bind k) Qf Ef){Q:α→Lk→LM→Prop}(q:∀a r' ah,p= .ok a r'→bC [i] σ ah→ik ts i S aj ah r'→cO ts i S aj (k a r') Qf Ef→Q a r' ah):cO ts i [i] σ p Q (back aj.length Ef):=by
 induction p with
 |ok a r'=>exact fun ah s a'=>q a r' ah rfl s (n.step s a') z
 |err r'=>exact fun ah s=>z _ (n.own s).take
theorem cO.t{c:Bool}{a b:PR β}(h:c=true)(z:cO ts i S aj (if c then a else b) Qf Ef):cO ts i S aj a Qf Ef:=by rwa [if_pos h]at z
theorem cO.f{c:Bool}{a b:PR β}(h:c=false)(z:cO ts i S aj (if c then a else b) Qf Ef):cO ts i S aj b Qf Ef:=by rwa [h]at z
theorem cO.bt{c:Bool}{a b:PR α}{k:α→Lk→PR β}(h:c=true)(z:cO ts i S aj ((if c then a else b).bind k) Qf Ef):cO ts i S aj (a.bind k) Qf Ef:=by rwa [if_pos h]at z
theorem cO.bf{c:Bool}{a b:PR α}{k:α→Lk→PR β}(h:c=false)(z:cO ts i S aj ((if c then a else b).bind k) Qf Ef):cO ts i S aj (b.bind k) Qf Ef:=by rwa [h]at z
theorem iD{γ:Type}{p:PR α}{f:α→Lk→PR γ}{k:γ→Lk→PR β}:(p.bind f).bind k=p.bind fun a r=>(f a r).bind k:=by induction p<;>rfl
theorem cO.bb{γ:Type}{p:PR α}{f:α→Lk→PR γ}{k:γ→Lk→PR β}(z:cO ts i S aj ((p.bind f).bind k) Qf Ef):cO ts i S aj (p.bind fun a r=>(f a r).bind k) Qf Ef:=iD▸z
theorem ik.set{n:Nat}{o:MO}(w:ik ts i S aj σ r)(h:aj.length≤n):ik ts i S aj (σ.set n o) r:=⟨w.at_.Xf (ne_of_gt (lt_of_lt_of_le w.lt h)),w.ext.set h,w.mem,w.lt⟩
theorem ik.push{o:MO}(w:ik ts i S aj σ r):ik ts i S aj (σ++[o]) r:=⟨w.at_.push,w.ext.push,w.mem,w.lt⟩
theorem cO.done{a:β}(n:ik ts i S aj σ r)(z:cO ts i S aj (.ok a r) Qf Ef):Qf a r (σ.take aj.length):=z _ n.ext.take (n.at_.take n.lt)
end
section
variable {k:Nat}{σ:LM}{Q:MQ V}{Q':MQ Out}{E:ME}{le:ai}
theorem Gb{x:P}(q:Q (.p x) (σ.take k)):cz k σ (.ret (.p x)) Q:=⟨_,_,.P7 (.one (.p _)),q⟩
theorem tL(q:Q (.p .none) (σ.take k)):cz k σ (.next le) Q:=⟨_,_,.next _,q⟩
theorem Xg{n:Nat}{x:P}(hn:k≤n)(e:σ[n]?=some (.exc x))(q:Q (.ref k) (σ.take k++[.exc x])):cz k σ (.ret (.ref n)) Q:=⟨_,_,.exc hn e,q⟩
theorem bH{n c:Nat}{fs:List (Nat×V)}(h:σ[n]?=some (.inst c fs)):CR σ (.ref n)=some (c,fs):=congrArg MV h
theorem aB{n:Nat}{l:Lp}(h:σ[n]?=some (.list l)):view σ (.ref n)=some (.list l):=congrArg MR h
end
theorem Rc(a b:Str):Hz (.str a) (.str b)=decide (a=b):=rfl
theorem b7(a b:Str):cD .Eq (.str a) (.str b) (decide (a=b)):=ip rfl rfl (bl rfl)
theorem eY(a b:Str):cD .NotEq (.str a) (.str b) (!decide (a=b)):=sJ rfl rfl (bl rfl)
theorem m9:∀l:Ls,lA (l.map P.str)=true:=by
 intro rv;induction rv with
 |nil=>exact rfl
 |cons _ l ih=>exact ih
theorem u5(x:Str):∀l:Ls,vV (l.map P.str) (.str x)=decide (x∈l):=by
 intro rv;induction rv with
 |nil=>exact rfl
 |cons a l ih=>
  have h:=ih
  simp only[vV,map_cons,any_cons,Rc]at h ⊢;rw[h];by_cases q:a=x
  ·subst q;simp
  ·simp[q,Ne.symm q]
theorem Dw(l:Ls)(x:Str):cD .In (.str x) (.list (l.map P.str)) (decide (x∈l)):=u5 x l▸xn (m9 l) rfl (bl rfl)
theorem Dy(l:Ls)(x:Str):cD .NotIn (.str x) (.list (l.map P.str)) (!decide (x∈l)):=u5 x l▸xo (m9 l) rfl (bl rfl)
theorem N6(l:Ls)(x:Str):cD .In (.str x) (.tup (l.map P.str)) (decide (x∈l)):=u5 x l▸HA (m9 l) rfl (bl rfl)
theorem UI(l:Ls)(x:Str):cD .NotIn (.str x) (.tup (l.map P.str)) (!decide (x∈l)):=u5 x l▸HB (m9 l) rfl (bl rfl)
theorem cg{k:Nat}(h:k≤1000000):ir (k:Int)=true:=by simp only[ir,and_eq_true,decide_eq_true_eq];omega
theorem yL{k n:Nat}(h:k<n):seqIndex? (k:Int) n=some k:=by
 unfold seqIndex?;simp only[show ¬(k:Int)<0 by lia,if_false];rw[if_pos (by simp;omega)];simp
theorem cE{l:Lp}{k:Nat}{x:P}(h:l[k]?=some x)(hk:k≤1000000):b8 (.list l) (k:Int) x:=item_list (cg hk) (yL (List.getElem?_eq_some_iff.mp h).1) h
theorem aO{l:Lp}{k:Nat}{x:P}(h:l[k]?=some x)(hk:k≤1000000):b8 (.tup l) (k:Int) x:=item_tup (cg hk) (yL (List.getElem?_eq_some_iff.mp h).1) h
theorem item_sign{w:Str}{c:Nat}{cs:Ln}(h:w.cps.toList=c::cs):b8 (.str w) 0 (.str ⟨#[c]⟩):=by
 have hl:w.length=cs.length+1:=by
  show w.cps.size=_;refine EL Array.length_toList (ER h ?_);rfl
 exact item_str (j:=0) rfl (yL (k:=0) (by rw[hl];exact succ_pos _)) (by rw[←Array.getElem?_toList,h];rfl)
noncomputable def EM:Lk→Bool
 | .nm _::_=>true
 |_=>false
noncomputable def jC(c:Tk)(r:Lk):Bool:=decide (r.head?=some c)
noncomputable def G7:Ls:=["a","b","c","f_i","x.alt","N1","_"]
def qm(r:Lk):PR Str:=if EM r then .ok (jo r) r.tail else .err r
def dm(r:Lk):PR Str:=if EM r then if decide (jo r∈G7)then .ok (jo r) r.tail else .err r else .err r
def Dz(r:Lk):PR Str:=if EM r then if decide (((jo r).length:Int) > 4)then .err r else .ok (jo r) r.tail else .err r
def bO(c:Tk)(r:Lk):PR Unit:=if jC c r then .ok () r.tail else .err r
section
variable {ts r:Lk}{i:Nat}{σ aj:LM}{Q:MQ V}{E:ME}
theorem At.item(h:At ts σ i r):b8 (.list (m8 0 ts)) ((ts.length - r.length:Nat):Int) (jn (jo r) (off ts r)):=
 cE (Ga h.bX) (by have:=h.cS;grind only)
theorem Jy{w:Str}(h:w.cps.toList=[]):w= "" :=by
 induction w with|mk a=>exact congrArg Str.mk (Array.toList_eq_nil_iff.mp h)
theorem zY{w:Str}{c:Nat}{cs:Ln}(e:w.cps.toList=c::cs):kL w=(yV ⟨#[c]⟩ LE&&!decide (w∈Xe)):=by unfold kL;refine ER e ?_;exact congrArg (Cb c&&·) decide_not
theorem Cf{w:Str}(h:w= ""):kL w=false:=by subst h;decide+kernel
theorem N7{w:Str}(q:Q (.p (.bool (kL w))) σ):Run fO [.p (.str w)] σ Q E:=by
 constructor;have fin:∀{b},b=kL w→cz σ.length σ (.ret (.p (.bool b))) Q:=fun hb=>Gb (by refine ER hb (ER take_length ?_);exact q);refine aF.pp (eY _ _) ⟨fun h1=>?_,fun h1=>fin ?_⟩
 ·generalize e:w.cps.toList=gg;induction gg with
  |nil=>replace h1:=(Jy e)▸h1;exact absurd h1 (by decide)
  |cons c cs=>
   refine aW.pp (item_sign e) (aF.pp (jT rfl) ⟨fun h2=>aF.pp (UI Xe w) (fin ?_),fun h2=>fin ?_⟩)
   ·exact((zY e).trans (congrArg (·&&_) h2)).symm
   ·exact h2.trans ((zY e).trans (congrArg (·&&_) h2)).symm
 ·refine ER (Cf (by simpa using h1)) ?_;exact h1
theorem kM(h:At ts σ i r)(q:Q (.p (.str (jo r))) σ):Run lI [.ref i] σ Q E:=
 ⟨bR.mk _ _ _ (bH h.get) rfl (bR.mk _ _ _ (bH h.get) rfl (aW.pp h.item (aW.pp (aO (k:=0) rfl (zero_le _)) (Gb (by rw[take_length];exact q)))))⟩
theorem UJ{v:V}(h:At ts σ i r)(q:Q (.ref σ.length) (σ++[.exc (.int (off ts r))])):Run dj [.ref i,v] σ Q E:=
 ⟨bR.mk _ _ _ (bH h.get) rfl (bR.mk _ _ _ (bH h.get) rfl (aW.pp h.item (aW.pp (aO (k:=1) rfl (by decide)) (QR.mk _ _ rfl (Xg (le_refl _) ba (by simpa using q))))))⟩
theorem bC.put{S:Ln}{k:Nat}{o:MO}(h:k∈S):bC S σ (σ.set k o):=bC.set h
theorem Rf(e:r≠[])(hs:r<:+ts):MO.inst 320 [(12,.p (.list (m8 0 ts))),(13,.p cN),(1,.p (.int (((ts.length - r.length:Nat):Int)+1)))]=rd ts r.tail:=by
 cases r with
 |nil=>exact absurd rfl e
 |cons t r=>
  have:((ts.length - (t::r).length:Nat):Int)+1=((ts.length - r.length:Nat):Int):=by have:=hs.length_le;simp only[length_cons]at this ⊢;lia
  refine ER this ?_;rfl
theorem At.next(h:At ts σ i r):At ts (σ.set i (rd ts r.tail)) i r.tail:=h.move ((List.tail_suffix r).trans h.bX)
theorem zZ(h:At ts σ i r)(e:r≠[])(q:∀ah,bC [i] σ ah→At ts ah i r.tail→Q (.p (.str (jo r))) ah):Run lK [.ref i] σ Q E:=
 ⟨bR.mk _ _ _ (bH h.get) rfl (bR.mk _ _ _ (bH h.get) rfl (aW.pp h.item (aW.pp (aO (k:=0) rfl (zero_le _))
  (bR.mk _ _ _ (bH h.get) rfl (aU.pp add_int (jZ.mk _ _ _ rfl h.get rfl (Rf e h.bX▸Gb (by
   rw[take_of_length_le (by refine ER length_set ?_;exact le_refl _)];exact q _ (.set (.head _)) h.next))))))))⟩
theorem Rg(h:At ts σ i r):kL (jo r)=EM r:=by
 induction r with
 |nil=>exact Cf rfl
 |cons t r=>exact(K7 (h.hd rfl)).trans (by induction t<;>rfl)
theorem iE{c:Tk}(h:At ts σ i r)(hc:c.const=true):decide (jo r=c.str)=jC c r:=by
 induction r with
 |nil=>exact(decide_eq_false fun e=>by induction c with
  |kw k=>exact absurd e.symm (fT (t:=.kw k) rfl)
  |sg k=>exact absurd e.symm (fT (t:=.sg k) rfl)
  |_=>contradiction).trans rfl
 |cons t r=>exact(decide_eq_decide.mpr ((qk (h.hd rfl) hc).trans ⟨fun e=>congrArg some e,fun e=>Option.some.inj e⟩))
theorem N8{c:Tk}(h:jC c r=true):r≠[]:=by rintro rfl;contradiction
theorem z7(h:EM r=true):r≠[]:=by rintro rfl;contradiction
theorem At.bJ{mt:E6}{nm:Nat}{f:F}{K:F→Prop}(h:At ts σ i r)(hm:mt 320 nm=some f)(hn:(decide (nm=12) || decide (nm=13) || decide (nm=1))=false)(q:K f):Nh mt nm σ (.ref i) K:=by
 refine⟨320,_,f,bH h.get,?_,hm,q⟩;simp only[Bool.or_eq_false_iff,decide_eq_false_iff_not]at hn;simp only[bW,Ne.symm hn.1.1,Ne.symm hn.1.2,Ne.symm hn.2,if_false]
theorem oN{c:Tk}(h:At ts σ i r)(hc:c.const=true)(q1:jC c r=true→∀ah,bC [i] σ ah→At ts ah i r.tail→Q (.p (.bool true)) ah)(q2:jC c r=false→Q (.p (.bool false)) σ):Run lO [.ref i,.p (.str c.str)] σ Q E:=
 ⟨h.bJ rfl rfl (kM h (aF.pp (eY _ _) ((iE h hc).symm▸⟨fun e=>Gb (by refine ER take_length ?_;exact q2 (by simpa using e)),
  fun e=>h.bJ rfl rfl (zZ h (N8 (c:=c) (by simpa using e)) fun ah s a=>Gb (by refine EL s.1 (ER take_length ?_);exact q1 (by simpa using e) ah s a))⟩)))⟩
theorem N9{v:V}(h:At ts σ i r)(q:∀ah,Ext [] σ ah→E (.int (off ts r)) ah):Run dj [.ref i,v] σ (fun v σ=>zB v σ E) E:=
 UJ h ⟨_,_,rfl,ba,q _ ((Ext.refl _ _).push.set (le_refl _))⟩
theorem ik.fault{S:Ln}{α:Type}{Qf:α→Lk→LM→Prop}{v:V}(n:ik ts i S aj σ r)(z:cO ts i S aj (.err r) Qf E):Run dj [.ref i,v] σ (fun v σ=>zB v σ (back aj.length E)) (back aj.length E):=
 N9 n.at_ fun ah e=>z (ah.take aj.length) (n.ext.trans (e.mono fun U h=>(not_mem_nil h).elim)).take
theorem qW(h:At ts σ i r)(q:Q (.p (.bool (EM r))) σ):Run fO [.p (.str (jo r))] σ Q E:=N7 (Rg h▸q)
theorem nb{b:Bool}(h:(!b)=true):b=false:=not_eq_true' .. |>.mp h
theorem Cg{b:Bool}(h:(!b)=false):b=true:=not_eq_false' .. |>.mp h
theorem give{x:P}{ah:LM}(s:bC [i] σ ah)(q:Q (.p x) ah):cz σ.length ah (.ret (.p x)) Q:=Gb (by rw[←s.1,take_length];exact q)
theorem Tg{le:ai}{ah:LM}(s:bC [i] σ ah)(q:Q (.p .none) ah):cz σ.length ah (.next le) Q:=tL (by rw[←s.1,take_length];exact q)
theorem Th{Q:MQ V}(h:At ts σ i r)(z:cO ts i [i] σ (qm r) (fun w U ah=>Q (.p (.str w)) ah) E):Run lQ [.ref i] σ Q E:=by
 unfold qm at z;refine⟨?_⟩;exact h.bJ rfl rfl (kM h (qW h (aT.mk (fun e=>h.bJ rfl rfl (h.now.fault (z.f (nb e)))) fun e=>h.bJ rfl rfl (zZ h (z7 (Cg e)) fun ah s a=>give s (z.t (Cg e) ah s a)))))
theorem K8{c w:Str}(h:decide (c.length≤64)=true)(k:decide (w.length≤64)=true:=by rfl):c.length+w.length≤bL:=le_trans (Nat.add_le_add (of_decide_eq_true h) (of_decide_eq_true k)) (bl rfl)
theorem u6{c:Tk}{Q:MQ V}(h:At ts σ i r)(hc:c.const=true)(hl:decide (c.str.length≤64)=true)(z:cO ts i [i] σ (bO c r) (fun U U ah=>Q (.p .none) ah) E):Run lY [.ref i,.p (.str c.str)] σ Q E:=by
 unfold bO at z;refine⟨?_⟩;exact h.bJ rfl rfl (oN h hc (fun e ah s a=>aT.mk (fun q=>Bool.noConfusion q) fun U=>Tg s (z.t e ah s a))
  fun e=>aT.mk (fun U=>h.bJ rfl rfl (aU.pp (add_str (K8 hl)) (h.now.fault (z.f e)))) fun q=>Bool.noConfusion q)
theorem z8{Q:MQ V}(h:At ts σ i r)(z:cO ts i [i] σ (dm r) (fun w U ah=>Q (.p (.str w)) ah) E):Run kc [.ref i] σ Q E:=by
 unfold dm at z;refine⟨?_⟩;exact h.bJ rfl rfl (kM h (qW h (aT.mk (fun e=>aT.mk (fun U=>h.bJ rfl rfl (h.now.fault (z.f (nb e)))) fun q=>absurd q (by decide)) fun e=>
  h.bJ rfl rfl (kM h (bR.mk _ _ _ (bH h.get) rfl (aF.pp (Dy G7 _) (aT.mk (fun e'=>h.bJ rfl rfl (h.now.fault ((z.t (Cg e)).f (nb e')))) fun e'=>
   h.bJ rfl rfl (zZ h (z7 (Cg e)) fun ah s a=>give s ((z.t (Cg e)).t (Cg e') ah s a)))))))))
end
section
variable {ts r:Lk}{i:Nat}{σ aj:LM}{Q:MQ V}{E:ME}
theorem At.short(h:At ts σ i r):(jo r).length≤64:=by
 induction r with
 |nil=>exact bl rfl
 |cons t r=>exact Ce (h.hd rfl)
theorem At.lim(h:At ts σ i r):(jo r).length≤bL:=le_trans h.short (bl rfl)
theorem UK(h:At ts σ i r)(z:cO ts i [i] σ (Dz r) (fun w U ah=>Q (.p (.str w)) ah) E):Run mT [.ref i] σ Q E:=by
 unfold Dz at z;refine⟨?_⟩;exact h.bJ rfl rfl (kM h (qW h (aT.mk (fun e=>aT.mk (fun U=>h.bJ rfl rfl (h.now.fault (z.f (nb e)))) fun q=>absurd q (by decide)) fun e=>
  h.bJ rfl rfl (kM h (dC.pp (len_str h.lim) (aF.pp cmp_gt (aT.mk (fun e'=>h.bJ rfl rfl (h.now.fault ((z.t (Cg e)).t e'))) fun e'=>
   h.bJ rfl rfl (zZ h (z7 (Cg e)) fun ah s a=>give s ((z.t (Cg e)).f e' ah s a)))))))))
def starts(r:Lk):Bool:=jC (.sg .lb) r || EM r
theorem Rh(h:At ts σ i r)(q:Q (.p (.bool (starts r))) σ):Run mj [.ref i] σ Q E:=by
 refine⟨?_⟩;have fin:∀{b},b=starts r→cz σ.length σ (.ret (.p (.bool b))) Q:=fun hb=>give (i:=i) ⟨rfl,fun U U=>rfl⟩ (hb▸q);exact h.bJ rfl rfl (kM h (aF.pp (b7 _ _) (aT.mk (fun e=>fin (by rw[e,starts,←iE (c:=.sg .lb) h rfl];exact(congrArg (· || EM r) e).symm))
  fun e=>h.bJ rfl rfl (kM h (qW h (fin (by rw[starts,←iE (c:=.sg .lb) h rfl];exact(congrArg (· || EM r) e).symm)))))))
noncomputable def wx(w:Str):Int:=(PySem.intText? w).getD 0
noncomputable def Xh:Lk→Bool
 | .nu _::_=>true
 |_=>false
def Ti(lo hi:Int)(r:Lk):Bool:=Xh r&&(!decide (((jo r).length:Int) > 6)&&(decide (lo≤wx (jo r))&&decide (wx (jo r)≤hi)))
def pNum(lo hi:Int)(r:Lk):PR Int:=if Ti lo hi r then .ok (wx (jo r)) r.tail else .err r
def DA(lo hi:Int):Prop:=(lo=0∧hi=65535)∨(lo= -32768∧hi=32767)
theorem Ri{lo hi:Int}{w:V}{k0:Nat}{Q:MQ Out}{Qf:Int→Lk→LM→Prop}(h:At ts σ i r)(hr:DA lo hi)(z:cO ts i [i] σ (.err r) Qf E):e8 k0 [(25,.ref i),(34,.p (.int lo)),(35,.p (.int hi)),(17,w)] σ Q (back σ.length E):=by
 rcases hr with ⟨rfl,rfl⟩|⟨rfl,rfl⟩<;>
 exact h.bJ rfl rfl (dC.pp (str_int rfl) (aU.pp (add_str (bl rfl)) (aU.pp (add_str (bl rfl)) (dC.pp (str_int rfl)
  (aU.pp (add_str (bl rfl)) (aU.pp (add_str (bl rfl)) (h.now.fault z)))))))
theorem Oa:∀(cs:Ln) (c:Nat),(c::cs)[cs.length]?=some (lastOf c cs):=by
 intro rv;induction rv with
 |nil=>exact fun o=>rfl
 |cons d cs ih=>exact fun o=>ih d
theorem item_last{w:Str}{c:Nat}{cs:Ln}(h:w.cps.toList=c::cs):b8 (.str w) (-1) (.str ⟨#[lastOf c cs]⟩):=by
 have hl:w.length=cs.length+1:=by
  show w.cps.size=_;refine EL Array.length_toList (ER h ?_);rfl
 refine item_str (j:=cs.length) rfl ?_ (by rw[←Array.getElem?_toList,h];exact Oa cs c);unfold seqIndex?;simp only[show(-1:Int)<0 by lia,if_true,hl];rw[if_pos (by simp;simp+arith)]
 congr 1;simp+arith
theorem Ob{w:Str}(h:o7 w=true):∃c cs,w.cps.toList=c::cs∧Cb c=true:=by obtain⟨c,cs,a,b,_⟩:=qi h;exact⟨c,cs,a,b⟩
theorem Rj{t:Tk}(h:A3 t=true){c:Nat}{cs:Ln}(e:t.str.cps.toList=c::cs):(u4 (lastOf c cs)&&!Cb c)=Xh (t::r):=by
 have k:Cc t.str=u4 (lastOf c cs):=by unfold Cc;exact ER e rfl
 induction t with
 |nm w=>obtain⟨d,ds,a,b⟩:=Ob h;cases a.symm.trans e;refine ER (b ..) (ER (Bool.not_true ..) (ER (Bool.and_false ..) ?_));rfl
 |nu w=>obtain⟨d,ds,a,b,b',_⟩:=m7 h;cases a.symm.trans e;refine ER b (ER b' ?_);rfl
 |kw x=>refine EL k (ER (qj (t:=.kw x) rfl) ?_);rfl
 |sg x=>refine EL k (ER (qj (t:=.sg x) rfl) ?_);rfl
theorem At.nu(h:At ts σ i r)(k:Xh r=true)(hl:(jo r).length≤6):PySem.intText? (jo r)=some (wx (jo r)):=by
 induction r with
 |nil=>exact Bool.noConfusion k
 |cons t r=>cases t with
  |nu w=>
   obtain⟨_,_,_,_,_,_,q⟩:=m7 (h.hd rfl);obtain⟨m,e⟩:=Option.isSome_iff_exists.mp (q hl);show PySem.intText? w=some ((PySem.intText? w).getD 0);refine ER e ?_;rfl
  |_=>exact Bool.noConfusion k
theorem af{a b:Bool}(h:a=false):(a&&b)=false:=by rw[h];rfl
theorem at_{a b:Bool}(h:a=true)(k:b=false):(a&&b)=false:=by refine ER h (ER k ?_);rfl
theorem Qa{a b:Bool}(h:a=true)(k:b=true):(a&&b)=true:=by refine ER h (ER k ?_);rfl
theorem DB{lo hi:Int}(h:At ts σ i r)(hr:DA lo hi)(z:cO ts i [i] σ (pNum lo hi r) (fun x U ah=>Q (.p (.int x)) ah) E):Run jx [.ref i,.p (.int lo),.p (.int hi)] σ Q E:=by
 unfold pNum at z;have no:Ti lo hi r=false→∀{w k0 Q},e8 k0 [(25,.ref i),(34,.p (.int lo)),(35,.p (.int hi)),(17,w)] σ Q (back σ.length E):=fun e U U U=>Ri h hr (z.f e);have ne:∀{A:Prop},true=false→A:=fun q=>absurd q (by decide);refine⟨h.bJ rfl rfl (kM h (aF.pp (b7 _ _) (aT.mk (fun e=>aT.mk (fun U=>no ?_) ne) fun e=>?_)))⟩
 ·induction r with
  |nil=>rfl
  |cons t r=>exact absurd (of_decide_eq_true e) (fT (h.hd rfl))
 ·induction r with
  |nil=>exact Bool.noConfusion e
  |cons t r=>
   have ok:A3 t=true:=h.hd rfl;generalize q:t.str.cps.toList=gg;induction gg with
   |nil=>exact absurd (Jy q) (fT ok)
   |cons c cs=>
    have nu:=Rj (r:=r) ok q
    refine aW.pp (item_last q) (aF.pp (Kq rfl) (aT.mk (fun e1=>aT.mk (fun U=>no (af (nu.symm.trans (af (nb e1))))) ne) fun e1=>
     aW.pp (item_sign q) (aF.pp (jT rfl) (aT.mk (fun e2=>aT.mk (fun U=>no (af (nu.symm.trans (at_ (Cg e1) (congrArg (!·) e2))))) ne) fun e2=>
      dC.pp (len_str h.lim) (aF.pp cmp_gt (aT.mk (fun e3=>aT.mk (fun U=>no ?_) ne) fun e3=>?_)))))) 
    ·exact at_ (nu.symm.trans (Qa (Cg e1) (congrArg (!·) e2))) (af (congrArg (!·) e3))
    ·have nt:=nu.symm.trans (Qa (Cg e1) (congrArg (!·) e2));have run:nQ .int (.str (jo (t::r))) (.int (wx (jo (t::r)))):=int_str (le_trans h.short (bl rfl)) (h.nu nt (by have:=of_decide_eq_false e3;lia));refine dC.pp run (aF.pp MS (aT.mk (fun e4=>aF.pp MS (aT.mk (fun e5=>no ?_) fun e5=>?_)) fun e4=>aT.mk (fun U=>no ?_) ne))
     ·exact at_ nt (at_ (congrArg (!·) e3) (at_ e4 (nb e5)))
     ·exact h.bJ rfl rfl (zZ h (by simp) fun ah s a=>dC.pp run (give s (z.t (Qa nt (Qa (congrArg (!·) e3) (Qa e4 (Cg e5)))) ah s a)))
     ·exact at_ nt (at_ (congrArg (!·) e3) (af e4))
end
noncomputable def aq(l:Ls):Lp:=l.map P.str
noncomputable def DC:Nat→Ls→Lk→PR (Ls)
 |0,_,r=>.err r
 |N+1,found,r=>if jC (.sg .rb) r then .ok found r.tail else if decide (jo r∈found)then .err r else(dm r).bind fun w r=>DC N (found++[w]) r
def qn(r:Lk):PR (Ls):=(DC (r.length+1) [] r).bind fun l r'=>if l.isEmpty then .err r else .ok l r'
section
variable {ts r:Lk}{i n:Nat}{σ aj:LM}{S:Ln}{E:ME}
theorem dN{w:Str}{r':Lk}(h:dm r= .ok w r'):r'.length<r.length:=by
 unfold dm at h;split at h
 ·split at h
  ·cases h;induction r with
   |nil=>contradiction
   |cons t r=>exact lt_succ_self _
  ·contradiction
 ·contradiction
theorem qX(w:ik ts i S aj σ r)(hn:aj.length≤n){ah:LM}{o:MO}(s:bC [i] σ ah)(e:σ[n]?=some o):ah[n]?=some o:=s.get e (by simpa using ne_of_gt (lt_of_lt_of_le w.lt hn))
theorem fE{o o':MO}(e:σ[n]?=some o):(σ.set n o')[n]?=some o':=get_set (List.getElem?_eq_some_iff.mp e).1
theorem Oc{β:Type}{k:Ls→Lk→PR β}{Qf:β→Lk→LM→Prop}{k0:Nat}(hn:aj.length≤n){Q:MQ Out}:∀(N:Nat) (r:Lk) (found:Ls) (σ:LM),ik ts i S aj σ r→σ[n]?=some (.list (aq found))→found.length+N≤200000→r.length<N→
  cO ts i S aj ((DC N found r).bind k) Qf E→(∀l r' ah,ik ts i S aj ah r'→ah[n]?=some (.list (aq l))→l.length≤200000→(l=[]→found=[]∧r'=r.tail∧r≠[])→cO ts i S aj (k l r') Qf E→Q (.next [(36,.ref i),(33,.ref n)]) ah)→
  fk N (kj k0) (km k0) [(36,.ref i),(33,.ref n)] σ Q (back aj.length E):=by
 intro rv;induction rv with
 |zero=>exact fun r found σ w hl hN lt z q=>absurd lt (not_lt_zero _)
 |succ N ih=>
  intro r found σ w hl hN lt z q;refine w.at_.bJ rfl rfl (oN (c:=.sg .rb) w.at_ rfl (fun e ah s a=>aT.mk (fun x=>Bool.noConfusion x) fun U=>q found r.tail ah (w.step s a) (qX w hn s hl) (by omega) (fun l=>⟨l,rfl,N8 e⟩) (z.bt e)) fun e=>aT.mk (fun U=>?_) fun x=>Bool.noConfusion x);have z:=z.bf e;refine w.at_.bJ rfl rfl (kM w.at_ (aF.mk _ _ _ rfl (aB hl) (Dw found _) (aT.mk (fun e1=>w.at_.bJ rfl rfl (w.fault (z.bt e1))) fun e1=>⟨.append _ (aB hl),w.at_.bJ rfl rfl (z8 w.at_ (cO.go w (z.bf e1).bb fun g r' ah eg s w' z=>?_))⟩)));have hl':=qX w hn s hl;exact .append _ _ _ rfl rfl hl' (by simp only[aq,length_map,bL];omega) (ih r' (found++[g]) _ (w'.set hn) (by refine ER (fE hl') ?_;simp[aq]) (by simp;omega) (lt_of_lt_of_le (dN eg) (Nat.le_of_lt_succ lt)) z fun l r'' bj w2 h1 h2 h3 z=>
   q l r'' bj w2 h1 h2 (fun e=>absurd (h3 e).1 (by simp)) z)
theorem Rk(e:r≠[])(hs:r<:+ts):MO.inst 320 [(12,.p (.list (m8 0 ts))),(13,.p cN),(1,.p (.int (((ts.length - r.tail.length:Nat):Int) - 1)))]=rd ts r:=by
 cases r with
 |nil=>exact absurd rfl e
 |cons t r=>
  have:((ts.length - r.length:Nat):Int) - 1=((ts.length - (t::r).length:Nat):Int):=by have:=hs.length_le;simp only[length_cons]at this ⊢;lia
  exact congrArg (fun x=>MO.inst 320 [(12,.p (.list (m8 0 ts))),(13,.p cN),(1,.p (.int x))]) this
theorem Ci{Q:MQ V}(h:At ts σ i r)(z:cO ts i [i] σ (qn r) (fun l U ah=>Q (.p (.tup (aq l))) ah) E):Run fP [.ref i] σ Q E:=by
 unfold qn at z;refine⟨az.p0 ⟨r.length+1,Oc (le_refl _) _ r [] _ h.now.push ba (by have:=h.cS;have:=h.bX.length_le;simp;lia) (lt_succ_self _) z fun l r' ah w hl hL hb z=>?_⟩⟩;induction l with
 |nil=>
  obtain⟨_,er,hr⟩:=hb rfl;subst er;refine az.p0 (aF.mk _ _ _ (aB hl) rfl (ip rfl rfl (bl rfl)) (aT.mk (fun U=>bR.mk _ _ _ (bH w.at_.get) rfl (aU.pp sub_int (jZ.mk _ _ _ rfl w.at_.get rfl ?_))) fun x=>Bool.noConfusion x));refine Rk hr h.bX▸?_;have w':ik ts i [i] σ (ah.set i (rd ts r)) r:=⟨w.at_.move h.bX,w.ext.Dv (.head _),w.mem,w.lt⟩;exact w'.at_.bJ rfl rfl (w'.fault z)
 |cons g l=>
  refine az.p0 (aF.mk _ _ _ (aB hl) rfl yX (aT.mk (fun x=>Bool.noConfusion x) fun U=>dC.mk _ _ (aB hl) (tuple_list (by simp only[aq,length_map,bL];exact le_trans (by assumption) (bl rfl))) (Gb (z.done w))))
end
abbrev eQ:=Str×Nat
def yn(ts:Lk)(n:Nat):Nat:=if n=0 then tK ts - 1 else tK (ts.take (ts.length - n))
noncomputable def wy(w:Str):Str:=if w.length≤64 then w else ""
def e9(ts:Lk)(u:eQ):P:=jn (wy u.1) (yn ts u.2)
structure Item where
 gl:Ls
 on:Bool
 lk:List eQ
def Jz(ts:Lk)(it:Item):P:=.tup [.tup (aq it.gl),.bool it.on,.list (it.lk.map (e9 ts))]
noncomputable def jq:Nat→List eQ→Lk→PR (List eQ)
 |0,_,r=>.err r
 |N+1,acc,r=>if jC (.kw .lookup) r then(qm r.tail).bind fun U r'=>jq N (acc++[(jo r.tail,r.tail.length)]) r' else .ok acc r
def Qd(r:Lk):PR (Ls):=if jC (.sg .lb) r then qn r.tail else(dm r).bind fun g r=>.ok [g] r
def sH(g:Ls)(r:Lk):PR Item:=if jC (.sg .q) r then(jq (r.tail.length+1) [] r.tail).bind fun l r=>.ok ⟨g,true,l⟩ r else .ok ⟨g,false,[]⟩ r
def jD(r:Lk):PR Item:=(Qd r).bind sH
section
variable {ts r:Lk}{i n:Nat}{σ aj:LM}{S:Ln}{E:ME}
theorem Tj:off ts r=yn ts r.length:=by induction r<;>rfl
theorem At.use(h:At ts σ i r):e9 ts (jo r,r.length)=jn (jo r) (off ts r):=by refine ER Tj ?_;exact congrArg (jn · _) (if_pos h.short)
theorem nf{w:Str}{r':Lk}(h:qm r= .ok w r'):r'.length<r.length:=by
 unfold qm at h;split at h
 ·cases h;induction r with
  |nil=>contradiction
  |cons t r=>exact lt_succ_self _
 ·contradiction
theorem dI(r:Lk):r.tail.length≤r.length:=by rw[length_tail];exact sub_le _ _
theorem H6{β:Type}{k:List eQ→Lk→PR β}{Qf:β→Lk→LM→Prop}{k0:Nat}{g:V}(hn:aj.length≤n){Q:MQ Out}:∀(N:Nat) (r:Lk) (acc:List eQ) (σ:LM),ik ts i S aj σ r→σ[n]?=some (.list (acc.map (e9 ts)))→acc.length+N≤200000→r.length<N→
  cO ts i S aj ((jq N acc r).bind k) Qf E→(∀l r' ah,ik ts i S aj ah r'→ah[n]?=some (.list (l.map (e9 ts)))→cO ts i S aj (k l r') Qf E→Q (.next [(36,.ref i),(37,g),(2,.ref n)]) ah)→
  fk N (sy k0) (sA k0) [(36,.ref i),(37,g),(2,.ref n)] σ Q (back aj.length E):=by
 intro rv;induction rv with
 |zero=>exact fun r acc σ w hl hN lt z q=>absurd lt (not_lt_zero _)
 |succ N ih=>
  intro r acc σ w hl hN lt z q;refine w.at_.bJ rfl rfl (oN (c:=.kw .lookup) w.at_ rfl (fun e ah s a=>aT.mk (fun U=>?_) fun x=>Bool.noConfusion x) fun e=>aT.mk (fun x=>nomatch x) fun U=>q acc r σ w hl (z.bf e));have hl':=qX w hn s hl;have w2:ik ts i S aj (ah.set n (.list (acc.map (e9 ts)++[jn (jo r.tail) (off ts r.tail)]))) r.tail:=(w.step s a).set hn;refine⟨.append _ (aB hl'),bR.mk _ _ _ (bH a.get) rfl (bR.mk _ _ _ (bH a.get) rfl (aW.pp a.item (.append _ _ _ rfl rfl hl' (by simp only[length_map,bL];omega)
   (w2.at_.bJ rfl rfl (Th w2.at_ (cO.go w2 (z.bt e).bb fun x r' bj en s' w3 z=>?_))))))⟩
  exact ih r' _ _ w3 (qX w2 hn s' (by refine ER (fE hl') (EL a.use (ER map_append ?_));rfl)) (by simp;omega) (lt_of_lt_of_le (nf en) (le_trans (dI r) (Nat.le_of_lt_succ lt))) z q
theorem Tn{Q:MQ V}(h:At ts σ i r)(z:cO ts i [i] σ (jD r) (fun it U ah=>Q (.p (Jz ts it)) ah) E):Run l7 [.ref i] σ Q E:=by
 unfold jD Qd at z;have next:∀{g r' ah},ik ts i [i] σ ah r'→cO ts i [i] σ (sH g r') (fun it U ah=>Q (.p (Jz ts it)) ah) E→sD σ.length [(36,.ref i),(37,.p (.tup (aq g)))] ah (fun o ah=>cz σ.length ah o Q) (back σ.length E):=fun {g r' ah} w z=>by
  unfold sH at z;refine w.at_.bJ rfl rfl (oN (c:=.sg .q) w.at_ rfl (fun e ah s a=>aT.mk (fun x=>Bool.noConfusion x) fun U=>?_) fun e=>aT.mk (fun U=>az.p0 (az.p3 (Gb ((z.f e).done w)))) fun x=>Bool.noConfusion x);have w':=w.step s a;refine az.p0 ⟨_,H6 w'.ext.1 _ _ [] _ w'.push ba (by have:=a.cS;have:=a.bX.length_le;simp at this ⊢;lia) (lt_succ_self _) (z.t e) fun l r2 σ2 w2 hl z=>?_⟩;exact az.mk _ _ (.cons (.p _) (.cons (.p _) (.cons (.list hl w'.ext.1) .nil))) (bl rfl) (Gb (z.done (w2.set w'.ext.1)))
 exact⟨h.bJ rfl rfl (oN (c:=.sg .lb) h rfl (fun e ah s a=>aT.mk (fun U=>Ci a (cO.go (h.now.step s a) (z.bt e) fun l r' ah U U w z=>next w z)) fun x=>Bool.noConfusion x)
  fun e=>aT.mk (fun x=>Bool.noConfusion x) fun U=>h.bJ rfl rfl (z8 h (cO.go h.now (z.bf e).bb fun g r' ah U U w z=>az.p1 (next (g:=[g]) w z))))⟩
end
def dJ(ts:Lk)(l:List Item):Lp:=l.map (Jz ts)
noncomputable def fF:Nat→List Item→Item→Bool→Lk→PR (List Item)
 |0,_,_,_,r=>.err r
 |N+1,pre,a,over,r=>if starts r then(jD r).bind fun it r'=>if (over || (a.on&&!it.on))&&it.on then .err r else fF N (pre++[a]) it (over || (a.on&&!it.on)) r' else .ok (pre++[a]) r
def gc(r:Lk):PR (List Item):=(jD r).bind fun it r'=>fF (r'.length+1) [] it false r'
section
variable {ts r:Lk}{i n:Nat}{σ aj:LM}{S:Ln}{E:ME}
theorem Od{k:Nat}{l:Lp}{Q:MQ V}(hn:k≤n)(e:σ[n]?=some (.list l))(q:Q (.ref k) (σ.take k++[.list l])):cz k σ (.ret (.ref n)) Q:=⟨_,_,.list hn e,q⟩
theorem DE{k m:Nat}(h:0<k)(hm:k≤m):seqIndex? (-(k:Int)) m=some (m - k):=by
 unfold seqIndex?;simp only[show -(k:Int)<0 by simp+arith [*],if_true];rw[if_pos (by simp;omega)]
 congr 1;lia
theorem Gd{l:Lp}{x:P}:b8 (.list (l++[x])) (-1) x:=item_list (j:=l.length) rfl ((DE (k:=1) (succ_pos _) (by simp)).trans (by simp)) (by simp)
theorem Oe{l:Lp}{x y:P}:b8 (.list (l++[x]++[y])) (-2) x:=item_list (j:=l.length) rfl ((DE (k:=2) (succ_pos _) (by simp)).trans (by simp)) (by simp)
theorem Of{g:Ls}{b:Bool}{l:Lp}:b8 (.tup [.tup (aq g),.bool b,.list l]) 1 (.bool b):=aO (k:=1) rfl (by decide)
theorem H7{N:Nat}:∀{acc l:List eQ} {r r':Lk},jq N acc r= .ok l r'→r'.length≤r.length:=by
 induction N with
 |zero=>intro acc l r r' h;contradiction
 |succ N ih=>
  intro acc l r r' h;have h:(if jC (.kw .lookup) r then(qm r.tail).bind fun U r'=>jq N (acc++[(jo r.tail,r.tail.length)]) r' else .ok acc r)=_:=h;split at h
  ·generalize e:qm r.tail=gg;induction gg with
   |err _=>replace h:=e▸h;contradiction
   |ok w r2=>rw[e]at h;exact le_trans (ih h) (le_trans (le_of_lt (nf e)) (dI r))
  ·cases h;exact le_refl _
theorem z9{N:Nat}:∀{acc l:Ls} {r r':Lk},DC N acc r= .ok l r'→r'.length≤r.length:=by
 induction N with
 |zero=>intro acc l r r' h;contradiction
 |succ N ih=>
  intro acc l r r' h;have h:(if jC (.sg .rb) r then .ok acc r.tail else if decide (jo r∈acc)then .err r else(dm r).bind fun w r=>DC N (acc++[w]) r)=_:=h;split at h
  ·cases h;exact dI r
  ·split at h
   ·contradiction
   ·generalize e:dm r=gg;induction gg with
    |err _=>replace h:=e▸h;contradiction
    |ok w r2=>rw[e]at h;exact le_trans (ih h) (le_of_lt (dN e))
theorem aV{α β:Type}{p:PR α}{f:α→Lk→PR β}{b:β}{r':Lk}(h:p.bind f= .ok b r'):∃a r,p= .ok a r∧f a r= .ok b r':=by
 induction p with
 |ok a r=>exact⟨a,r,rfl,h⟩
 |err r=>contradiction
theorem DF{c:Tk}(h:jC c r=true):r.tail.length<r.length:=by
 induction r with
 |nil=>contradiction
 |cons t r=>exact lt_succ_self _
theorem K9{it:Item}{r':Lk}(h:jD r= .ok it r'):r'.length<r.length:=by
 obtain⟨g,r2,h1,h2⟩:=aV h;have a:r2.length<r.length:=by
  unfold Qd at h1;split at h1
  ·rename_i e;obtain⟨l,r3,h3,h4⟩:=aV h1;split at h4<;>cases h4;exact Nat.lt_of_le_of_lt (z9 h3) (DF e)
  ·obtain⟨g',r3,h3,h4⟩:=aV h1;cases h4;exact dN h3
 have b:r'.length≤r2.length:=by
  unfold sH at h2;split at h2
  ·obtain⟨l,r3,h3,h4⟩:=aV h2;cases h4;exact le_trans (H7 h3) (dI r2)
  ·cases h2;exact le_refl _
 exact Nat.lt_of_le_of_lt b a
theorem H8{Qf:List Item→Lk→LM→Prop}{k0 N:Nat}{pre:List Item}{a:Item}{over:Bool}(hn:aj.length≤n){Q:MQ Out}(w:ik ts i S aj σ r)(hl:σ[n]?=some (.list (dJ ts (pre++[a]))))(hN:pre.length≤200000)
  (z:cO ts i S aj ((jD r).bind fun it r'=>if (over || (a.on&&!it.on))&&it.on then .err r else fF N (pre++[a]) it (over || (a.on&&!it.on)) r') Qf E)
  (go:∀it r' ah,ik ts i S aj ah r'→r'.length<r.length→ah[n]?=some (.list (dJ ts (pre++[a]++[it])))→cO ts i S aj (fF N (pre++[a]) it (over || (a.on&&!it.on)) r') Qf E→
   Q (.next [(36,.ref i),(38,.ref n),(39,.p (.bool (over || (a.on&&!it.on)))),(40,.p (.int ((ts.length - r.length:Nat):Int)))]) ah):
  pW k0 [(36,.ref i),(38,.ref n),(39,.p (.bool over)),(40,.p (.int ((ts.length - r.length:Nat):Int)))] σ Q (back aj.length E):=by
 refine⟨.append _ (aB hl),Tn w.at_ (cO.go w z fun it r' ah ei s w' z=>?_)⟩;have hl':=qX w hn s hl;have h2:(ah.set n (.list (dJ ts (pre++[a])++[Jz ts it])))[n]?=some (.list (dJ ts pre++[Jz ts a]++[Jz ts it])):=by refine ER (fE hl') ?_;simp[dJ]
 have w2:=w'.set (o:=.list (dJ ts (pre++[a])++[Jz ts it])) hn
 have last:∀{K:MQ V},K (.p (.bool it.on)) _→aW _ (.ref n) (.p (.int (-1))) b8 fun v σ=>aW σ v (.p (.int 1)) b8 K:=fun q=>aW.mk _ _ _ (aB h2) rfl Gd (aW.pp Of q);have hr:MO.inst 320 [(12,.p (.list (m8 0 ts))),(13,.p cN),(1,.p (.int ((ts.length - r.length:Nat):Int)))]=rd ts r:=rfl;have w3:ik ts i S aj ((ah.set n (.list (dJ ts (pre++[a])++[Jz ts it]))).set i (rd ts r)) r:=⟨w2.at_.move w.at_.bX,w2.ext.Dv w2.mem,w2.mem,w2.lt⟩;have fin:∀{b},b=(over || (a.on&&!it.on))→pV k0 [(36,.ref i),(38,.ref n),(39,.p (.bool b)),(40,.p (.int ((ts.length - r.length:Nat):Int)))] (ah.set n (.list (dJ ts (pre++[a])++[Jz ts it]))) Q (back aj.length E):=fun hb=>by
  have go:=fun z=>go it r' _ w2 (K9 ei) (h2.trans (ER ((by simp[dJ]):dJ ts pre++[Jz ts a]++[Jz ts it]=dJ ts (pre++[a]++[it])) rfl)) z
  rw[←hb]at z go;exact aT.mk (fun e=>last (aT.mk (fun e'=>jZ.mk _ _ _ rfl w2.at_.get rfl (w3.at_.bJ rfl rfl (w3.fault (z.t (Qa e e'))))) fun e'=>go (z.f (at_ e e')))) fun e=>aT.mk (fun x=>Bool.noConfusion x) fun U=>go (z.f (af e))
 refine .append _ _ _ rfl rfl hl' (by simp only[dJ,length_map,bL];simp;lia) (aT.mk (fun e=>fin (by refine ER e ?_;rfl)) fun e=>aW.mk _ _ _ (aB h2) rfl Oe (aW.pp Of (aT.mk (fun e'=>last (fin (by refine ER e (ER e' ?_);rfl))) fun e'=>fin (by refine ER e (ER e' ?_);rfl))))
theorem H9{Qf:List Item→Lk→LM→Prop}{k0:Nat}(hn:aj.length≤n){Q:MQ Out}:∀(N:Nat) (r:Lk) (pre:List Item) (a:Item) (over:Bool) (t:ai) (σ:LM),(t=[]∨∃v,t=[(40,v)])→
  ik ts i S aj σ r→σ[n]?=some (.list (dJ ts (pre++[a])))→pre.length+N≤200000→r.length<N→
  cO ts i S aj (fF N pre a over r) Qf E→(∀l r' b t ah,ik ts i S aj ah r'→ah[n]?=some (.list (dJ ts l))→Qf l r' (ah.take aj.length)→Q (.next ((36,.ref i)::(38,.ref n)::(39,b)::t)) ah)→
  fk N (ku k0) (ky k0) ((36,.ref i)::(38,.ref n)::(39,.p (.bool over))::t) σ Q (back aj.length E):=by
 intro rv;induction rv with
 |zero=>exact fun r pre a over t σ ht w hl hN lt z q=>absurd lt (not_lt_zero _)
 |succ N ih=>
  intro r pre a over t σ ht w hl hN lt z q;refine Rh w.at_ (aT.mk (fun e=>bR.mk _ _ _ (bH w.at_.get) rfl ?_) fun e=>q (pre++[a]) r _ t σ w hl ((z.f e).done w));have st:=H8 (k0:=k0) hn w hl (by grind only) (z.t e) (Q:=cB (fk N (ku k0) (ky k0)) Q (back aj.length E)) fun it r' ah w' l' h' z=>ih r' (pre++[a]) it _ [(40,_)] ah (.inr ⟨_,rfl⟩) w' h' (by simp;lia) (by omega) z q;rcases ht with rfl|⟨v,rfl⟩<;>exact st
theorem UL{Q:MQ V}(h:At ts σ i r)(z:cO ts i [i] σ (gc r) (fun its U ah=>Q (.ref σ.length) (ah++[.list (dJ ts its)])) E):Run nX [.ref i] σ Q E:=by
 unfold gc at z;refine⟨Tn h (cO.go h.now z fun it r' ah U s w z=>az.p1 ⟨_,H9 w.ext.1 _ r' [] it false [] _ (.inl rfl) w.push ba (by have:=w.at_.cS;have:=w.at_.bX.length_le;simp at this ⊢;lia) (lt_succ_self _) z fun l r2 b t σ2 w2 hl q=>?_⟩)⟩;exact Od w.ext.1 hl q
end
noncomputable def iY:Nat→Ls→Lk→PR (Ls)
 |0,_,r=>.err r
 |N+1,found,r=>if EM r then(dm r).bind fun w r=>iY N (found++[w]) r else .ok found r
def pNames(r:Lk):PR (Ls):=(dm r).bind fun w r=>iY (r.length+1) [w] r
noncomputable def g6(r1:Lk):Nat→Lk→PR Unit
 |0,_=>.ok () r1
 |n+1,r0=>if jC (.sg .lb) r0 then .err r0 else g6 r1 n r0.tail
section
variable {ts r:Lk}{i n:Nat}{σ aj:LM}{S:Ln}{E:ME}
theorem At.room(h:At ts σ i r):r.length≤100000:=le_trans h.bX.length_le h.cS
theorem Ia{Qf:Ls→Lk→LM→Prop}{k0:Nat}(hn:aj.length≤n){Q:MQ Out}:∀(N:Nat) (r:Lk) (found:Ls) (σ:LM),ik ts i S aj σ r→σ[n]?=some (.list (aq found))→found.length+N≤200000→r.length<N→
  cO ts i S aj (iY N found r) Qf E→(∀l r' ah,ah[n]?=some (.list (aq l))→l.length≤200000→Qf l r' (ah.take aj.length)→Q (.next [(36,.ref i),(33,.ref n)]) ah)→
  fk N (pP k0) (pQ k0) [(36,.ref i),(33,.ref n)] σ Q (back aj.length E):=by
 intro rv;induction rv with
 |zero=>exact fun r found σ w hl hN lt z q=>absurd lt (not_lt_zero _)
 |succ N ih=>
  intro r found σ w hl hN lt z q;refine w.at_.bJ rfl rfl (kM w.at_ (qW w.at_ (aT.mk (fun e=>⟨.append _ (aB hl),w.at_.bJ rfl rfl (z8 w.at_ (cO.go w (z.t e) fun g r' ah eg s w' z=>?_))⟩) fun e=>q found r σ hl (by omega) ((z.f e).done w))));have hl':=qX w hn s hl;exact .append _ _ _ rfl rfl hl' (by simp only[aq,length_map,bL];omega) (ih r' (found++[g]) _ (w'.set hn) (by refine ER (fE hl') ?_;simp[aq]) (by simp;omega) (lt_of_lt_of_le (dN eg) (Nat.le_of_lt_succ lt)) z q)
theorem UM{Q:MQ V}(h:At ts σ i r)(z:cO ts i [i] σ (pNames r) (fun l U ah=>Q (.p (.tup (aq l))) ah) E):Run nV [.ref i] σ Q E:=by
 unfold pNames at z;exact⟨h.bJ rfl rfl (z8 h (cO.go h.now z fun g r' ah U s w z=>az.p1 ⟨_,Ia w.ext.1 _ r' [g] _ w.push ba (by have:=w.at_.room;simp;omega) (lt_succ_self _) z fun l r2 σ2 hl hL q=>
  dC.mk _ _ (aB hl) (tuple_list (by simp only[aq,length_map,bL];exact le_trans (by assumption) (bl rfl))) (Gb q)⟩))⟩
theorem aA{all:Lp}:mO all none σ:=fun U h=>by cases h
theorem Og{r0:Lk}(h:r0<:+ts):r0.tail<:+ts:=(List.tail_suffix r0).trans h
theorem Ge{Qf:Unit→Lk→LM→Prop}{all:Lp}{k0:Nat}{v:V}{Q:MQ Out}(w:ik ts i S aj σ r)(q:∀le,Qf () r (σ.take aj.length)→Q (.next le) σ):∀(m:Nat) (r0:Lk) (t:ai),(t=[]∨∃v,t=[(40,v)])→r0<:+ts→m≤r0.length→cO ts i S aj (g6 r m r0) Qf E→
  bU all none (.one 40) (gn k0) (gj ((ts.length - r0.length:Nat):Int) m) ((36,.ref i)::(49,v)::t) σ Q (back aj.length E):=by
 intro rv;induction rv with
 |zero=>exact fun r0 t ht hs hm z=>⟨aA,q _ (z.done w)⟩
 |succ m ih=>
  intro r0 t ht hs hm z;have a0:At ts (σ.set i (rd ts r0)) i r0:=w.at_.move hs;have cS:=w.at_.cS;have w0:ik ts i S aj (σ.set i (rd ts r0)) r0:=⟨a0,w.ext.Dv w.mem,w.mem,w.lt⟩;have ne:r0.length≠0:=by grind only
  have st:gn k0 [(36,.ref i),(49,v),(40,.p (.int ((ts.length - r0.length:Nat):Int)))] σ (cB (bU all none (.one 40) (gn k0) (gj (((ts.length - r0.length:Nat):Int)+1) m)) Q (back aj.length E)) (back aj.length E):=
   bR.mk _ _ _ (bH w.at_.get) rfl (aW.pp (cE (Ga hs) (by omega)) (aW.pp (aO (k:=0) rfl (zero_le _)) (aF.pp (b7 _ _) (aT.mk (fun e=>
    jZ.mk _ _ _ rfl w.at_.get rfl (a0.bJ rfl rfl (w0.fault (z.t ((iE (c:=.sg .lb) a0 rfl).symm.trans e))))) fun e=>((by have:=hs.length_le;refine ER length_tail ?_;lia):((ts.length - r0.length:Nat):Int)+1=((ts.length - r0.tail.length:Nat):Int))▸ih r0.tail [(40,_)] (.inr ⟨_,rfl⟩) (Og hs) (by refine ER length_tail ?_;omega) (z.f ((iE (c:=.sg .lb) a0 rfl).symm.trans e))))))
  rcases ht with rfl|⟨u,rfl⟩<;>exact .mk aA _ rfl st
theorem Rl{r0:Lk}{Q:MQ V}(w:At ts σ i r)(hs:r0<:+ts)(hr:r<:+r0)(z:cO ts i [i] σ (g6 r (r0.length - r.length) r0) (fun U U ah=>Q (.p .none) ah) E):Run mr [.ref i,.p (.int ((ts.length - r0.length:Nat):Int))] σ Q E:=by
 have h1:=hr.length_le
 have h2:=hs.length_le
 have cS:=w.cS
 refine⟨bR.mk _ _ _ (bH w.get) rfl (WA.mk _ _ rfl rfl (cg (by omega)) (cg (by omega)) (by simp only[bL];omega) ⟨?_⟩)⟩;show bU _ none (.one 40) _ (gj _ (((ts.length - r.length:Nat):Int) - ((ts.length - r0.length:Nat):Int)).toNat) _ _ _ _;refine ER ((by grind only):(((ts.length - r.length:Nat):Int) - ((ts.length - r0.length:Nat):Int)).toNat=r0.length - r.length) ?_;exact Ge w.now (fun le q=>tL q) _ r0 [] (.inl rfl) hs (sub_le _ _) z
theorem comp_map{k0 y:Nat}{all:Lp}{wt:Option Nat}{cond:ai→M Bool}{elt:CV}{base:ai}{f:P→P}{g:P→Bool}(hy:∀v x,bx (base++[(y,v)]) y x=base++[(y,x)])(Xi:∀x,bx base y x=base++[(y,x)])(hw:mO all wt σ){Q:MQ (Lp)}:∀(xs acc:Lp) (t:ai),(t=[]∨∃v,t=[(y,v)])→acc.length+xs.length≤bL→
  (∀x∈xs,∀K:MQ Bool,K (g x) σ→cond (base++[(y,.p x)]) σ K E)→(∀x∈xs,g x=true→∀K:MQ V,K (.p (f x)) σ→elt (base++[(y,.p x)]) σ K E)→Q (acc++(xs.filter g).map f) σ→cQ k0 all wt (.one y) cond elt xs (base++t) acc σ Q E:=by
 intro rv;induction rv with
 |nil=>exact fun acc t ht hl hc he q=>⟨hw,by simpa using q⟩
 |cons x xs ih=>
  intro acc t ht hl hc he q;have hl:acc.length+xs.length+1≤bL:=by simpa [add_assoc]using hl
  have rec0:g x=false→cQ k0 all wt (.one y) cond elt xs (base++[(y,.p x)]) acc σ Q E:=fun e=>ih acc [(y,_)] (.inr ⟨_,rfl⟩) (by omega) (fun x hx=>hc x (.tail _ hx)) (fun x hx=>he x (.tail _ hx)) (by simpa [filter_cons,e]using q);exact .mk hw (base++[(y,.p x)]) (by rcases ht with rfl|⟨v,rfl⟩;exact congrArg some ((congrArg (bx · y _) (append_nil base)).trans (Xi _));exact congrArg some (hy _ _)) (hc x (.head _) _ (aT.mk (fun e=>he x (.head _) e _ (.mk _ _ (.one (.p _)) (by grind only) ((fun e=>ih (acc++[f x]) [(y,_)] (.inr ⟨_,rfl⟩) (by simp;omega) (fun x hx=>hc x (.tail _ hx)) (fun x hx=>he x (.tail _ hx)) (by simpa [filter_cons,e]using q):g x=true→cQ k0 all wt (.one y) cond elt xs (base++[(y,.p x)]) (acc++[f x]) σ Q E) e))) fun e=>rec0 e))
end
noncomputable def Oh(kind:Str)(aaP:P):P:=.inst 173 [(7,.str kind),(8,aaP)]
def Aa(x:Str×P):P:=Oh x.1 x.2
noncomputable def eW(l:List Int):Lp:=l.map P.int
noncomputable def Ab:Nat→List Int→Lk→PR (List Int)
 |0,acc,r=>.ok acc r
 |n+1,acc,r=>(pNum (-32768) 32767 r).bind fun v r=>Ab n (acc++[v]) r
def wz(r:Lk):PR (List Int):=if jC (.sg .lt) r then(Ab 4 [] r.tail).bind fun l r=>(bO (.sg .gt) r).bind fun U r=>.ok l r else(pNum (-32768) 32767 r).bind fun v r=>.ok [0,0,v,0] r
section
variable {ts r:Lk}{i n k:Nat}{σ aj:LM}{S:Ln}{E:ME}{Q:MQ V}
theorem set_push{a b:MO}:(σ++[a]).set σ.length b=σ++[b]:=by simp
theorem wA{a:MO}(h:k≤σ.length):(σ++[a]).take k=σ.take k:=List.take_append_of_le_length h
theorem qo{kd:Str}{aaP:P}(h:k≤σ.length)(q:Q (.p (Oh kd aaP)) (σ.take k)):Run b9 [.ref σ.length,.p (.str kd),.p aaP] (σ++[.inst 173 []]) (fun v ah=>v= .p .none∧cz k ah (.ret (.ref σ.length)) Q) E:=by
 refine⟨jZ.mk _ _ _ rfl ba rfl (jZ.mk _ _ _ rfl (by refine ER set_push ?_;exact ba) rfl (tL ⟨rfl,?_⟩))⟩;refine ER set_push (ER set_push (ER (take_of_length_le (by simp)) ?_));exact⟨_,_,.P7 (.inst ba h (.cons (.p _) (.cons (.p _) .nil))),by refine ER set_push (ER (wA h) ?_);exact q⟩
theorem JA:DA (-32768) 32767:=.inr ⟨rfl,rfl⟩
theorem La{β:Type}{k:List Int→Lk→PR β}{Qf:β→Lk→LM→Prop}{all:Lp}{k0:Nat}{Q:MQ (Lp)}:∀(m:Nat) (a:Int) (r:Lk) (acc:List Int) (t:ai) (σ:LM),(t=[]∨∃v,t=[(48,v)])→acc.length+m≤1000→ik ts i S aj σ r→cO ts i S aj ((Ab m acc r).bind k) Qf E→
  (∀l r' ah,ik ts i S aj ah r'→cO ts i S aj (k l r') Qf E→l.length≤1000→Q (eW l) ah)→
  cQ k0 all none (.one 48) bV (aM T3.mt 24 (aa 36) [aa 34,cP fN]) (gj a m) ((36,.ref i)::(34,.p (.int (-32768)))::t) (eW acc) σ Q (back aj.length E):=by
 intro rv;induction rv with
 |zero=>
  exact fun a r acc t σ ht hl w z q=>⟨aA,q acc r σ w z (by omega)⟩
 |succ m ih=>
  intro a r acc t σ ht hl w z q;have st:aM T3.mt 24 (aa 36) [aa 34,cP fN] [(36,.ref i),(34,.p (.int (-32768))),(48,.p (.int a))] σ (fun v σ=>Fe k0 σ v (eW acc).length fun y σ=>cQ k0 all none (.one 48) bV (aM T3.mt 24 (aa 36) [aa 34,cP fN]) (gj (a+1) m) [(36,.ref i),(34,.p (.int (-32768))),(48,.p (.int a))] (eW acc++[y]) σ Q (back aj.length E)) (back aj.length E):=
   w.at_.bJ rfl rfl (DB w.at_ JA (cO.go w z.bb fun v r' ah U s w' z=>.mk _ _ (.one (.p _)) (by simp only[eW,length_map,bL];omega) (by
    have:=ih (a+1) r' (acc++[v]) [(48,.p (.int a))] ah (.inr ⟨_,rfl⟩) (by simp;omega) w' z q
    simpa only[eW,map_append,map_cons,map_nil]using this)))
  rcases ht with rfl|⟨u,rfl⟩<;>exact .mk aA _ rfl (aT.mk (fun U=>st) fun x=>Bool.noConfusion x)
theorem Oi(h:At ts σ i r)(z:cO ts i [i] σ (wz r) (fun l U ah=>Q (.p (.tup (eW l))) ah) E):Run nW [.ref i] σ Q E:=by
 unfold wz at z;refine⟨aU.pp sub_int (h.bJ rfl rfl (oN (c:=.sg .lt) h rfl (fun e ah s a=>aT.mk (fun x=>Bool.noConfusion x) fun U=>?_) fun e=>aT.mk (fun U=>?_) fun x=>Bool.noConfusion x))⟩
 ·have w:=h.now.step s a;refine Hr.mk _ rfl rfl (bl rfl) ⟨La 4 0 _ [] [] _ (.inl rfl) (bl rfl) w (z.t e) fun l r' σ2 w2 z hl=>w2.at_.bJ rfl rfl (u6 (c:=.sg .gt) w2.at_ rfl rfl (cO.go w2 z fun U r3 σ3 U s w3 z=>dC.pp (tuple_list (by simp only[eW,length_map,bL];exact le_trans (by assumption) (bl rfl))) (Gb (z.done w3))))⟩
 ·exact h.bJ rfl rfl (DB h JA (cO.go h.now (z.f e) fun v r' ah U s w z=>az.p4 (Gb (z.done w))))
end
noncomputable def Ac:P→P
 | .tup (.tup (x::_)::_)=>x
 |_=>.none
noncomputable def firstOf(it:Item):Str:=it.gl.headD ""
def u7(its:List Item):Ls:=its.map firstOf
def d9(its:List Item):Lp:=aq (u7 its)
def wB(l:Lp):Bool:=Hz (.int (l.length:Nat)) (.int 1)
def wC(its:List Item)(r:Lk):PR (Str×P):=
 if decide (((d9 its).length:Int) > 2)then .err r else(wz r).bind fun w r=>.ok (if wB (d9 its)then "adjust" else "pair",.tup (d9 its++[.tup (eW w)])) r
def tM(its:List Item)(r:Lk):PR (Str×P):=
 if wB (d9 its)&&jC (.kw .eV) r then(bO (.sg .lb) r.tail).bind fun U r=>(qn r).bind fun g r=>.ok ("alternate",.tup [.str ((u7 its).headD ""),.tup (aq g)]) r
 else(bO (.kw .Ca) r).bind fun U r=>if decide (((d9 its).length:Int) > 1)then(dm r).bind fun g r=>.ok ("ligature",.tup [.tup (d9 its),.str g]) r
  else if jC (.kw .null) r then .ok ("multiple",.tup [.str ((u7 its).headD ""),.tup []]) r.tail
  else(pNames r).bind fun ns r=>if wB (aq ns)then .ok ("single",.tup [.str ((u7 its).headD ""),.str (ns.headD "")]) r else .ok ("multiple",.tup [.str ((u7 its).headD ""),.tup (aq ns)]) r
section
variable {ts r:Lk}{i m:Nat}{σ:LM}{E:ME}{its:List Item}
structure Ad (ts:Lk) (σ:LM) (m:Nat) (its:List Item):Prop where
 get:σ[m]?=some (.list (dJ ts its))
 full:∀it∈its,it.gl≠[]
 ne:its≠[]
 cS:its.length≤200000
theorem Ad.watch(h:Ad ts σ m its):mO (dJ ts its) (some m) σ:=fun n e=>by obtain rfl:=Option.some.inj e;exact h.get
theorem Ad.lim(h:Ad ts σ m its):(dJ ts its).length≤bL:=by have:=h.cS;simp only[dJ,length_map,bL];exact le_trans (by assumption) (bl rfl)
theorem Ad.first(h:Ad ts σ m its){x:P}(hx:x∈dJ ts its):∃g gl b l,x= .tup [.tup (.str g::gl),b,l]:=by
 obtain⟨it,hi,rfl⟩:=mem_map.mp hx;generalize e:it.gl=gg;induction gg with
 |nil=>exact absurd e (h.full it hi)
 |cons g gl=>exact⟨g,aq gl,.bool it.on,.list (it.lk.map (e9 ts)),by simp[Jz,e,aq]⟩
theorem Ad.map(h:Ad ts σ m its):(dJ ts its).map Ac=d9 its:=by
 unfold d9 u7 aq dJ;refine ER map_map (ER map_map ?_);refine List.map_congr_left fun it hi=>?_;generalize e:it.gl=gg;induction gg with
 |nil=>exact absurd e (h.full it hi)
 |cons g gl=>
  show Ac (.tup (.tup (aq it.gl)::_))=P.str (it.gl.headD "");refine ER e ?_;rfl
theorem Ad.left{k0:Nat}{K:MQ V}(h:Ad ts σ m its)(q:K (.p (.tup (d9 its))) σ):Nj σ (.ref m) (fun src σ=>BY k0 src (.one 45) bV (aL (aL (aa 45) (cP (.int 0))) (cP (.int 0))) [] σ (fun l σ=>dC .tuple σ (.p (.list l)) K) E):=by
 refine .mk _ (.ref h.get) h.lim ⟨comp_map (g:=fun U=>true) (f:=Ac) (base:=[]) (fun U U=>rfl) (fun U=>rfl) h.watch _ [] [] (.inl rfl) (by simpa using h.lim) (fun U U U q=>q) (fun x hx U K q=>?_) ?_⟩
 ·obtain⟨g,gl,b,l,rfl⟩:=h.first hx;exact aW.pp (aO (k:=0) rfl (zero_le _)) (aW.pp (aO (k:=0) rfl (zero_le _)) q)
 ·have e:([]++((dJ ts its).filter fun U=>true).map Ac)=d9 its:=(congrArg (List.map Ac) (filter_eq_self.mpr fun U U=>rfl)).trans h.map;refine ER e ?_;exact dC.pp (tuple_list (by refine EL (h.map ..) (ER (length_map ..) ?_);exact h.lim)) q
theorem Zj{Q:MQ V}(h:At ts σ i r)(w:Ad ts σ m its)(hi:m<σ.length)(ZI:m≠i)(z:cO ts i [i] σ (wC its r) (fun x U ah=>Q (.p (Aa x)) ah) E):Run f7 [.ref i,.ref m] σ Q E:=by
 unfold wC at z;have cS:(d9 its).length≤bL:=by refine EL (w.map ..) (ER (length_map ..) ?_);exact w.lim
 obtain⟨a,l,hL⟩:∃a l,d9 its=a::l:=by
  generalize e:its=gg;induction gg with
  |nil=>exact absurd e w.ne
  |cons a l=>exact⟨_,_,rfl⟩
 have one:cD .Eq (.int ((d9 its).length:Nat)) (.int 1) (wB (d9 its)):=ip rfl rfl (bl rfl);refine⟨w.left (dC.pp (jL cS) (aF.pp cmp_gt (aT.mk (fun e=>h.bJ rfl rfl (h.now.fault (z.t e))) fun e=>dC.pp (jL cS) (aF.pp one ?_))))⟩;have z:=z.f e;rw[hL]at z cS ⊢;have cS:(a::l).length+[P.tup []].length≤bL:=by refine EL (hL ..) (EL (w.map ..) (ER (length_map ..) ?_));have:=w.cS;simp only[dJ,length_map,bL,length_cons,length_nil];lia
 refine aT.mk (fun e=>Oi h (cO.go h.now z fun v r' ah U s w z=>az.p1 (aU.pp (yJ cS) (qo w.ext.1 ?_)))) fun e=>Oi h (cO.go h.now z fun v r' ah U s w z=>az.p1 (aU.pp (yJ cS) (qo w.ext.1 ?_)))
 ·rw[if_pos e]at z;exact z.done w
 ·rw[e]at z;exact z.done w
theorem Rm{N:Nat}:∀{found l:Ls} {r r':Lk},iY N found r= .ok l r'→found.length≤l.length∧l.length≤found.length+r.length:=by
 induction N with
 |zero=>intro found l r r' h;cases h
 |succ N ih=>
  intro found l r r' h;have h:(if EM r then(dm r).bind fun w r=>iY N (found++[w]) r else .ok found r)=_:=h;split at h
  ·obtain⟨w,r2,h1,h2⟩:=aV h;have a:=ih h2;have b:=dN h1;simp only[length_append,length_singleton]at a;grind only
  ·cases h;exact⟨le_refl _,le_add_right _ _⟩
theorem Ib{l:Ls}{r':Lk}(h:pNames r= .ok l r'):l≠[]∧l.length≤r.length:=by
 obtain⟨w,r2,h1,h2⟩:=aV h;have a:=Rm h2;have b:=dN h1;simp only[length_singleton]at a;exact⟨by rintro rfl;exact absurd a.1 (by decide),by omega⟩
theorem Zk{Q:MQ V}(h:At ts σ i r)(w:Ad ts σ m its)(z:cO ts i [i] σ (tM its r) (fun x U ah=>Q (.p (Aa x)) ah) E):Run dW [.ref i,.ref m] σ Q E:=by
 unfold tM at z;have cS:(d9 its).length≤bL:=by refine EL (w.map ..) (ER (length_map ..) ?_);exact w.lim
 obtain⟨a,l,hL,hd⟩:∃a l,d9 its= .str a::l∧(u7 its).headD "" =a:=by
  generalize e:its=gg;induction gg with
  |nil=>exact absurd e w.ne
  |cons a l=>exact⟨_,_,rfl,rfl⟩
 have it0:b8 (.tup (d9 its)) 0 (.str a):=hL▸aO (k:=0) rfl (zero_le _);replace z:=hd▸z;have rest:(wB (d9 its)&&jC (.kw .eV) r)=false→fX σ.length [(36,.ref i),(38,.ref m),(18,.p (.tup (d9 its)))] σ (fun o ah=>cz σ.length ah o Q) (back σ.length E):=fun e=>by
  refine h.bJ rfl rfl (u6 (c:=.kw .Ca) h rfl rfl (cO.go h.now (z.f e) fun U r2 σ2 U s w2 z=>dC.pp (jL cS) (aF.pp cmp_gt (aT.mk (fun e=>w2.at_.bJ rfl rfl (z8 w2.at_ (cO.go w2 (z.t e) fun g r3 σ3 U s w3 z=>az.p2 (qo w3.ext.1 (z.done w3))))) fun e=>
   w2.at_.bJ rfl rfl (oN (c:=.kw .null) w2.at_ rfl (fun e' σ3 s a=>aT.mk (fun U=>aW.pp it0 (az.p0 (az.p2 (qo (w2.step s a).ext.1 (((z.f e).t e').done (w2.step s a)))))) fun x=>Bool.noConfusion x)
    fun e'=>aT.mk (fun x=>nomatch x) fun U=>UM w2.at_ (cO.go w2 ((z.f e).f e') fun l r3 σ3 en s w3 z=>?_))))))
  obtain⟨ne,fw⟩:=Ib en;have room:=w2.at_.room;induction l with
  |nil=>exact absurd rfl ne
  |cons b l=>
   exact dC.pp (jL (by simp only[aq,length_map,bL];lia)) (aF.pp (ip rfl rfl (bl rfl)) (aT.mk (fun e=>aW.pp it0 (aW.pp (aO (k:=0) rfl (zero_le _)) (az.p2 (qo w3.ext.1 ((z.t e).done w3)))))
    fun e=>aW.pp it0 (az.p2 (qo w3.ext.1 ((z.f e).done w3)))))
 refine⟨w.left (dC.pp (jL cS) (aF.pp (ip rfl rfl (bl rfl):cD .Eq (.int ((d9 its).length:Nat)) (.int 1) (wB (d9 its))) (aT.mk (fun e=>h.bJ rfl rfl (oN (c:=.kw .eV) h rfl (fun e' σ2 s a=>aT.mk (fun U=>?_) fun x=>nomatch x) fun e'=>aT.mk (fun x=>Bool.noConfusion x) fun U=>rest (at_ e e'))) fun e=>aT.mk (fun x=>Bool.noConfusion x) fun U=>rest (af e))))⟩;have w2:=h.now.step s a;exact w2.at_.bJ rfl rfl (u6 (c:=.sg .lb) w2.at_ rfl rfl (cO.go w2 (z.t (Qa e e')) fun U r3 σ3 U s w3 z=>aW.pp it0 (Ci w3.at_ (cO.go w3 z fun g r4 σ4 U s w4 z=>az.p2 (qo w4.ext.1 (z.done w4))))))
end
noncomputable def X7:P→Bool
 | .tup [_,.bool b,_]=>b
 |_=>false
section
variable {ts r:Lk}{i m n j k0:Nat}{σ aj:LM}{E:ME}{its:List Item}
theorem dc{x:P}{Q:MQ V}(q:Q (.p x) σ):cz σ.length σ (.ret (.p x)) Q:=Gb (by refine ER take_length ?_;exact q)
theorem Ad.at_(h:Ad ts σ m its){x:P}(hx:x∈dJ ts its):∃a b c,x= .tup [a,.bool b,c]:=by
 obtain⟨it,hi,rfl⟩:=mem_map.mp hx;exact⟨_,_,_,rfl⟩
theorem Ae:∀its:List Item,(dJ ts its).any X7=its.any (·.on):=by
 intro rv;induction rv with
 |nil=>exact rfl
 |cons it l ih=>exact congrArg (it.on || ·) (ih)
theorem Ic{Q:MQ V}(h:Ad ts σ m its)(q:Q (.p (.bool (its.any (·.on)))) σ):Run pJ [.ref m] σ Q E:=by
 have fin:∀{b},b=its.any (·.on)→cz σ.length σ (.ret (.p (.bool b))) Q:=fun hb=>dc (hb▸q);refine⟨.mk _ (.ref h.get) h.lim ⟨comp_map (g:=X7) (f:=id) (base:=[]) (fun U U=>rfl) (fun U=>rfl) h.watch _ [] [] (.inl rfl) (by simpa using h.lim) (fun x hx K q=>?_) (fun x hx U K q=>q) (az.p0 ?_)⟩⟩
 ·obtain⟨a,b,c,rfl⟩:=h.at_ hx;exact aW.pp (aO (k:=1) rfl (by decide)) q
 ·generalize e:((dJ ts its).filter X7).map id=gg;induction gg with
  |nil=>
   refine aF.pp (sJ rfl rfl (bl rfl)) (fin ?_);refine EL (Ae (ts:=ts) ..) ?_;rw[map_id,List.filter_eq_nil_iff]at e;exact(any_eq_false.mpr e).symm
  |cons x l=>
   refine aF.pp mK (fin ?_);refine EL (Ae (ts:=ts) ..) ?_;rw[map_id]at e;obtain⟨h1,h2⟩:=List.mem_filter.mp ((by refine ER e ?_;exact .head _):x∈(dJ ts its).filter X7);exact(any_eq_true.mpr ⟨x,h1,h2⟩).symm
theorem Xj{kd:Str}{p:P}{Q:MQ V}(q:Q (.p (.tup [.str kd,p])) σ):Run pG [.p (Oh kd p)] σ Q E:=
 ⟨bR.mk _ _ _ rfl rfl (bR.mk _ _ _ rfl rfl (az.p2 (dc q)))⟩
theorem u9(a n:Nat):clipAt n (a:Int)=min a n:=by unfold clipAt;refine ER (if_neg (by simp+arith [*])) ?_;omega
theorem Oj{α:Type}{l:List α}{m:Nat}:jJ l.length l none (some (m:Int))=l.take m:=by
 show(l.drop 0).take (clipAt l.length (m:Int) - 0)=_;refine ER (u9 ..) ?_;rcases le_total m l.length with h|h
 ·rw[min_eq_left h];rfl
 ·refine ER (Nat.min_eq_right h) (ER (take_of_length_le h) ?_);exact take_length
theorem Gf{α:Type}{l:List α}{m:Nat}:jJ l.length l (some (m:Int)) none=l.drop m:=by
 show(l.drop (clipAt l.length (m:Int))).take (l.length - clipAt l.length (m:Int))=_;refine ER (u9 ..) ?_;rcases le_total m l.length with h|h
 ·rw[min_eq_left h];exact take_of_length_le (by refine ER length_drop ?_;exact le_refl _)
 ·refine ER (Nat.min_eq_right h) (ER (List.drop_eq_nil_of_le h) (ER List.drop_length ?_));simp
theorem JB{α:Type}{l:List α}{a b:Nat}:jJ l.length l (some (a:Int)) (some (b:Int))=(l.drop a).take (b - a):=by
 show(l.drop (clipAt l.length (a:Int))).take (clipAt l.length (b:Int) - clipAt l.length (a:Int))=_;refine ER (u9 ..) (ER (u9 ..) ?_);rcases le_total a l.length with h|h
 ·rw[min_eq_left h];rcases le_total b l.length with h'|h'
  ·rw[min_eq_left h']
  ·exact ER (Nat.min_eq_right h') (ER (take_of_length_le (by rw[length_drop];exact le_refl _)) (ER (take_of_length_le (by rw[length_drop];omega)) rfl))
 ·refine ER (Nat.min_eq_right h) (ER (List.drop_eq_nil_of_le h) (ER List.drop_length ?_));simp
theorem Ie{l:Lp}{m:Nat}(h:l.length≤bL):jW (.tup l) none (some (m:Int)) (.tup (l.take m)):=Oj (l:=l)▸CS h
theorem nZ{l:Lp}{m:Nat}(h:l.length≤bL):jW (.list l) none (some (m:Int)) (.list (l.take m)):=Oj (l:=l)▸ze h
theorem qY{l:Lp}{m:Nat}(h:l.length≤bL):jW (.list l) (some (m:Int)) none (.list (l.drop m)):=Gf (l:=l)▸ze h
theorem Gg{l:Lp}{a b:Nat}(h:l.length≤bL):jW (.list l) (some (a:Int)) (some (b:Int)) (.list ((l.drop a).take (b - a))):=JB (l:=l)▸ze h
noncomputable def xT(x:Str×P):Str:=if x.1= "chain" then(match x.2 with| .tup (.str w::_)=>w|_=> "")else if x.1= "adjust" ∨x.1= "pair" then "pos" else "sub"
theorem Gh{kd:Str}{a:P}{l:Lp}{Q:MQ V}(hc:kd= "chain" →∃w,a= .str w)(q:Q (.p (.str (xT (kd,.tup (a::l))))) σ):Run j4 [.p (Oh kd (.tup (a::l)))] σ Q E:=by
 unfold xT at q;refine⟨bR.mk _ _ _ rfl rfl (aF.pp (b7 _ _) (aT.mk (fun e=>?_) fun e=>bR.mk _ _ _ rfl rfl (az.p2 (aF.pp (N6 ["adjust","pair"] kd) (aT.mk (fun e'=>dc ?_) fun e'=>dc ?_)))))⟩
 ·have e:=of_decide_eq_true e;obtain⟨w,rfl⟩:=hc e;rw[if_pos e]at q;exact bR.mk _ _ _ rfl rfl (aW.pp (aO (k:=0) rfl (zero_le _)) (dc q))
 ·rw[if_neg (of_decide_eq_false e),if_pos (by simpa using e')]at q;exact q
 ·rw[if_neg (of_decide_eq_false e),if_neg (by simpa using e')]at q;exact q
noncomputable def cI(x:Str×P):P:=if x.1= "chain" then .none else match x.2 with
 | .tup l=>.tup (l.take (if x.1= "pair" then 2 else 1))
 |_=>.none
theorem Gi{kd:Str}{l:Lp}{Q:MQ V}(hl:l.length≤1000)(q:Q (.p (cI (kd,.tup l))) σ):Run j5 [.p (Oh kd (.tup l))] σ Q E:=by
 unfold cI at q;have cut:∀m:Nat,jW (.tup l) none (some (m:Int)) (.tup (l.take m)):=fun m=>Ie (le_trans hl (bl rfl));refine⟨bR.mk _ _ _ rfl rfl (aF.pp (b7 _ _) (aT.mk (fun e=>dc ?_) fun e=>bR.mk _ _ _ rfl rfl (aF.pp (b7 _ _) (aT.mk (fun e'=>bR.mk _ _ _ rfl rfl (jK.mk _ _ _ _ rfl rfl rfl (cut 2) (dc ?_))) fun e'=>bR.mk _ _ _ rfl rfl (jK.mk _ _ _ _ rfl rfl rfl (cut 1) (dc ?_))))))⟩
 ·rw[if_pos (of_decide_eq_true e)]at q;exact q
 ·rw[if_neg (of_decide_eq_false e),if_pos (of_decide_eq_true e')]at q;exact q
 ·rw[if_neg (of_decide_eq_false e),if_neg (of_decide_eq_false e')]at q;exact q
end
noncomputable def lj(a:Int×Str):P:=.tup [.int a.1,.str a.2]
noncomputable def Af(its:List Item)(m:Nat):List eQ:=(its[m]?.map (·.lk)).getD []
def iF(its:List Item)(m0:Nat)(ms:Ln):List (Int×Str):=ms.flatMap fun m=>(Af its m).map fun u=>((m:Int) - (m0:Int),wy u.1)
def dY(its:List Item)(ms:Ln):List eQ:=ms.flatMap (Af its)
section
variable {ts:Lk}{m n j k0:Nat}{σ:LM}{E:ME}{its:List Item}
theorem bC.two{σ ah:LM}{a b:MO}:bC [j,n] σ ((σ.set n a).set j b):=(bC.set (.tail _ (.head _))).trans (.set (.head _))
theorem Rn(UN:n≠j){m0 k:Nat}{wv iv:V}{L all:Lp}{Q:MQ Out}:∀(us:List eQ) (acc bZ:Lp) (t:ai) (σ:LM),(t=[]∨∃a b,t=[(4,a),(1,b)])→σ[n]?=some (.list acc)→σ[j]?=some (.list bZ)→acc.length+us.length≤1000000→bZ.length+us.length≤1000000→
  (∀t ah,(t=[]∨∃a b,t=[(4,a),(1,b)])→bC [j,n] σ ah→ah[n]?=some (.list (acc++us.map fun u=>lj ((k:Int) - (m0:Int),wy u.1)))→ah[j]?=some (.list (bZ++us.map (e9 ts)))→Q (.next ((17,wv)::(38,iv)::(41,.ref j)::(42,.p (.list (.int (m0:Int)::L)))::(44,.ref n)::(43,.p (.int (k:Int)))::t)) ah)→
  bU all none (.many [4,1]) (iK k0) (us.map (e9 ts)) ((17,wv)::(38,iv)::(41,.ref j)::(42,.p (.list (.int (m0:Int)::L)))::(44,.ref n)::(43,.p (.int (k:Int)))::t) σ Q E:=by
 intro rv;induction rv with
 |nil=>exact fun acc bZ t σ ht hn hj ha hu q=>⟨aA,q t σ ht (.refl ..) (by simpa using hn) (by simpa using hj)⟩
 |cons u us ih=>
  intro acc bZ t σ ht hn hj ha hu q;simp only[length_cons]at ha hu;have h1:=fE (o':=.list (acc++[lj ((k:Int) - (m0:Int),wy u.1)])) hn;have h2:(σ.set n (.list (acc++[lj ((k:Int) - (m0:Int),wy u.1)])))[j]?=some (.list bZ):=(getElem?_set_ne UN).trans hj;have st:iK k0 [(17,wv),(38,iv),(41,.ref j),(42,.p (.list (.int (m0:Int)::L))),(44,.ref n),(43,.p (.int (k:Int))),(4,.p (.str (wy u.1))),(1,.p (.int (yn ts u.2:Nat)))] σ (cB (bU all none (.many [4,1]) (iK k0) (us.map (e9 ts))) Q E) E:=
   ⟨.append _ (aB hn),aW.pp (cE (k:=0) rfl (zero_le _)) (aU.pp sub_int (az.p2 (.append _ _ _ rfl rfl hn (by simp only[bL];grind only)
    ⟨.append _ (aB h2),az.p2 (.append _ _ _ rfl rfl h2 (by simp only[bL];lia)
     (ih (acc++[lj ((k:Int) - (m0:Int),wy u.1)]) (bZ++[e9 ts u]) [(4,_),(1,_)] _ (.inr ⟨_,_,rfl⟩) ((getElem?_set_ne UN.symm).trans h1) (fE h2) (by simp;omega) (by simp;omega) fun t ah ht s' h h'=>q t ah ht (((bC.set (.tail _ (.head _))).trans (.set (.head _)):bC [j,n] σ ((σ.set n (.list (acc++[lj ((k:Int) - (m0:Int),wy u.1)]))).set j (.list (bZ++[e9 ts u])))).trans s') (by simpa using h) (by simpa using h')))⟩)))⟩
  rcases ht with rfl|⟨a,b,rfl⟩<;>exact .mk aA _ rfl st
noncomputable def iZ(l:Ln):Lp:=l.map fun (k:Nat)=>P.int (k:Int)
inductive VV:ai→Prop
 |a:VV []
 |b {v:V}:VV [(43,v)]
 |c {v a b:V}:VV [(43,v),(4,a),(1,b)]
theorem Ol(UN:n≠j)(X8:m≠j)(hmn:m≠n)(Ni:∀it∈its,it.lk.length≤200000){m0:Nat}{wv:V}{L all:Lp}{Q:MQ Out}:∀(ms:Ln) (acc:List (Int×Str)) (us:List eQ) (bZ:Lp) (t:ai) (σ:LM),VV t→σ[m]?=some (.list (dJ ts its))→σ[n]?=some (.list (acc.map lj))→σ[j]?=some (.list (bZ++us.map (e9 ts)))→
  (∀k∈ms,k<its.length)→its.length≤200000→acc.length+(dY its ms).length≤1000000→bZ.length+us.length+(dY its ms).length≤1000000→
  (∀t ah,bC [j,n] σ ah→ah[n]?=some (.list ((acc++iF its m0 ms).map lj))→ah[j]?=some (.list (bZ++(us++dY its ms).map (e9 ts)))→VV t→Q (.next ((17,wv)::(38,.ref m)::(41,.ref j)::(42,.p (.list (.int (m0:Int)::L)))::(44,.ref n)::t)) ah)→
  bU all none (.one 43) (iL k0) (iZ ms) ((17,wv)::(38,.ref m)::(41,.ref j)::(42,.p (.list (.int (m0:Int)::L)))::(44,.ref n)::t) σ Q E:=by
 intro rv;induction rv with
 |nil=>
  exact fun acc us bZ t σ ht hm hn hj hk hl ha hu q=>⟨aA,q t σ (.refl ..) (by simpa [iF]using hn) (by simpa [dY]using hj) ht⟩
 |cons k ms ih=>
  intro acc us bZ t σ ht hm hn hj hk hl ha hu q;have lt:=hk k (.head _);have gt:(dJ ts its)[k]?=some (Jz ts its[k]):=by simp[dJ,lt]
  have lk:Af its k=its[k].lk:=by simp[Af,lt]
  have e1:dY its (k::ms)=its[k].lk++dY its ms:=congrArg (· ++_) lk;have e2:iF its m0 (k::ms)=its[k].lk.map (fun u=>((k:Int) - (m0:Int),wy u.1))++iF its m0 ms:=congrArg (fun l:List eQ=>l.map (fun u=>((k:Int) - (m0:Int),wy u.1))++_) lk;rw[e1,length_append]at ha hu;have fw:=Ni _ (List.getElem_mem lt);have st:∀t,(t=[]∨∃a b,t=[(4,a),(1,b)])→iL k0 ((17,wv)::(38,.ref m)::(41,.ref j)::(42,.p (.list (.int (m0:Int)::L)))::(44,.ref n)::(43,.p (.int (k:Int)))::t) σ (cB (bU all none (.one 43) (iL k0) (iZ ms)) Q E) E:=fun t ht=>
   aW.mk _ _ _ (aB hm) rfl (cE gt (by lia)) (aW.pp (aO (k:=2) rfl (by decide)) (.mk _ (.list _) (by simp only[length_map,bL];exact le_trans (by assumption) (bl rfl)) ⟨Rn UN its[k].lk (acc.map lj) (bZ++us.map (e9 ts)) t σ ht hn hj (by simp;omega) (by simp;omega) fun t' ah ht' s h h'=>by
    exact(ih (acc++its[k].lk.map fun u=>((k:Int) - (m0:Int),wy u.1)) (us++its[k].lk) bZ ((43,.p (.int (k:Int)))::t') ah (by rcases ht' with rfl|⟨a,b,rfl⟩;exact .b;exact .c) (s.get hm (by simp[X8,hmn])) (by refine ER map_append (ER map_map ?_);exact h) (by simpa using h') (fun x hx=>hk x (.tail _ hx)) hl (by simp;omega) (by simp;omega) fun t bj s' h1 h2=>q t bj (s.trans s') (by refine ER e2 ?_;simpa using h1) (by refine ER e1 ?_;simpa using h2))⟩))
  induction ht with
  |a=>exact .mk aA _ rfl (st [] (.inl rfl))
  |b=>exact .mk aA _ rfl (st [] (.inl rfl))
  |c=>exact .mk aA _ rfl (st _ (.inr ⟨_,_,rfl⟩))
end
noncomputable def bq:Nat→List Item→Ln
 |_,[]=>[]
 |k,it::l=>if it.on=true then k::bq (k+1) l else bq (k+1) l
def marks(its:List Item):Ln:=bq 0 its
def Om(l:List Item):Lp:=l.map fun it=>.tup (aq it.gl)
def n5(its:List Item):Nat:=(marks its).headD 0
def DH(its:List Item):Nat:=(marks its).getLastD 0
def iG(word:Str)(its:List Item):P:=
 .tup [.str word,.tup ((Om its).take (n5 its)),.tup (((Om its).drop (n5 its)).take (DH its+1 - n5 its)),.tup ((Om its).drop (DH its+1)),.tup ((iF its (n5 its) (marks its)).map lj)]
noncomputable def UO:P→P
 | .tup (x::_)=>x
 |_=>.none
noncomputable def Oo(its:List Item):P→Bool
 | .int k=>(its[k.toNat]?.map (·.on)).getD false
 |_=>false
section
variable {ts:Lk}{m n j:Nat}{σ:LM}{E:ME}{its:List Item}
theorem Oq:∀(l:List Item) (k:Nat),∀m∈bq k l,m<k+l.length:=by
 intro rv;induction rv with
 |nil=>exact fun o m h=>(not_mem_nil h).elim
 |cons it l ih=>
  intro k m h;have key:m=k∨m∈bq (k+1) l:=by
   have h:m∈(if it.on then k::bq (k+1) l else bq (k+1) l):=h;split at h
   ·exact mem_cons.mp h
   ·exact .inr h
  rcases key with rfl|h
  ·simp
  ·have:=ih (k+1) m h;simp;grind only
theorem DI{its:List Item}:∀(bX pre:List Item),its=pre++bX→(gj (pre.length:Int) bX.length).filter (Oo its)=iZ (bq pre.length bX):=by
 intro rv;induction rv with
 |nil=>
  exact fun pre _=>rfl
 |cons it bX ih=>
  intro pre h;have ih:=ih (pre++[it]) (by refine ER h ?_;simp);have hn:(pre++[it]).length=pre.length+1:=length_append ..;rw[hn,show((pre.length+1:Nat):Int)=(pre.length:Int)+1 from rfl]at ih;have ho:Oo its (.int (pre.length:Int))=it.on:=by
   show(its[((pre.length:Nat):Int).toNat]?.map (·.on)).getD false=_;refine ER (toNat_natCast ..) (ER (h ..) ?_);simp
  simp only[length_cons,gj,filter_cons,ho,bq];split
  ·exact congrArg (_:: ·) ih
  ·exact ih
theorem Ro:∀(n:Nat) (a:Int) {x:P},x∈gj a n→∃k,k<n∧x= .int (a+(k:Int)):=by
 intro rv;induction rv with
 |zero=>exact fun o o h=>(not_mem_nil h).elim
 |succ n ih=>
  intro a x h;rcases mem_cons.mp h with rfl|h
  ·exact⟨0,succ_pos _,by simp⟩
  ·obtain⟨k,hk,rfl⟩:=ih (a+1) h;exact⟨k+1,Nat.succ_lt_succ hk,by congr 1;lia⟩
theorem Rp:∀(n:Nat) (a:Int),(gj a n).length=n:=by
 intro rv;induction rv with
 |zero=>exact fun o=>rfl
 |succ n ih=>exact fun a=>congrArg Nat.succ (ih _)
theorem Ad.marked{k0:Nat}{K:MQ (Lp)}(h:Ad ts σ m its)(q:K (iZ (marks its)) σ):BY k0 ⟨gj 0 ((dJ ts its).length:Int).toNat,none⟩ (.one 43) (au (aL (aL (aa 38) (aa 43)) (cP (.int 1)))) (aa 43) [(38,.ref m)] σ K E:=by
 have cS:=h.cS
 have e:((dJ ts its).length:Int).toNat=its.length:=by simp[dJ]
 refine ER e ?_;refine⟨comp_map (g:=Oo its) (f:=id) (base:=[(38,.ref m)]) (fun U U=>rfl) (fun U=>rfl) aA _ [] [] (.inl rfl) (by simp only[Rp,length_nil,bL];lia) (fun x hx K q=>?_) (fun x hx U K q=>q) ?_⟩
 ·obtain⟨k,hk,rfl⟩:=Ro _ _ hx;rw[Int.zero_add]at q ⊢;refine aW.mk _ _ _ (aB h.get) rfl (cE ((by simp[dJ,hk]):(dJ ts its)[k]?=some (Jz ts its[k])) (by lia)) (aW.pp Of ?_);have:Oo its (.int (k:Int))=its[k].on:=by
   show(its[((k:Nat):Int).toNat]?.map (·.on)).getD false=_;refine ER (toNat_natCast ..) ?_;simp[hk]
  rw[this]at q;exact q
 ·have:=DI its [] rfl;refine ER (map_id ..) (ER (nil_append ..) ?_);exact(show(gj 0 its.length).filter (Oo its)=iZ (marks its) from this)▸q
theorem Ad.UP{k0:Nat}{K:MQ (Lp)}(h:Ad ts σ m its)(q:K (Om its) σ):Nj σ (.ref m) (fun src σ=>BY k0 src (.one 45) bV (aL (aa 45) (cP (.int 0))) [] σ K E):=by
 refine .mk _ (.ref h.get) h.lim ⟨comp_map (g:=fun U=>true) (f:=UO) (base:=[]) (fun U U=>rfl) (fun U=>rfl) h.watch _ [] [] (.inl rfl) (by simpa using h.lim) (fun U U U q=>q) (fun x hx U K q=>?_) ?_⟩
 ·obtain⟨a,b,c,rfl⟩:=h.at_ hx;exact aW.pp (aO (k:=0) rfl (zero_le _)) q
 ·have e:([]++((dJ ts its).filter fun U=>true).map UO)=Om its:=(congrArg (List.map UO) (filter_eq_self.mpr fun U U=>rfl)).trans (by unfold dJ Om;refine ER map_map ?_;rfl);refine ER e ?_;exact q
end
section
variable {ts:Lk}{m n j:Nat}{σ:LM}{E:ME}{its:List Item}
theorem Ot:∀(l:List Item) (k:Nat),l.any (·.on)=true→bq k l≠[]:=by
 intro rv;induction rv with
 |nil=>intros;contradiction
 |cons it l ih=>
  intro k h;unfold bq;refine iT (fun _=>?_) fun _=>?_
  ·exact cons_ne_nil _ _
  ·rename_i e;exact ih (k+1) (by simpa [e]using h)
theorem Lb:∀(l:List Item) (k:Nat),(bq k l).length≤l.length:=by
 intro rv;induction rv with
 |nil=>exact fun o=>le_refl _
 |cons it l ih=>
  intro k;have:=ih (k+1);unfold bq;refine iT (fun _=>?_) fun _=>?_
  ·exact succ_le_succ this
  ·exact Nat.le_succ_of_le this
theorem Ld{a:Nat}{ms:Ln}:b8 (.list (iZ (a::ms))) (-1) (.int (((a::ms).getLastD 0:Nat):Int)):=by
 have e:iZ (a::ms)=iZ ((a::ms).dropLast)++[.int (((a::ms).getLastD 0:Nat):Int)]:=by
  have h2:(a::ms).getLastD 0=(a::ms).getLast (cons_ne_nil a ms):=ER (List.getLastD_cons ..) (ER (List.getLast_eq_getLastD ..) rfl);refine ER h2 ?_
  conv=>lhs;rw[←(List.dropLast_concat_getLast (cons_ne_nil a ms))]
  simp[iZ]
 refine ER e ?_;exact Gd
theorem UQ{word:Str}{bZ:Lp}{Q:MQ V}(w:Ad ts σ m its)(X8:m≠j)(hj:σ[j]?=some (.list bZ))(hon:its.any (·.on)=true)(Ni:∀it∈its,it.lk.length≤200000)(hu:(dY its (marks its)).length≤400000)(ZN:bZ.length≤400000)
  (q:∀ah,bC [j] σ ah→ah[j]?=some (.list (bZ++(dY its (marks its)).map (e9 ts)))→Q (.p (Aa ("chain",iG word its))) ah):Run pO [.p (.str word),.ref m,.ref j] σ Q E:=by
 obtain⟨a,ms,hms⟩:=List.exists_cons_of_ne_nil (Ot its 0 hon);have hms:marks its=a::ms:=hms;have cS:=w.cS;have ml:(marks its).length≤its.length:=Lb its 0;have ltm:=(List.getElem?_eq_some_iff.mp w.get).1;have ltj:=(List.getElem?_eq_some_iff.mp hj).1;have gl:(Om its).length≤bL:=by simp only[Om,length_map,bL];exact le_trans (by assumption) (bl rfl)
 have al:((iF its (n5 its) (marks its)).map lj).length≤bL:=by refine ER (length_map ..) (ER (((by simp[iF,dY,List.length_flatMap]):(iF its (n5 its) (marks its)).length=(dY its (marks its)).length) ..) ?_);simp only[bL];lia
 have m0e:n5 its=a:=by unfold n5;refine ER hms ?_;rfl
 have part:∀{t ah},VV t→bC [j,σ.length] (σ++[.list []]) ah→ah[σ.length]?=some (.list ((iF its (n5 its) (marks its)).map lj))→ah[j]?=some (.list (bZ++(dY its (marks its)).map (e9 ts)))→
   mq σ.length ((17,.p (.str word))::(38,.ref m)::(41,.ref j)::(42,.p (.list (.int ((n5 its:Nat):Int)::iZ ms)))::(44,.ref σ.length)::t) ah (fun o ah=>cz σ.length ah o Q) (back σ.length E):=fun {t ah} ht s h1 h2=>by
  have w':Ad ts ah m its:=⟨s.get (by rw[getElem?_append_left ltm];exact w.get) (by simp[X8];grind only),w.full,w.ne,w.cS⟩;have ext:Ext [j] σ ah:=(Ext.push (.refl _ _)).Tf s (by simp);have sm:bC [j] σ (ah.take σ.length):=ext.take;have fin:=q _ sm (by rw[getElem?_take,if_pos ltj];exact h2);have i0:b8 (.list (.int ((n5 its:Nat):Int)::iZ ms)) 0 (.int ((n5 its:Nat):Int)):=cE (k:=0) rfl (zero_le _);have i1:b8 (.list (.int ((n5 its:Nat):Int)::iZ ms)) (-1) (.int ((DH its:Nat):Int)):=by refine ER m0e (ER ((by unfold DH;exact ER hms rfl):DH its=(a::ms).getLastD 0) ?_);exact Ld
  have tl:∀l:Lp,l.length≤(Om its).length→nQ .tuple (.list l) (.tup l):=fun l h=>tuple_list (le_trans h gl);have end_:cz σ.length ah (.ret (.p (Aa ("chain",iG word its)))) Q:=Gb fin;induction ht<;>exact w'.UP (aW.pp i0 (jK.mk _ _ _ _ rfl rfl rfl (nZ gl) (dC.pp (tl _ (by refine ER length_take ?_;omega)) (aW.pp i0 (aW.pp i1 (aU.pp add_int (jK.mk _ _ _ _ rfl rfl rfl (Gg (b:=DH its+1) gl)
   (dC.pp (tl _ (by refine ER length_take (ER length_drop ?_);omega)) (aW.pp i1 (aU.pp add_int (jK.mk _ _ _ _ rfl rfl rfl (qY (m:=DH its+1) gl) (dC.pp (tl _ (by refine ER length_drop ?_;simp+arith [*])) (dC.mk _ _ (aB h1) (tuple_list al)
    (az.p5 (qo ext.1 fin)))))))))))))))
 have h0:(σ++[MO.list []])[m]?=some (.list (dJ ts its)):=by rw[getElem?_append_left ltm];exact w.get
 have hj0:(σ++[MO.list []])[j]?=some (.list (bZ++([]:List eQ).map (e9 ts))):=by rw[getElem?_append_left ltj];simpa using hj
 have nz:iZ (marks its)= .int ((n5 its:Nat):Int)::iZ ms:=by refine ER hms (ER m0e ?_);rfl
 have aus:(iF its (n5 its) (marks its)).length=(dY its (marks its)).length:=by simp[iF,dY,List.length_flatMap]
 refine⟨dC.mk _ _ (aB w.get) (len_list w.lim) (Hr.mk _ rfl (by simp only[dJ,length_map];exact cg (by lia)) (by simp only[dJ,length_map,bL];exact le_trans (by assumption) (bl rfl)) (w.marked (az.p0 ?_)))⟩;refine .mk _ (.list _) (by simp only[iZ,length_map,bL];lia) ⟨?_⟩;refine ER nz ?_;have lp:=Ol (k0:=σ.length) (wv:=.p (.str word)) (L:=iZ ms) (all:=.int ((n5 its:Nat):Int)::iZ ms) (m0:=n5 its) (E:=back σ.length E) (Q:=cB (mq σ.length) (fun o ah=>cz σ.length ah o Q) (back σ.length E)) (ne_of_gt ltj) X8 (ne_of_lt ltm) Ni (marks its) [] [] bZ [] (σ++[.list []]) .a h0 ba hj0 (fun k hk=>by have:=Oq its 0 k hk;omega) cS (by simp;lia) (by simp;lia) fun t ah s h1 h2 ht=>part ht s (by simpa using h1) (by simpa using h2);rw[nz]at lp;exact lp
end
section
variable {ts r:Lk}
theorem Ig{N:Nat}:∀{acc l:List eQ} {r r':Lk},jq N acc r= .ok l r'→l.length+r'.length≤acc.length+r.length:=by
 induction N with
 |zero=>intro acc l r r' h;contradiction
 |succ N ih=>
  intro acc l r r' h;have h:(if jC (.kw .lookup) r then(qm r.tail).bind fun U r'=>jq N (acc++[(jo r.tail,r.tail.length)]) r' else .ok acc r)= .ok l r':=h;split at h
  ·obtain⟨w,r2,h1,h2⟩:=aV h;have a:=ih h2;have b:=nf h1;have c:=dI r;rw[length_append,length_singleton]at a;grind only
  ·cases h;exact le_refl _
theorem UR{N:Nat}{l:Ls}{r':Lk}(h:qn r= .ok l r'):l≠[]:=by
 obtain⟨l',r2,h1,h2⟩:=aV h;split at h2
 ·contradiction
 ·rename_i e;injection h2 with h2;subst h2;rintro rfl;exact e rfl
theorem Xk{g:Ls}{r':Lk}(h:Qd r= .ok g r'):g≠[]∧r'.length<r.length:=by
 unfold Qd at h;split at h
 ·rename_i e;refine⟨UR (N:=0) h,?_⟩;obtain⟨l,r3,h3,h4⟩:=aV h;split at h4<;>cases h4;exact Nat.lt_of_le_of_lt (z9 h3) (DF e)
 ·obtain⟨g',r3,h3,h4⟩:=aV h;cases h4;exact⟨cons_ne_nil _ _,dN h3⟩
theorem JC{it:Item}{r':Lk}(h:jD r= .ok it r'):it.gl≠[]∧1+it.lk.length+r'.length≤r.length:=by
 obtain⟨g,r2,h1,h2⟩:=aV h;obtain⟨a,b⟩:=Xk h1;unfold sH at h2;split at h2
 ·obtain⟨l,r3,h3,h4⟩:=aV h2;injection h4 with h4;subst h4;have c:=Ig h3;have d:=dI r2;rw[length_nil]at c;exact⟨a,show 1+l.length+_≤_ by lia⟩
 ·cases h2;exact⟨a,show 1+0+_≤_ by omega⟩
noncomputable def yo(l:List Item):Nat:=(l.map fun it=>1+it.lk.length).sum
theorem Ou{l:List Item}{a:Item}:yo (l++[a])=yo l+(1+a.lk.length):=by simp[yo]
theorem Xl{N:Nat}:∀{pre:List Item} {a:Item} {over:Bool} {l:List Item} {r r':Lk},fF N pre a over r= .ok l r'→(∀it∈pre++[a],it.gl≠[])→l≠[]∧(∀it∈l,it.gl≠[])∧yo l+r'.length≤yo (pre++[a])+r.length:=by
 induction N with
 |zero=>intro pre a over l r r' h;contradiction
 |succ N ih=>
  intro pre a over l r r' h hp;have h:(if starts r then(jD r).bind fun it r'=>if (over || (a.on&&!it.on))&&it.on then .err r else fF N (pre++[a]) it (over || (a.on&&!it.on)) r' else .ok (pre++[a]) r)=_:=h;split at h
  ·obtain⟨it,r2,h1,h2⟩:=aV h;obtain⟨b,c⟩:=JC h1;split at h2
   ·contradiction
   ·obtain⟨x,y,z⟩:=ih h2 fun it' hi=>by
     rcases mem_append.mp hi with hi|hi
     ·exact hp _ hi
     ·rw[mem_singleton.mp hi];exact b
    rw[Ou]at z;exact⟨x,y,by grind only⟩
  ·cases h;exact⟨by simp,hp,le_refl _⟩
theorem Gj{l:List Item}{r':Lk}(h:gc r= .ok l r'):l≠[]∧(∀it∈l,it.gl≠[])∧yo l+r'.length≤r.length:=by
 obtain⟨it,r2,h1,h2⟩:=aV h;obtain⟨b,c⟩:=JC h1;obtain⟨x,y,z⟩:=Xl h2 fun it' hi=>by rw[mem_singleton.mp hi];exact b
 have:yo ([]++[it])=1+it.lk.length:=by simp[yo]
 exact⟨x,y,by grind only⟩
theorem Rq(l:List Item):l.length≤yo l:=by
 induction l with
 |nil=>exact le_refl _
 |cons a l ih=>simp only[yo,map_cons,sum_cons,length_cons]at ih ⊢;omega
theorem Rt{l:List Item}{it:Item}(h:it∈l):it.lk.length≤yo l:=by
 induction l with
 |nil=>cases h
 |cons a l ih=>
  simp only[yo,map_cons,sum_cons]at ih ⊢;rcases mem_cons.mp h with rfl|h
  ·lia
  ·have:=ih h;omega
theorem Gk{its:List Item}:∀(bX pre:List Item),its=pre++bX→(dY its (bq pre.length bX)).length≤yo bX:=by
 intro rv;induction rv with
 |nil=>
  exact fun pre _=>le_refl _
 |cons it bX ih=>
  intro pre h;have ih:=ih (pre++[it]) (by refine ER h ?_;simp);have hn:(pre++[it]).length=pre.length+1:=length_append ..;rw[hn]at ih;simp only[yo,map_cons,sum_cons]at ih ⊢;unfold bq;refine iT (fun _=>?_) fun _=>?_
  ·have:dY its (pre.length::bq (pre.length+1) bX)=it.lk++dY its (bq (pre.length+1) bX):=congrArg (· ++_) ((by simp[Af,h]):Af its pre.length=it.lk);refine ER this (ER length_append ?_);omega
  ·omega
end
def rowOf(word:Str)(its:List Item)(r0 r1:Lk):PR ((Str×P)×List eQ):=
 if its.any (·.on)then .ok (("chain",iG word its),dY its (marks its)) r1
 else(g6 r1 (r0.length - r1.length) r0).bind fun U r=>(if decide (word= "sub")then tM its r else wC its r).bind fun x r=>.ok (x,[]) r
def lu(r:Lk):PR ((Str×P)×List eQ):=(gc r.tail).bind fun its r1=>(rowOf (jo r) its r.tail r1).bind fun x r2=>(bO (.sg .semi) r2).bind fun U r3=>.ok x r3
section
variable {ts r:Lk}{i j n:Nat}{σ aj:LM}{S:Ln}{E:ME}
theorem xU{r1 r':Lk}{u:Unit}:∀{n:Nat} {r0:Lk},g6 r1 n r0= .ok u r'→r'=r1:=by
 intro rv;induction rv with
 |zero=>exact fun {U} h=>by cases h;rfl
 |succ n ih=>
  intro r0 h;have h:(if jC (.sg .lb) r0 then .err r0 else g6 r1 n r0.tail)=_:=h;split at h
  ·contradiction
  ·exact ih h
theorem Zl{bZ:Lp}{Q:MQ V}(h:At ts σ i r)(hr:r≠[])(hj:σ[j]?=some (.list bZ))(Le:j≠i)(hu:bZ.length≤400000)
  (z:cO ts i [i,j] σ (lu r) (fun x U ah=>ah[j]?=some (.list (bZ++x.2.map (e9 ts)))→Q (.p (Aa x.1)) ah) E):Run tq [.ref i,.ref j] σ Q E:=by
 have ltj:=(List.getElem?_eq_some_iff.mp hj).1
 have w0:ik ts i [i,j] σ σ r:=⟨h,.refl ..,.head _,h.lt⟩;unfold lu at z;refine⟨h.bJ rfl rfl (zZ h hr fun fU s1 a1=>bR.mk _ _ _ (bH a1.get) rfl (UL a1 (cO.go (w0.step s1 a1) z fun its r1 σ2 ei s2 w2 z=>?_)))⟩;obtain⟨ne,full,tt⟩:=Gj ei;have room:=a1.room;have len:fU.length=σ.length:=s1.1;have gw:σ2.length=fU.length:=s2.1;have wi:Ad ts (σ2++[.list (dJ ts its)]) fU.length its:=⟨gw▸ba,full,ne,by have:=Rq its;grind only⟩;have hj2:σ2[j]?=some (.list bZ):=s2.get (s1.get hj (by simpa using Le)) (by simpa using Le);have hj3:(σ2++[.list (dJ ts its)])[j]?=some (.list bZ):=by rw[getElem?_append_left (by simp+arith [*])];exact hj2
 have w3:ik ts i [i,j] σ (σ2++[.list (dJ ts its)]) r1:=w2.push;have last:∀(x:(Str×P)×List eQ) {r2:Lk} {ah:LM},ik ts i [i,j] σ ah r2→ah[j]?=some (.list (bZ++x.2.map (e9 ts)))→cO ts i [i,j] σ ((bO (.sg .semi) r2).bind fun U r3=>.ok x r3) (fun x U ah=>ah[j]?=some (.list (bZ++x.2.map (e9 ts)))→Q (.p (Aa x.1)) ah) E→
   u0 σ.length [(36,.ref i),(41,.ref j),(17,.p (.str (jo r))),(49,.p (.int ((ts.length - r.tail.length:Nat):Int))),(38,.ref fU.length),(27,.p (Aa x.1))] ah (fun o ah=>cz σ.length ah o Q) (back σ.length E):=fun x {r2 ah} w hx z=>
  w.at_.bJ rfl rfl (u6 (c:=.sg .semi) w.at_ rfl rfl (cO.go w z fun U r3 σ4 U s w4 z=>Gb (z.done w4 (by rw[getElem?_take,if_pos ltj];exact s.get hx (by simpa using Le)))))
 refine Ic wi (aT.mk (fun e=>?_) fun e=>?_)
 ·have z:=(show cO ts i [i,j] σ ((rowOf (jo r) its r.tail r1).bind _) _ E from z);unfold rowOf at z;have zc:=z.bt e;exact UQ wi (by omega) hj3 e (fun it hi=>by have:=Rt hi;grind only) (by have:=Gk (its:=its) its [] rfl;exact le_trans this (by lia)) hu fun ah s h'=>last (("chain",iG (jo r) its),dY its (marks its)) ⟨w3.at_.same s (by simpa using Le.symm),w3.ext.same (s.mono (by simp)),w3.mem,w3.lt⟩ h' zc
 ·have z:=(show cO ts i [i,j] σ ((rowOf (jo r) its r.tail r1).bind _) _ E from z);unfold rowOf at z;refine Rl w3.at_ a1.bX (List.suffix_of_suffix_length_le w2.at_.bX a1.bX (by grind only):r1<:+r.tail) (cO.go w3 (z.bf e).bb fun u r' σ4 eu s w4 zn=>?_);have er:=xU eu;cases er;have wi':Ad ts σ4 fU.length its:=⟨s.get wi.get (by simpa using ne_of_gt (len▸h.lt)),full,ne,wi.cS⟩;have hj4:σ4[j]?=some (.list bZ):=s.get hj3 (by simpa using Le);have zn:=zn.bb;exact aF.pp (b7 _ _) (aT.mk (fun e'=>Zk w4.at_ wi' (cO.go w4 (zn.bt e') fun x r2 EN U s5 w5 z=>last (x,[]) w5 (by simpa using s5.get hj4 (by simpa using Le)) z))
   fun e'=>Zj w4.at_ wi' (by have:=s.1;simp at this;simp+arith [*]) (ne_of_gt (len▸h.lt)) (cO.go w4 (zn.bf e') fun x r2 EN U s5 w5 z=>last (x,[]) w5 (by simpa using s5.get hj4 (by simpa using Le)) z))
end
noncomputable def jE:Nat→List eQ→Lk→PR (List eQ)
 |0,_,r=>.err r
 |N+1,us,r=>if EM r then jE N (us++[(jo r,r.length)]) r.tail else .ok us r
def Mu(c:Tk)(d:Str)(r:Lk):PR Str:=if jC c r then Dz r.tail else .ok d r
section
variable {ts r:Lk}{i j n:Nat}{σ aj:LM}{S:Ln}{E:ME}
theorem ik.Dv{o:MO}(w:ik ts i S aj σ r)(h:j∈S)(hj:j≠i):ik ts i S aj (σ.set j o) r:=⟨w.at_.Xf hj,w.ext.Dv h,w.mem,w.lt⟩
theorem Lg{β:Type}{k:List eQ→Lk→PR β}{Qf:β→Lk→LM→Prop}{k0:Nat}{bZ:Lp}{g1 g2 g3:V}(hn:aj.length≤n)(hjS:j∈S)(Xm:j≠i)(UN:n≠j)(Zm:n≠i){Q:MQ Out}:∀(N:Nat) (r:Lk) (us:List eQ) (σ:LM),ik ts i S aj σ r→σ[n]?=some (.list (aq (us.map (·.1))))→σ[j]?=some (.list (bZ++us.map (e9 ts)))→us.length+N≤200000→bZ.length≤400000→r.length<N→
  cO ts i S aj ((jE N us r).bind k) Qf E→(∀l r' ah,ik ts i S aj ah r'→ah[n]?=some (.list (aq (l.map (·.1))))→ah[j]?=some (.list (bZ++l.map (e9 ts)))→l.length≤200000→cO ts i S aj (k l r') Qf E→Q (.next [(36,.ref i),(41,.ref j),(9,g1),(10,g2),(11,g3),(2,.ref n)]) ah)→
  fk N (mV k0) (mW k0) [(36,.ref i),(41,.ref j),(9,g1),(10,g2),(11,g3),(2,.ref n)] σ Q (back aj.length E):=by
 intro rv;induction rv with
 |zero=>exact fun r us σ w hl hj hN hu lt z q=>absurd lt (not_lt_zero _)
 |succ N ih=>
  intro r us σ w hl hj hN hu lt z q;refine w.at_.bJ rfl rfl (kM w.at_ (qW w.at_ (aT.mk (fun e=>?_) fun e=>q us r σ w hl hj (by grind only) (z.bf e))));have w2:ik ts i S aj (σ.set j (.list (bZ++us.map (e9 ts)++[jn (jo r) (off ts r)]))) r:=w.Dv hjS Xm;have hl2:(σ.set j (.list (bZ++us.map (e9 ts)++[jn (jo r) (off ts r)])))[n]?=some (.list (aq (us.map (·.1)))):=(getElem?_set_ne UN.symm).trans hl;have ne:=z7 e;have lt2:r.tail.length<N:=by cases r with
   |nil=>exact absurd rfl ne
   |cons t r=>exact lt_of_succ_lt_succ lt
  refine⟨.append _ (aB hj),bR.mk _ _ _ (bH w.at_.get) rfl (bR.mk _ _ _ (bH w.at_.get) rfl (aW.pp w.at_.item (.append _ _ _ rfl rfl hj (by simp only[length_append,length_map,bL];lia)
   ⟨.append _ (aB hl2),w2.at_.bJ rfl rfl (zZ w2.at_ ne fun ah s a=>?_)⟩)))⟩
  have hl3:=s.get hl2 (by simpa using Zm)
  have hj3:=s.get (fE (o':=.list (bZ++us.map (e9 ts)++[jn (jo r) (off ts r)])) hj) (by simpa using Xm)
  exact .append _ _ _ rfl rfl hl3 (by simp only[aq,length_map,bL];grind only) (ih r.tail (us++[(jo r,r.length)]) _ ((w2.step s a).set hn) (by refine ER (fE hl3) ?_;simp[aq]) (by rw[getElem?_set_ne UN,hj3,←w.at_.use,map_append,append_assoc];rfl) (by simp;omega) hu lt2 (z.bt e) q)
end
structure FR where
 tag:Str
 bk:Str
 aC:Str
 uses:List eQ
def US(f:FR):P:=.inst 201 [(9,.str f.tag),(10,.str f.bk),(11,.str f.aC),(2,.tup (aq (f.uses.map (·.1))))]
def ng(r:Lk):PR FR:=(Dz r).bind fun tag r=>(Mu (.kw .bk) "DFLT" r).bind fun sc r=>(Mu (.kw .aC) "dflt" r).bind fun la r=>(bO (.sg .lc) r).bind fun U r=>(jE (r.length+1) [] r).bind fun us r=>if us.isEmpty then .err r else(bO (.sg .rc) r).bind fun U r=>.ok ⟨tag,sc,la,us⟩ r
section
variable {ts r:Lk}{i j n k:Nat}{σ aj:LM}{E:ME}{Q:MQ V}
theorem cO.Zn{α β:Type}{S:Ln}{Qf:β→Lk→LM→Prop}{c:Bool}{a:PR α}{d:α}{f:α→Lk→PR β}(h:c=false)(z:cO ts i S aj ((if c then a else .ok d r).bind f) Qf E):cO ts i S aj (f d r) Qf E:=z.bf h
theorem Rv{a b c:Str}{l:P}(h:k≤σ.length)(q:Q (.p (.inst 201 [(9,.str a),(10,.str b),(11,.str c),(2,l)])) (σ.take k)):Run gS [.ref σ.length,.p (.str a),.p (.str b),.p (.str c),.p l] (σ++[.inst 201 []]) (fun v ah=>v= .p .none∧cz k ah (.ret (.ref σ.length)) Q) E:=by
 refine⟨jZ.mk _ _ _ rfl ba rfl (jZ.mk _ _ _ rfl (by refine ER set_push ?_;exact ba) rfl (jZ.mk _ _ _ rfl (by refine ER set_push (ER set_push ?_);exact ba) rfl (jZ.mk _ _ _ rfl (by refine ER set_push (ER set_push (ER set_push ?_));exact ba) rfl (tL ⟨rfl,?_⟩))))⟩;refine ER set_push (ER set_push (ER set_push (ER set_push (ER (take_of_length_le (by simp)) ?_))));exact⟨_,_,.P7 (.inst ba h (.cons (.p _) (.cons (.p _) (.cons (.p _) (.cons (.p _) .nil))))),by refine ER set_push (ER (wA h) ?_);exact q⟩
theorem Ov{bZ:Lp}(h:At ts σ i r)(hj:σ[j]?=some (.list bZ))(Le:j≠i)(hu:bZ.length≤400000)
  (z:cO ts i [i,j] σ (ng r) (fun x U ah=>ah[j]?=some (.list (bZ++x.uses.map (e9 ts)))→Q (.p (US x)) ah) E):Run kr [.ref i,.ref j] σ Q E:=by
 have ltj:=(List.getElem?_eq_some_iff.mp hj).1
 have nj:j∉[i]:=by simpa using Le
 unfold ng at z;have tail:∀{tag sc la:Str} {r' ah},ik ts i [i,j] σ ah r'→ah[j]?=some (.list bZ)→cO ts i [i,j] σ ((bO (.sg .lc) r').bind fun U r=>(jE (r.length+1) [] r).bind fun us r=>if us.isEmpty then .err r else(bO (.sg .rc) r).bind fun U r=>.ok ⟨tag,sc,la,us⟩ r) (fun x U ah=>ah[j]?=some (.list (bZ++x.uses.map (e9 ts)))→Q (.p (US x)) ah) E→
   mX σ.length [(36,.ref i),(41,.ref j),(9,.p (.str tag)),(10,.p (.str sc)),(11,.p (.str la))] ah (fun o ah=>cz σ.length ah o Q) (back σ.length E):=fun {tag sc la r' ah} w hj z=>by
  refine w.at_.bJ rfl rfl (u6 (c:=.sg .lc) w.at_ rfl rfl (cO.go w z fun U r2 σ2 U s w2 z=>az.p0 ⟨_,Lg (bZ:=bZ) w2.ext.1 (.tail _ (.head _)) Le (ne_of_gt (lt_of_lt_of_le ltj w2.ext.1)) (ne_of_gt (lt_of_lt_of_le w2.lt w2.ext.1)) _ r2 [] _ w2.push ba (by rw[getElem?_append_left (lt_of_lt_of_le ltj w2.ext.1)];simpa using s.get hj nj) (by have:=w2.at_.room;simp;lia) hu (lt_succ_self _) z fun l r3 σ3 w3 hl hj3 lim z=>?_⟩));cases l with
  |nil=>exact az.p0 (aF.mk _ _ _ (aB hl) rfl (ip rfl rfl (bl rfl)) (aT.mk (fun U=>w3.at_.bJ rfl rfl (w3.fault z)) fun x=>Bool.noConfusion x))
  |cons u l=>exact az.p0 (aF.mk _ _ _ (aB hl) rfl yX (aT.mk (fun x=>Bool.noConfusion x) fun U=>w3.at_.bJ rfl rfl (u6 (c:=.sg .rc) w3.at_ rfl rfl (cO.go w3 z fun U r4 σ4 U s4 w4 z=>
    dC.mk _ _ (aB (s4.get hl (by simpa using ne_of_gt (lt_of_lt_of_le w2.lt w2.ext.1)))) (tuple_list (by simp only[aq,length_map,bL];lia)) (Rv w4.ext.1 (z.done w4 (by rw[getElem?_take,if_pos ltj];exact s4.get hj3 nj)))))))
 have mid:∀{tag sc:Str} {r' ah},ik ts i [i,j] σ ah r'→ah[j]?=some (.list bZ)→cO ts i [i,j] σ ((Mu (.kw .aC) "dflt" r').bind fun la r=>(bO (.sg .lc) r).bind fun U r=>(jE (r.length+1) [] r).bind fun us r=>if us.isEmpty then .err r else(bO (.sg .rc) r).bind fun U r=>.ok ⟨tag,sc,la,us⟩ r) (fun x U ah=>ah[j]?=some (.list (bZ++x.uses.map (e9 ts)))→Q (.p (US x)) ah) E→
   mY σ.length [(36,.ref i),(41,.ref j),(9,.p (.str tag)),(10,.p (.str sc))] ah (fun o ah=>cz σ.length ah o Q) (back σ.length E):=fun {tag sc r' ah} w hj z=>by
  unfold Mu at z;exact w.at_.bJ rfl rfl (oN (c:=.kw .aC) w.at_ rfl (fun e σ2 s a=>aT.mk (fun U=>a.bJ rfl rfl (UK a (cO.go (w.step s a) (z.bt e) fun la r2 σ3 U s' w' z=>tail w' (s'.get (s.get hj nj) nj) z))) fun x=>Bool.noConfusion x) fun e=>aT.mk (fun x=>nomatch x) fun U=>tail w hj (z.Zn e))
 refine⟨h.bJ rfl rfl (UK h (cO.go (⟨h,.refl ..,.head _,h.lt⟩:ik ts i [i,j] σ σ r) z fun tag r1 fU U s1 w1 z=>?_))⟩;have hj1:=s1.get hj nj;unfold Mu at z;exact w1.at_.bJ rfl rfl (oN (c:=.kw .bk) w1.at_ rfl (fun e σ2 s a=>aT.mk (fun U=>a.bJ rfl rfl (UK a (cO.go (w1.step s a) (z.bt e) fun la r2 σ3 U s' w' z=>mid w' (s'.get (s.get hj1 nj) nj) z))) fun x=>Bool.noConfusion x) fun e=>aT.mk (fun x=>nomatch x) fun U=>mid w1 hj1 (z.Zn e))
end
inductive g9:Str×P→Prop
 |chain {w:Str} {l:Lp} (hl:l.length≤900):g9 ("chain",.tup (.str w::l))
 |plain {k:Str} {a:P} {l:Lp} (hk:k≠ "chain") (hl:l.length≤900) (hf:lA (a::l)=true) (hd:depthAll (dU (a::l))≤20):g9 (k,.tup (a::l))
def nk(x:Str×P):List (Str×P)→Bool
 |[]=>true
 |y::_=>decide (x.1=y.1)&&decide (xT x=xT y)
theorem nq{x y:Str×P}{l:List (Str×P)}:nk x (y::l)=(decide (x.1=y.1)&&decide (xT x=xT y)):=rfl
def cj(rows:List (Str×P))(x:Str×P):Bool:=
 nk x rows&&(decide (x.1= "chain") || !vV (rows.map cI) (cI x))
theorem Ag:∀(l:Lp) (k:Nat),lA l=true→lA (l.take k)=true
 |[],k,_=>by refine ER List.take_nil ?_;rfl
 |a::l,0,_=>rfl
 |a::l,k+1,h=>and_eq_true_iff.mpr ⟨(and_eq_true_iff.mp h).1,Ag l k (and_eq_true_iff.mp h).2⟩
theorem Ah:∀(l:Lp) (k:Nat),depthAll (dU (l.take k))≤depthAll (dU l)
 |[],k=>by refine ER List.take_nil ?_;exact le_refl _
 |a::l,0=>zero_le _
 |a::l,k+1=>by
  have:=Ah l k
  dsimp only[List.take_succ_cons,dU,depthAll];omega
section
variable {ts r:Lk}{i n:Nat}{σ:LM}{E:ME}{Q:MQ V}{x:Str×P}
theorem g9.word(h:g9 x)(q:Q (.p (.str (xT x))) σ):Run j4 [.p (Aa x)] σ Q E:=by
 induction h with
 |chain=>exact Gh (fun U=>⟨_,rfl⟩) q
 |plain hk=>exact Gh (fun e=>absurd e hk) q
theorem g9.left(h:g9 x)(q:Q (.p (cI x)) σ):Run j5 [.p (Aa x)] σ Q E:=by
 induction h with
 |chain hl=>exact Gi (succ_le_succ (le_trans hl (bl rfl))) q
 |plain _ hl=>exact Gi (succ_le_succ (le_trans hl (bl rfl))) q
theorem g9.JD(h:g9 x):flat (cI x)=true∧(toPy (cI x)).depth≤60:=by
 induction h with
 |chain=>exact⟨rfl,zero_le _⟩
 |@plain k a l hk hl hf hd=>
  unfold cI;refine ER (if_neg hk) ?_;exact⟨Ag _ _ hf,le_trans (succ_le_succ (le_trans (Ah (a::l) _) hd)) (bl rfl)⟩
theorem Ai:∀{rows:List (Str×P)},(∀x∈rows,g9 x)→lA (rows.map cI)=true:=by
 intro rv;induction rv with
 |nil=>exact fun o=>rfl
 |cons a l ih=>exact fun h=>and_eq_true_iff.mpr ⟨(h a (.head _)).JD.1,ih fun x hx=>h x (.tail _ hx)⟩
noncomputable def To:P→Str×P
 | .inst _ [(_,.str k),(_,p)]=>(k,p)
 |_=>("",.none)
theorem UT(rows:List (Str×P)):((rows.map Aa).filter fun U=>true).map (fun p=>cI (To p))=rows.map cI:=by refine ER (filter_eq_self.mpr fun U U=>rfl) (ER map_map ?_);rfl
theorem JE{a:P}{l:Lp}:b8 (.list (a::l)) 0 a:=cE (k:=0) rfl (zero_le _)
theorem UU{rows:List (Str×P)}{r0:Lk}(h:At ts σ i r)(Zm:n≠i)(hn:σ[n]?=some (.list (rows.map Aa)))(h0:r0<:+ts)(UW:∀y∈rows,g9 y)(hx:g9 x)(hl:rows.length≤500000)
  (z:cO ts i [i] σ (if cj rows x then .ok () r else .err r0) (fun U U ah=>Q (.p .none) ah) E):Run lR [.ref i,.ref n,.p (Aa x),.p (.int ((ts.length - r0.length:Nat):Int))] σ Q E:=by
 have w0:ik ts i [i] σ (σ.set i (rd ts r0)) r0:=⟨h.move h0,(Ext.refl _ _).Dv (.head _),.head _,h.lt⟩;have hn0:(σ.set i (rd ts r0))[n]?=some (.list (rows.map Aa)):=(getElem?_set_ne Zm.symm).trans hn;have lim:(rows.map Aa).length≤bL:=by rw[length_map];exact le_trans hl (bl rfl)
 have fail:∀{v:V},cj rows x=false→Run dj [.ref i,v] (σ.set i (rd ts r0)) (fun v ah=>zB v ah (back σ.length E)) (back σ.length E):=fun e=>w0.fault (z.f e);have hx':=w0.at_;have s2:bC [i] σ ((σ.set i (rd ts r0)).set i (rd ts r)):=(bC.set (.head _)).trans (bC.set (.head _));have good:cj rows x=true→sj σ.length [(36,.ref i),(6,.ref n),(27,.p (Aa x)),(40,.p (.int ((ts.length - r0.length:Nat):Int))),(50,.p (.int ((ts.length - r.length:Nat):Int)))] (σ.set i (rd ts r0)) (fun o ah=>cz σ.length ah o Q) (back σ.length E):=fun e=>
  jZ.mk _ _ _ rfl w0.at_.get rfl (Tg s2 (z.t e _ s2 (w0.at_.move h.bX)))
 have second:nk x rows=true→su σ.length [(36,.ref i),(6,.ref n),(27,.p (Aa x)),(40,.p (.int ((ts.length - r0.length:Nat):Int))),(50,.p (.int ((ts.length - r.length:Nat):Int)))] (σ.set i (rd ts r0)) (fun o ah=>cz σ.length ah o Q) (back σ.length E):=fun e1=>by
  refine bR.mk _ _ _ rfl rfl (aF.pp (eY _ _) (aT.mk (fun e2=>⟨173,_,_,rfl,rfl,rfl,hx.left ?_⟩) fun e2=>aT.mk (fun e=>Bool.noConfusion e) fun U=>good ?_))
  ·refine .mk _ (.ref hn0) lim ⟨comp_map (g:=fun U=>true) (f:=fun p=>cI (To p)) (base:=[]) (fun U U=>rfl) (fun U=>rfl) (fun m e=>by obtain rfl:=Option.some.inj e;exact hn0) _ [] [] (.inl rfl) (by simpa using lim) (fun U U U q=>q) (fun y hy U K q=>?_) ?_⟩
   ·obtain⟨y,hz,rfl⟩:=mem_map.mp hy;exact⟨173,_,_,rfl,rfl,rfl,(UW y hz).left q⟩
   ·refine ER (nil_append ..) (ER (UT ..) ?_);refine aF.pp (xn (Ai UW) hx.JD.1 hx.JD.2) (aT.mk (fun e3=>hx'.bJ rfl rfl (fail ?_)) fun e3=>good ?_)
    ·unfold cj;refine ER e1 (ER e3 (ER (nb e2) ?_));rfl
    ·unfold cj;refine ER (e1 ..) (ER (e3 ..) (ER (Bool.not_false ..) (ER (Bool.or_true ..) ?_)));rfl
  ·unfold cj;rw[e1,Cg e2];rfl
 refine⟨bR.mk _ _ _ (bH h.get) rfl (jZ.mk _ _ _ rfl h.get rfl ?_)⟩;induction rows with
 |nil=>exact az.p0 (aF.mk _ _ _ (aB hn0) rfl (sJ rfl rfl (bl rfl)) (aT.mk (fun e=>Bool.noConfusion e) fun U=>aT.mk (fun e=>Bool.noConfusion e) fun U=>second rfl))
 |cons y rows=>
  have bad:nk x (y::rows)=false→cj (y::rows) x=false:=fun e=>by unfold cj;refine ER e ?_;rfl
  refine az.p0 (aF.mk _ _ _ (aB hn0) rfl mK (aT.mk (fun U=>bR.mk _ _ _ rfl rfl (aW.mk _ _ _ (aB hn0) rfl JE (bR.mk _ _ _ rfl rfl (aF.pp (eY _ _) (aT.mk (fun e=>aT.mk (fun U=>hx'.bJ rfl rfl (fail (bad ?_))) fun e=>Bool.noConfusion e) fun e=>
   ⟨173,_,_,rfl,rfl,rfl,hx.word (aW.mk _ _ _ (aB hn0) rfl JE ⟨173,_,_,rfl,rfl,rfl,(UW y (.head _)).word (aF.pp (eY _ _) (aT.mk (fun e'=>hx'.bJ rfl rfl (fail (bad ?_))) fun e'=>second ?_))⟩)⟩))))) fun e=>nomatch e))
  ·rw[nq,nb e];rfl
  ·rw[nq,nb e',Bool.and_false]
  ·refine ER nq (ER (Cg e) (ER (Cg e') ?_));rfl
end
def qp(p:P):Prop:=flat p=true∧(toPy p).depth≤10
theorem Ih:∀l:Ls,depthAll (dU (aq l))≤1:=by
 intro rv;induction rv with
 |nil=>exact zero_le _
 |cons a l ih=>
  exact max_le.mpr ⟨zero_le _,ih⟩
theorem Ii:∀l:List Int,lA (eW l)=true:=by
 intro rv;induction rv with
 |nil=>exact rfl
 |cons _ l ih=>exact ih
theorem Gm:∀l:List Int,depthAll (dU (eW l))≤1:=by
 intro rv;induction rv with
 |nil=>exact zero_le _
 |cons a l ih=>
  exact max_le.mpr ⟨zero_le _,ih⟩
theorem kN(w:Str):qp (.str w):=⟨rfl,zero_le _⟩
theorem Gn{l:Lp}(h:lA l=true)(k:depthAll (dU l)≤1):qp (.tup l):=⟨h,le_trans (succ_le_succ k) (bl rfl)⟩
theorem qZ(l:Ls):qp (.tup (aq l)):=Gn (m9 l) (Ih l)
theorem Lh(l:List Int):qp (.tup (eW l)):=Gn (Ii l) (Gm l)
theorem Gp:∀(l:Lp),(∀p∈l,qp p)→lA l=true∧depthAll (dU l)≤10:=by
 intro rv;induction rv with
 |nil=>exact fun o=>⟨rfl,zero_le _⟩
 |cons a l ih=>exact fun h=>
  have ih:=ih fun p hp=>h p (.tail _ hp)
  ⟨and_eq_true_iff.mpr ⟨(h a (.head _)).1,ih.1⟩,max_le.mpr ⟨(h a (.head _)).2,ih.2⟩⟩
theorem Gq{k:Str}{a:P}{l:Lp}(hk:k≠ "chain")(hl:l.length≤900)(h:∀p∈a::l,qp p):g9 (k,.tup (a::l)):=
 .plain hk hl (Gp _ h).1 (le_trans (Gp _ h).2 (bl rfl))
theorem Xn{k:Str}{a b:P}(hk:k≠ "chain")(h1:qp a)(h2:qp b):g9 (k,.tup [a,b]):=
 Gq hk (bl rfl) fun p hp=>by
  rcases mem_cons.mp hp with rfl|hp
  ·exact h1
  ·rw[mem_singleton.mp hp];exact h2
section
variable {r r':Lk}{x:Str×P}{its:List Item}
theorem eZ{c:Tk}{u:Unit}(h:bO c r= .ok u r'):r'.length<r.length:=by
 unfold bO at h;split at h
 ·rename_i e;cases h;exact DF e
 ·contradiction
theorem Li{l:Ls}(h:qn r= .ok l r'):r'.length≤r.length:=by
 obtain⟨l',r2,h1,h2⟩:=aV h;split at h2<;>cases h2;exact z9 h1
theorem Xo{N:Nat}:∀{found l:Ls} {r r':Lk},iY N found r= .ok l r'→r'.length≤r.length:=by
 induction N with
 |zero=>intro found l r r' h;contradiction
 |succ N ih=>
  intro found l r r' h;have h:(if EM r then(dm r).bind fun w r=>iY N (found++[w]) r else .ok found r)= .ok l r':=h;split at h
  ·obtain⟨w,r2,h1,h2⟩:=aV h;exact le_trans (ih h2) (le_of_lt (dN h1))
  ·cases h;exact le_refl _
theorem UX(h:tM its r= .ok x r'):g9 x∧r'.length≤r.length:=by
 unfold tM at h;split at h
 ·obtain⟨_,r1,e1,h⟩:=aV h;obtain⟨g,r2,e2,h⟩:=aV h;cases h;exact⟨Xn (by decide+kernel) (kN _) (qZ _),le_trans (Li e2) (le_trans (le_of_lt (eZ e1)) (dI r))⟩
 ·obtain⟨_,r1,e1,h⟩:=aV h;have l1:=le_of_lt (eZ e1);split at h
  ·obtain⟨g,r2,e2,h⟩:=aV h;cases h;exact⟨Xn (by decide+kernel) (qZ _) (kN _),le_trans (le_of_lt (dN e2)) l1⟩
  ·split at h
   ·cases h;exact⟨Xn (by decide+kernel) (kN _) (qZ []),le_trans (dI _) l1⟩
   ·obtain⟨ns,r2,e2,h⟩:=aV h;obtain⟨g,r3,e3,e4⟩:=aV e2;have l2:=le_trans (Xo e4) (le_trans (le_of_lt (dN e3)) l1);split at h
    ·cases h;exact⟨Xn (by decide+kernel) (kN _) (kN _),l2⟩
    ·cases h;exact⟨Xn (by decide+kernel) (kN _) (qZ _),l2⟩
theorem vc{lo hi v:Int}(h:pNum lo hi r= .ok v r'):r'.length≤r.length:=by
 unfold pNum at h;split at h
 ·cases h;exact dI r
 ·contradiction
theorem Rw:∀{m:Nat} {acc l:List Int} {r r':Lk},Ab m acc r= .ok l r'→r'.length≤r.length:=by
 intro rv;induction rv with
 |zero=>exact fun {U} {U} {U} {U} h=>by cases h;exact le_refl _
 |succ m ih=>
  intro U U U U h;obtain⟨v,r2,e,h⟩:=aV h;exact le_trans (ih h) (vc e)
theorem Ij{w:List Int}(h:wz r= .ok w r'):r'.length≤r.length:=by
 unfold wz at h;split at h
 ·obtain⟨l,r2,e1,h⟩:=aV h;obtain⟨_,r3,e2,h⟩:=aV h;cases h;exact le_trans (le_of_lt (eZ e2)) (le_trans (Rw e1) (dI r))
 ·obtain⟨v,r2,e1,h⟩:=aV h;cases h;exact vc e1
theorem UY(dG:its≠[])(h:wC its r= .ok x r'):g9 x∧r'.length≤r.length:=by
 unfold wC at h;split at h
 ·contradiction
 ·rename_i hl;obtain⟨w,r2,e,h⟩:=aV h;cases h;refine⟨?_,Ij e⟩;induction its with
  |nil=>exact absurd rfl dG
  |cons a l=>
   refine Gq (a:=.str (firstOf a)) (l:=d9 l++[.tup (eW w)]) ?_ ?_ fun p hp=>?_
   ·refine iT (fun _=>?_) fun _=>?_<;>decide+kernel
   ·have:(d9 (a::l)).length=(d9 l).length+1:=rfl;simp only[decide_eq_true_eq]at hl;refine ER length_append (ER length_singleton ?_);omega
   ·rcases mem_append.mp (show p∈d9 (a::l)++[.tup (eW w)] from hp)with hp|hp
    ·obtain⟨s,_,rfl⟩:=mem_map.mp hp;exact kN _
    ·rw[mem_singleton.mp hp];exact Lh _
theorem Ik{y:(Str×P)×List eQ}(h:lu r= .ok y r'):g9 y.1∧y.2.length+r'.length<r.length:=by
 obtain⟨its,r1,e1,h⟩:=aV h;obtain⟨z,r2,e2,h⟩:=aV h;obtain⟨_,r3,e3,h⟩:=aV h;cases h;obtain⟨ne,full,tt⟩:=Gj e1;have l3:=eZ e3;have tl:=dI r;unfold rowOf at e2;split at e2
 ·cases e2;exact⟨.chain (bl rfl),lt_of_lt_of_le (Nat.add_lt_add_of_le_of_lt (Gk (its:=its) its [] rfl) l3) (le_trans tt tl)⟩
 ·obtain⟨_,r4,e4,h⟩:=aV e2;replace h:=(xU e4)▸h;obtain⟨x,r5,e5,h⟩:=aV h;cases h;have key:g9 x∧r2.length≤r1.length:=by
   split at e5
   ·exact UX e5
   ·exact UY ne e5
  refine⟨key.1,?_⟩;show 0+_< _;have:=key.2;lia
end
def i6(r:Lk):Bool:=jC (.kw .sub) r || jC (.kw .pos) r
noncomputable def kO:Nat→List (Str×P)→List eQ→Lk→PR (List (Str×P)×List eQ)
 |0,_,_,r=>.err r
 |N+1,rows,us,r=>if i6 r then(lu r).bind fun x r'=>(if cj rows x.1 then .ok () r' else .err r:PR Unit).bind fun U r'=>kO N (rows++[x.1]) (us++x.2) r' else .ok (rows,us) r
structure LB where
 name:Str
 flag:Int
 rows:List (Str×P)
noncomputable def qq{α:Type}(l:List α):List α:=if l.length≤400000 then l else []
theorem DJ{α:Type}(l:List α):(qq l).length≤400000:=by
 unfold qq;refine iT (fun _=>?_) fun _=>?_
 ·assumption
 ·exact zero_le _
theorem q9{α:Type}{l:List α}(h:l.length≤400000):qq l=l:=if_pos h
def Mv(b:LB):P:=.inst 131 [(4,.str b.name),(5,.int b.flag),(6,.list ((qq b.rows).map Aa))]
def Cj(r:Lk):PR Int:=if jC (.kw .flag) r then pNum 0 65535 r.tail else .ok 0 r
def gq(r:Lk):PR (LB×List eQ):=(qm r).bind fun name r=>(Cj r).bind fun flag r=>(bO (.sg .lc) r).bind fun U r=>(kO (r.length+1) [] [] r).bind fun x r=>
 if x.1.isEmpty then .err r else(bO (.sg .rc) r).bind fun U r=>.ok (⟨name,flag,x.1⟩,x.2) r
section
variable {ts r:Lk}{i j n k:Nat}{σ aj:LM}{S:Ln}{E:ME}{Q:MQ V}
theorem cO.Zo{α β:Type}{T:Ln}{p:PR α}{k:α→Lk→PR β}{Qf:β→Lk→LM→Prop}{Ef:ME}(hT:∀k∈T,k∈S)(n:ik ts i S aj σ r)(z:cO ts i S aj (p.bind k) Qf Ef){Q:α→Lk→LM→Prop}(q:∀a r' ah,p= .ok a r'→bC T σ ah→ik ts i S aj ah r'→cO ts i S aj (k a r') Qf Ef→Q a r' ah):cO ts i T σ p Q (back aj.length Ef):=by
 induction p with
 |ok a r'=>exact fun ah s a'=>q a r' ah rfl s ⟨a',n.ext.same (s.mono hT),n.mem,n.lt⟩ z
 |err r'=>exact fun ah s=>z _ (n.ext.same (s.mono hT)).take
theorem UZ(h:At ts σ i r):decide (jo r∈(["sub","pos"]:Ls))=i6 r:=by
 have h1:decide (jo r= "sub")=jC (.kw .sub) r:=iE (c:=.kw .sub) h rfl;have h2:decide (jo r= "pos")=jC (.kw .pos) r:=iE (c:=.kw .pos) h rfl;unfold i6;refine EL (h1 ..) (EL (h2 ..) (EL (Bool.decide_or ..) ?_));exact decide_eq_decide.mpr (by simp only[mem_cons,not_mem_nil,or_false])
theorem Ow(h:i6 r=true):r≠[]:=by rintro rfl;contradiction
theorem Lj{β:Type}{k:List (Str×P)×List eQ→Lk→PR β}{Qf:β→Lk→LM→Prop}{k0:Nat}{bZ:Lp}{g1 g2:V}(hn:aj.length≤n)(hj:j<aj.length)(Xm:j≠i){Q:MQ Out}:∀(N:Nat) (r:Lk) (rows:List (Str×P)) (us:List eQ) (t:ai) (σ:LM),(t=[]∨∃v w,t=[(40,v),(27,w)])→ik ts i [i,j] aj σ r→σ[n]?=some (.list (rows.map Aa))→σ[j]?=some (.list (bZ++us.map (e9 ts)))→(∀x∈rows,g9 x)→rows.length+N≤200000→bZ.length+(us.length+r.length)≤400000→r.length<N→
  cO ts i [i,j] aj ((kO N rows us r).bind k) Qf E→(∀x r' ah t',ik ts i [i,j] aj ah r'→ah[n]?=some (.list (x.1.map Aa))→ah[j]?=some (.list (bZ++x.2.map (e9 ts)))→x.1.length≤200000→cO ts i [i,j] aj (k x r') Qf E→Q (.next ((36,.ref i)::(41,.ref j)::(4,g1)::(5,g2)::(6,.ref n)::t')) ah)→
  fk N (jj k0) (jk k0) ((36,.ref i)::(41,.ref j)::(4,g1)::(5,g2)::(6,.ref n)::t) σ Q (back aj.length E):=by
 intro rv;induction rv with
 |zero=>exact fun r rows us t σ ht w hl hu UW hN hU lt z q=>absurd lt (not_lt_zero _)
 |succ N ih=>
  intro r rows us t σ ht w hl hu UW hN hU lt z q;refine w.at_.bJ rfl rfl (kM w.at_ (az.p2 (aF.pp (N6 ["sub","pos"] _) (UZ w.at_▸aT.mk (fun e=>?_) fun e=>q (rows,us) r σ t w hl hu (Nat.le_of_add_right_le hN) (z.bf e)))));have nj:n≠j:=ne_of_gt (lt_of_lt_of_le hj hn);have ni:n≠i:=ne_of_gt (lt_of_lt_of_le w.lt hn);have nij:n∉[i,j]:=by simp[ni,nj]
  have ji:j∉[i]:=by simpa using Xm
  have rest:∀(x:(Str×P)×List eQ) (r1:Lk) (fU:LM),lu r= .ok x r1→bC [i,j] σ fU→ik ts i [i,j] aj fU r1→cO ts i [i,j] aj (((if cj rows x.1 then .ok () r1 else .err r:PR Unit).bind fun U r'=>kO N (rows++[x.1]) (us++x.2) r').bind k) Qf E→fU[j]?=some (.list (bZ++us.map (e9 ts)++x.2.map (e9 ts)))→
    (ae (oU (ay lR [(aa 36),(aa 6),(aa 27),(aa 40)])) (ae (oU (ry .append (aa 6) (aa 27))) ak)) [(36,.ref i),(41,.ref j),(4,g1),(5,g2),(6,.ref n),(40,.p (.int ((ts.length - r.length:Nat):Int))),(27,.p (Aa x.1))] fU (cB (fk N (jj k0) (jk k0)) Q (back aj.length E)) (back aj.length E):=fun x r1 fU ex s1 w1 z hu1=>by
   obtain⟨wf,less⟩:=Ik ex;have hl1:=s1.get hl nij;refine UU w1.at_ ni hl1 w.at_.bX UW wf (by omega) (cO.go w1 z.bb fun U r2 σ2 ec s2 w2 z'=>?_);have e2:r2=r1:=by split at ec<;>cases ec;rfl
   subst e2;have hl2:=s2.get hl1 (by simpa using ni);refine⟨.append _ (aB hl2),.append _ _ _ rfl rfl hl2 (by simp only[length_map,bL];omega) (ih r2 (rows++[x.1]) (us++x.2) [(40,_),(27,_)] _ (.inr ⟨_,_,rfl⟩) (w2.set hn) (by refine ER (fE hl2) (ER map_append ?_);rfl) (by rw[getElem?_set_ne nj,(s2.get hu1 ji),map_append,append_assoc]) (fun y hy=>?_) (by simp;omega) (by refine ER length_append ?_;grind only) (by grind only) z' q)⟩;rcases mem_append.mp hy with hy|hy
   ·exact UW y hy
   ·refine ER (mem_singleton.mp hy) ?_;exact wf
  rcases ht with rfl|⟨u,v,rfl⟩<;>exact bR.mk _ _ _ (bH w.at_.get) rfl (Zl w.at_ (Ow e) hu Xm (by simp;lia) (cO.Zo (fun U h=>h) w (z.bt e).bb fun x r1 fU ex s1 w1 z hu1=>rest x r1 fU ex s1 w1 z hu1))
theorem Rx{a:Str}{b:Int}{l:Lp}(h:k≤σ.length)(hn:k≤n)(hl:σ[n]?=some (.list l))(q:Q (.p (.inst 131 [(4,.str a),(5,.int b),(6,.list l)])) (σ.take k)):Run gx [.ref σ.length,.p (.str a),.p (.int b),.ref n] (σ++[.inst 131 []]) (fun v ah=>v= .p .none∧cz k ah (.ret (.ref σ.length)) Q) E:=by
 have lt:=(List.getElem?_eq_some_iff.mp hl).1
 refine⟨jZ.mk _ _ _ rfl ba rfl (jZ.mk _ _ _ rfl (by refine ER set_push ?_;exact ba) rfl (jZ.mk _ _ _ rfl (by refine ER set_push (ER set_push ?_);exact ba) (congrArg (fun b=>Hp 131 6&&b&&true) (decide_eq_true lt)) (tL ⟨rfl,?_⟩)))⟩;refine ER set_push (ER set_push (ER set_push (ER (take_of_length_le (by simp)) ?_)));refine⟨_,_,.P7 (.inst ba h (.cons (.p _) (.cons (.p _) (.cons (.list (n:=n) (l:=l) ?_ hn) .nil)))),?_⟩
 ·rw[set_push,getElem?_append_left lt];exact hl
 ·refine ER set_push (ER (take_set_of_le hn) (ER (wA h) ?_));exact q
theorem Ry{bZ:Lp}(h:At ts σ i r)(hj:σ[j]?=some (.list bZ))(Le:j≠i)(hu:bZ.length+r.length≤400000)
  (z:cO ts i [i,j] σ (gq r) (fun x U ah=>ah[j]?=some (.list (bZ++x.2.map (e9 ts)))→Q (.p (Mv x.1)) ah) E):Run mu [.ref i,.ref j] σ Q E:=by
 have ltj:=(List.getElem?_eq_some_iff.mp hj).1
 have nj:j∉[i]:=by simpa using Le
 unfold gq at z;have tail:∀{name:Str} {flag:Int} {r' ah},r'.length≤r.length→ik ts i [i,j] σ ah r'→ah[j]?=some (.list bZ)→cO ts i [i,j] σ ((bO (.sg .lc) r').bind fun U r=>(kO (r.length+1) [] [] r).bind fun x r=>if x.1.isEmpty then .err r else(bO (.sg .rc) r).bind fun U r=>.ok (⟨name,flag,x.1⟩,x.2) r) (fun x U ah=>ah[j]?=some (.list (bZ++x.2.map (e9 ts)))→Q (.p (Mv x.1)) ah) E→
   oK σ.length [(36,.ref i),(41,.ref j),(4,.p (.str name)),(5,.p (.int flag))] ah (fun o ah=>cz σ.length ah o Q) (back σ.length E):=fun {name flag r' ah} le w hj z=>by
  refine w.at_.bJ rfl rfl (u6 (c:=.sg .lc) w.at_ rfl rfl (cO.go w z fun U r2 σ2 e2 s w2 z=>az.p0 ⟨_,Lj (bZ:=bZ) w2.ext.1 ltj Le _ r2 [] [] [] _ (.inl rfl) w2.push ba (by rw[getElem?_append_left (lt_of_lt_of_le ltj w2.ext.1)];simpa using s.get hj nj) (fun U h=>(not_mem_nil h).elim) (by have:=w2.at_.room;simp;lia) (by have:=eZ e2;simp;lia) (lt_succ_self _) z fun x r3 σ3 t' w3 hl hj3 lim z=>?_⟩));obtain⟨rows,us⟩:=x;induction rows with
  |nil=>exact az.p0 (aF.mk _ _ _ (aB hl) rfl (ip rfl rfl (bl rfl)) (aT.mk (fun U=>w3.at_.bJ rfl rfl (w3.fault z)) fun x=>Bool.noConfusion x))
  |cons y rows=>exact az.p0 (aF.mk _ _ _ (aB hl) rfl yX (aT.mk (fun x=>Bool.noConfusion x) fun U=>w3.at_.bJ rfl rfl (u6 (c:=.sg .rc) w3.at_ rfl rfl (cO.go w3 z fun U r4 σ4 U s4 w4 z=>
    Rx w4.ext.1 w2.ext.1 (s4.get ((congrArg (fun l=>some (MO.list (l.map Aa))) (q9 (le_trans lim (bl rfl)))).symm▸hl) (by simpa using ne_of_gt (lt_of_lt_of_le w2.lt w2.ext.1))) (z.done w4 (by rw[getElem?_take,if_pos ltj];exact s4.get hj3 nj))))))
 refine⟨h.bJ rfl rfl (Th h (cO.go (⟨h,.refl ..,.head _,h.lt⟩:ik ts i [i,j] σ σ r) z fun name r1 fU e1 s1 w1 z=>?_))⟩;have hj1:=s1.get hj nj;have l1:=le_of_lt (nf e1);unfold Cj at z;exact w1.at_.bJ rfl rfl (oN (c:=.kw .flag) w1.at_ rfl (fun e σ2 s a=>aT.mk (fun U=>a.bJ rfl rfl (DB a (.inl ⟨rfl,rfl⟩) (cO.go (w1.step s a) (z.bt e) fun fl r2 σ3 e3 s' w' z=>tail (le_trans (vc e3) (le_trans (dI _) l1)) w' (s'.get (s.get hj1 nj) nj) z))) fun x=>Bool.noConfusion x) fun e=>aT.mk (fun x=>by cases x) fun U=>tail l1 w1 hj1 (z.Zn e))
end
noncomputable abbrev ch(w:Str):Ln:=w.cps.toList
def sgn(c:Nat)(s:Str):Bool:=yV ⟨#[c]⟩ s
noncomputable def Gr:Str:= " \t\r\n"
noncomputable def VW:Str:= "{}[];'<>"
noncomputable def run(s:Str):Ln→Nat
 |[]=>0
 |c::l=>if sgn c s then run s l+1 else 0
def n6:Ln→Option Nat
 |[]=>none
 |c::l=>if sgn c LE then some (run (LE++FI) (c::l))else if sgn c FI then some (run FI (c::l))else if decide (c=45)&&decide (0<run FI l)then some (run FI l+1)else if sgn c VW then some 1 else none
structure Txt (text:Str) (k:Nat) (l:Ln):Prop where
 drop:(ch text).drop k=l
 cS:text.length≤900000
 le:k≤text.length
section
variable {text signs:Str}{k c n:Nat}{l:Ln}{σ:LM}{E:ME}{Q:MQ V}
theorem qr(w:Str):(ch w).length=w.length:=Array.length_toList
theorem Txt.len(h:Txt text k l):nQ .len (.str text) (.int text.length):=len_str (le_trans h.cS (bl rfl))
theorem Txt.size(h:Txt text k l):text.length=k+l.length:=by refine EL (h.drop ..) (ER (length_drop ..) (ER (qr ..) ?_));exact(Nat.add_sub_cancel' h.le).symm
theorem Txt.get(h:Txt text k (c::l)):(ch text)[k]?=some c:=by
 have:((ch text).drop k)[0]?=some c:=by rw[h.drop];rfl
 rwa [List.getElem?_drop]at this
theorem Txt.item(h:Txt text k (c::l)):b8 (.str text) (k:Int) (.str ⟨#[c]⟩):=
 item_str (cg (le_trans h.le (le_trans h.cS (bl rfl)))) (yL (by rw[h.size];exact Nat.lt_add_of_pos_right (succ_pos _))) (by rw[←Array.getElem?_toList];exact h.get)
theorem Txt.next(h:Txt text k (c::l)):Txt text (k+1) l:=⟨by refine EL List.drop_drop (ER h.drop ?_);rfl,h.cS,by rw[h.size];exact add_le_add_left (succ_pos _) _⟩
theorem Txt.skip{a b:Ln}(h:Txt text k (a++b)):Txt text (k+a.length) b:=⟨by refine EL List.drop_drop (ER h.drop ?_);exact drop_left,h.cS,by refine ER h.size (ER length_append ?_);exact add_le_add_left (le_add_right _ _) _⟩
theorem Txt.lt(h:Txt text k (c::l)):decide ((k:Int)<(text.length:Int))=true:=decide_eq_true (ofNat_lt.mpr (by rw[h.size];exact Nat.lt_add_of_pos_right (succ_pos _)))
theorem Txt.end_(h:Txt text k []):decide ((k:Int)<(text.length:Int))=false:=decide_eq_false fun q=>absurd (ofNat_lt.mp q) (by rw[h.size];exact lt_irrefl _)
theorem Tp{A:Prop}{b:Bool}(h:b=true)(k:b=false):A:=nomatch h.symm.trans k
theorem JF(h:sgn c signs=true):run signs (c::l)=run signs l+1:=if_pos h
theorem Gs(h:sgn c signs=false):run signs (c::l)=0:=if_neg (by rw[h];exact Bool.false_ne_true)
theorem U0(a b:Nat):a+(b+1)=a+1+b:=ER (add_assoc ..) (ER (add_comm 1 b ..) rfl)
theorem Ox{k0:Nat}{av:V}{Q:MQ Out}:∀(l:Ln) (k:Nat),Txt text k l→Q (.next [(28,.p (.str text)),(1,av),(29,.p (.str signs)),(30,.p (.int ((k+run signs l:Nat):Int)))]) σ→
  fk (l.length+1) (xB k0) (xC k0) [(28,.p (.str text)),(1,av),(29,.p (.str signs)),(30,.p (.int (k:Int)))] σ Q E:=by
 intro rv;induction rv with
 |nil=>exact fun k h q=>dC.pp h.len (aF.pp nM (aT.mk (fun e=>Tp e h.end_) fun U=>aT.mk (fun x=>Bool.noConfusion x) fun U=>q))
 |cons c l ih=>exact fun k h q=>dC.pp h.len (aF.pp nM (aT.mk (fun U=>aW.pp h.item (aF.pp (jT rfl) (aT.mk
   (fun e=>aU.pp add_int (ih (k+1) h.next (by rw[JF e,U0]at q;exact q))) fun e=>by rw[Gs e]at q;exact q))) fun e=>Tp h.lt e))
theorem vd(h:Txt text k l)(q:Q (.p (.int ((k+run signs l:Nat):Int))) σ):Run jQ [.p (.str text),.p (.int (k:Int)),.p (.str signs)] σ Q E:=
 ⟨⟨_,Ox l k h (dc q)⟩⟩
theorem ZO{k n:Nat}:decide (((k+1+n:Nat):Int) > (k:Int)+1)=decide (0<n):=decide_eq_decide.mpr (by omega)
def Aj(p:Option Nat)(k:Nat)(Q:Nat→Prop)(E:Nat→Prop):Prop:=match p with
 |some n=>Q (k+n)
 |none=>E k
theorem Aj.t{b:Bool}{p p':Option Nat}{Q E:Nat→Prop}(h:b=true)(z:Aj (if b then p else p') k Q E):Aj p k Q E:=by rwa [if_pos h]at z
theorem Aj.f{b:Bool}{p p':Option Nat}{Q E:Nat→Prop}(h:b=false)(z:Aj (if b then p else p') k Q E):Aj p' k Q E:=by rwa [h]at z
theorem DK(c d:Nat):decide ((⟨#[c]⟩:Str)=⟨#[d]⟩)=decide (c=d):=decide_eq_decide.mpr (by simp)
theorem Ll(h:Txt text k (c::l))(z:Aj (n6 (c::l)) k (fun n=>Q (.p (.int (n:Int))) σ) fun n=>∀ah,Ext [] σ ah→E (.int (n:Int)) (ah.take σ.length)):Run nU [.p (.str text),.p (.int (k:Int))] σ Q E:=by
 unfold n6 at z;refine⟨aW.pp h.item (aF.pp (jT rfl) (aT.mk (fun e=>aU.pp (add_str (bl rfl)) (vd h (dc (z.t e)))) fun e=>?_))⟩;have z:=z.f e;refine aF.pp (jT rfl) (aT.mk (fun e=>vd h (dc (z.t e))) fun e=>?_);have z:=z.f e;have sg:(decide (c=45)&&decide (0<run FI l))=false→uP σ.length [(28,.p (.str text)),(1,.p (.int (k:Int))),(32,.p (.str ⟨#[c]⟩))] σ (fun o ah=>cz σ.length ah o Q) (back σ.length E):=fun e=>by
  have z:=z.f e
  exact aF.pp (jT rfl) (aT.mk (fun e=>aU.pp add_int (dc (z.t e))) fun e=>QR.mk _ _ rfl ⟨_,_,rfl,ba,(z.f e) _ ((Ext.refl _ _).push.set (le_refl _))⟩)
 refine aF.pp (b7 _ _) (aT.mk (fun e=>aU.pp add_int (vd h.next (aU.pp add_int (aF.pp cmp_gt (aT.mk (fun e'=>aU.pp add_int (vd h.next (dc ?_))) fun e'=>sg ?_))))) fun e=>aT.mk (fun x=>Bool.noConfusion x) fun U=>sg (af ((DK c 45).symm.trans e)))
 ·have hp:(decide (c=45)&&decide (0<run FI l))=true:=Qa ((DK c 45).symm.trans e) ((ZO (k:=k)).symm.trans e');have:k+(run FI l+1)=k+1+run FI l:=U0 _ _;show Q (.p (.int ((k+1+run FI l:Nat):Int))) σ;refine EL this ?_;exact(z.t hp)
 ·exact at_ ((DK c 45).symm.trans e) ((ZO (k:=k)).symm.trans e')
theorem Oz(h:c≠35):decide ((⟨#[c]⟩:Str)= "#")=false:=(DK c 35).trans (decide_eq_false h)
theorem Lm{k0:Nat}{av:V}{Q:MQ Out}:∀(l:Ln) (k:Nat),(∀c∈l,c≠35)→Txt text k l→Q (.next [(28,.p (.str text)),(1,av),(31,.p (.int ((k+run Gr l:Nat):Int)))]) σ→
  fk (l.length+1) (xD k0) (xE k0) [(28,.p (.str text)),(1,av),(31,.p (.int (k:Int)))] σ Q E:=by
 intro rv;induction rv with
 |nil=>exact fun k nh h q=>dC.pp h.len (aF.pp nM (aT.mk (fun e=>Tp e h.end_) fun U=>aT.mk (fun x=>nomatch x) fun U=>q))
 |cons c l ih=>exact fun k nh h q=>dC.pp h.len (aF.pp nM (aT.mk (fun U=>aW.pp h.item (aF.pp (jT rfl) (aT.mk
   (fun e=>aT.mk (fun U=>aW.pp h.item (aF.pp (b7 _ _) (aT.mk (fun e=>Tp e (Oz (nh c (.head _)))) fun U=>aU.pp add_int (ih (k+1) (fun c h=>nh c (.tail _ h)) h.next (by rw[JF (signs:=Gr) e,U0]at q;exact q))))) fun x=>nomatch x)
   fun e=>aW.pp h.item (aF.pp (b7 _ _) (aT.mk (fun e=>Tp e (Oz (nh c (.head _)))) fun U=>by rw[Gs (signs:=Gr) e]at q;exact q))))) fun e=>Tp h.lt e))
theorem Gu(h:Txt text k l)(nh:∀c∈l,c≠35)(q:Q (.p (.int ((k+run Gr l:Nat):Int))) σ):Run mR [.p (.str text),.p (.int (k:Int))] σ Q E:=
 ⟨⟨_,Lm l k nh h (dc q)⟩⟩
end
noncomputable def tl:Ls→Ln
 |[]=>[]
 |w::ws=>32::(ch w++tl ws)
def jc:Ls→Ln
 |[]=>[]
 |w::ws=>ch w++tl ws
def Ht(w:Str):Bool:=decide (n6 (ch w)=some w.length)
structure Wd (w:Str):Prop where
 ne:∃c cs,ch w=c::cs∧sgn c Gr=false
 nh:∀d∈ch w,d≠35
 we:∀ws,n6 (ch w++tl ws)=if Ht w then some w.length else none
noncomputable def ents:Nat→Ls→Except Nat (Lp)
 |_,[]=>.ok []
 |k,w::ws=>if Ht w then(ents (k+w.length+1) ws).map (jn w k:: ·)else .error k
def Lex(p:Except Nat (Lp))(Q:Lp→Prop)(E:Nat→Prop):Prop:=match p with
 | .ok l=>Q l
 | .error n=>E n
section
variable {text w:Str}{k c n:Nat}{ws:Ls}{σ ah:LM}{E:ME}{Q:MQ V}
theorem Lex.map{p:Except Nat (Lp)}{f:Lp→Lp}{Q:Lp→Prop}{E:Nat→Prop}(z:Lex (p.map f) Q E):Lex p (fun l=>Q (f l)) E:=by induction p<;>exact z
theorem Lex.t{b:Bool}{p p':Except Nat (Lp)}{Q:Lp→Prop}{E:Nat→Prop}(h:b=true)(z:Lex (if b then p else p') Q E):Lex p Q E:=by rwa [if_pos h]at z
theorem Lex.f{b:Bool}{p p':Except Nat (Lp)}{Q:Lp→Prop}{E:Nat→Prop}(h:b=false)(z:Lex (if b then p else p') Q E):Lex p' Q E:=by rwa [h]at z
theorem Lex.mono{p:Except Nat (Lp)}{Q Q':Lp→Prop}{E E':Nat→Prop}(z:Lex p Q E)(q:∀l,Q l→Q' l)(e:∀n,E n→E' n):Lex p Q' E':=by
 induction p with
 |ok l=>exact q l z
 |error n=>exact e n z
theorem Aj.of{p:Option Nat}{m:Nat}{Q E:Nat→Prop}(e:p=some m)(q:Q (k+m)):Aj p k Q E:=by refine ER e ?_;exact q
theorem Aj.no{p:Option Nat}{Q E:Nat→Prop}(e:p=none)(q:E k):Aj p k Q E:=by refine ER e ?_;exact q
theorem JG:∀{ws:Ls},(∀w∈ws,Wd w)→∀c∈tl ws,c≠35:=by
 intro rv;induction rv with
 |nil=>intros;contradiction
 |cons w ws ih=>
  intro h c hc;rcases mem_cons.mp hc with rfl|hc
  ·decide
  ·rcases mem_append.mp hc with hc|hc
   ·exact(h w (.head _)).nh c hc
   ·exact ih (fun v hv=>h v (.tail _ hv)) c hc
theorem Rz(h:∀w∈ws,Wd w)(x:Txt text k (tl ws)):Txt text (k+run Gr (tl ws)) (jc ws)∧ents (k+run Gr (tl ws)) ws=ents (k+1) ws:=by
 induction ws with
 |nil=>exact⟨x,rfl⟩
 |cons v vs=>
  obtain⟨c,cs,e,nb⟩:=(h v (.head _)).ne;refine ER ((JF (signs:=Gr) (c:=32) (by decide+kernel)).trans (congrArg (· +1) (by refine ER e ?_;exact Gs nb)):run Gr (tl (v::vs))=1) ?_;exact⟨x.next,rfl⟩
theorem Txt.word(h:Txt text k (ch w++tl ws)):Txt text (k+w.length) (tl ws):=by have:=h.skip;rwa [qr]at this
theorem Txt.cut(h:Txt text k (ch w++tl ws)):jW (.str text) (some (k:Int)) (some ((k+w.length:Nat):Int)) (.str w):=by
 have c:=cut_str (lo:=some (k:Int)) (hi:=some ((k+w.length:Nat):Int)) (le_trans h.cS (bl rfl))
 have e:jJ text.length (ch text) (some (k:Int)) (some ((k+w.length:Nat):Int))=ch w:=by refine EL (qr text ..) (ER (JB ..) (ER (h.drop ..) (ER (Nat.add_sub_cancel_left ..) (EL (qr w ..) ?_))));exact take_left
 rw[e]at c;exact c
theorem OA{k0:Nat}{Q:MQ Out}:∀(ws:Ls) (k:Nat) (acc:Lp) (t:ai) (σ:LM),(t=[]∨∃v,t=[(30,v)])→Txt text k (jc ws)→(∀v∈ws,Wd v)→σ[n]?=some (.list acc)→acc.length+ws.length≤200000→
  Lex (ents k ws) (fun l=>∀v t' ah,bC [n] σ ah→ah[n]?=some (.list (acc++l))→Q (.next ((28,.p (.str text))::(33,.ref n)::(1,v)::t')) ah) (fun m=>∀ah,bC [n] σ ah→E (.int (m:Int)) ah)→
  fk (ws.length+1) (gU k0) (gV k0) ((28,.p (.str text))::(33,.ref n)::(1,.p (.int (k:Int)))::t) σ Q E:=by
 intro rv;induction rv with
 |nil=>exact fun k acc t σ ht h hw hl hs z=>dC.pp h.len (aF.pp nM (aT.mk (fun e=>Tp e h.end_) fun U=>z _ _ σ (.refl _ _) (by refine ER (append_nil ..) ?_;exact hl)))
 |cons w ws ih=>
  intro k acc t σ ht h hw hl hs z;have W:=hw w (.head _);have hw':∀v∈ws,Wd v:=fun v hv=>hw v (.tail _ hv);obtain⟨c,cs,ec,nb⟩:=W.ne;have h':Txt text k (c::(cs++tl ws)):=by have:Txt text k (ch w++tl ws):=h;rwa [ec]at this
  have we:n6 (c::(cs++tl ws))=if Ht w then some w.length else none:=by have:=W.we ws;rwa [ec]at this
  have S1:bC [n] σ (σ.set n (.list (acc++[jn w k]))):=bC.set (.head _);have rest:Ht w=true→(ae (oU (ry .append (aa 33) (bG k0 [(iu (aa 28) (aa 1) (aa 30)),(aa 1)]))) (ae (aN 1 (ay mR [(aa 28),(aa 30)])) ak)) [(28,.p (.str text)),(33,.ref n),(1,.p (.int (k:Int))),(30,.p (.int ((k+w.length:Nat):Int)))] σ (cB (fk (ws.length+1) (gU k0) (gV k0)) Q E) E:=fun ht=>by
   have z:=(z.t ht).map
   have g:=Rz hw' (Txt.word h)
   rw[←g.2]at z;exact⟨.append _ (aB hl),jK.mk _ _ _ _ rfl rfl rfl (Txt.cut h) (az.p2 (.append _ _ _ rfl rfl hl (by simp only[bL];grind only)
    (Gu (Txt.word h) (JG hw') (ih _ (acc++[jn w k]) [(30,_)] _ (.inr ⟨_,rfl⟩) g.1 hw' (fE hl) (by refine ER length_append (ER length_singleton ?_);rw[length_cons]at hs;lia)
     (z.mono (fun l q v t' ah s e=>q v t' ah (S1.trans s) (by refine ER (e ..) (ER (append_assoc ..) ?_);rfl)) fun m e ah s=>e ah (S1.trans s))))))⟩
  have run:∀{Q:MQ V},(Ht w=true→Q (.p (.int ((k+w.length:Nat):Int))) σ)→Run nU [.p (.str text),.p (.int (k:Int))] σ Q E:=fun q=>Ll h' (by
   generalize ht:Ht w=gg;induction gg with
   |true=>exact .of (we.trans (if_pos ht)) (q ht)
   |false=>exact .no (we.trans (if_neg (by rw[ht];exact Bool.false_ne_true))) fun ah e=>z.f ht _ (e.mono fun U h=>nomatch h).take)
  rcases ht with rfl|⟨u,rfl⟩<;>exact dC.pp h'.len (aF.pp nM (aT.mk (fun U=>run rest) fun e=>Tp h'.lt e))
theorem JH:∀(w:Str) (ws:Ls),ch (Str.join " " (w::ws))=jc (w::ws)
 |w,[]=>(append_nil _).symm
 |w,v::ws=>by
  show ch (w++ " " ++Str.join " " (v::ws))=ch w++32::jc (v::ws);refine EL (JH v ws) ?_;show((w.cps++(" " :Str).cps)++_).toList=_;refine ER (Array.toList_append ..) (ER (Array.toList_append ..) (ER (append_assoc ..) ?_));rfl
theorem JI(ws:Ls):ch (Str.join " " ws)=jc ws:=by
 induction ws with
 |nil=>rfl
 |cons w ws=>exact JH w ws
theorem OB{k:Nat}{ws:Ls}{l:Lp}(h:ents k ws= .ok l):l.length=ws.length:=by
 induction ws generalizing k l with
 |nil=>injection h with h;subst h;rfl
 |cons w ws ih=>
  have h:(if Ht w then(ents (k+w.length+1) ws).map (jn w k:: ·)else .error k)= .ok l:=h;by_cases q:Ht w=true
  ·replace h:=(if_pos q)▸h;generalize e:ents (k+w.length+1) ws=gg;induction gg with
   |error _=>rw[e]at h;contradiction
   |ok l'=>replace h:=e▸h;injection h with h;subst h;exact congrArg (· +1) (ih e)
  ·replace h:=(if_neg q)▸h;contradiction
theorem OC(h:∀w∈ws,Wd w):run Gr (jc ws)=0∧∀c∈jc ws,c≠35:=by
 induction ws with
 |nil=>exact⟨rfl,fun U h=>(not_mem_nil h).elim⟩
 |cons w ws=>
  obtain⟨c,cs,e,nb⟩:=(h w (.head _)).ne;refine⟨by show run Gr (ch w++tl ws)=0;refine ER e ?_;exact Gs nb,fun d hd=>?_⟩;rcases mem_append.mp hd with hd|hd
  ·exact(h w (.head _)).nh d hd
  ·exact JG (fun v hv=>h v (.tail _ hv)) d hd
theorem Xp{k:Nat}{l:Lp}(hn:k≤n)(e:σ[n]?=some (.list l))(q:Q (.p (.list l)) (σ.take k)):cz k σ (.ret (.ref n)) Q:=⟨_,_,.P7 (.one (.list e hn)),by rw[take_set_of_le hn];exact q⟩
theorem Ak(hw:∀w∈ws,Wd w)(cS:ws.length≤100000)(short:(Str.join " " ws).length≤900000)
  (z:Lex (ents 0 ws) (fun l=>Q (.p (.list (l++[jn "" (Str.join " " ws).length]))) σ) fun m=>E (.int (m:Int)) σ):Run jh [.p (.str (Str.join " " ws))] σ Q E:=by
 have x:Txt (Str.join " " ws) 0 (jc ws):=⟨by refine ER (JI ..) ?_;rfl,short,zero_le _⟩;obtain⟨r,nh⟩:=OC hw;have tk:∀{ah},bC [σ.length] (σ++[.list []]) ah→ah.take σ.length=σ:=fun {ah} s=>by
  have:=((Ext.push (.refl [] σ)).Tf s fun k hk=>.inr (by rw[mem_singleton.mp hk];exact le_refl _)).take
  exact List.ext_getElem? fun k=>this.2 k (fun h=>nomatch h)
 refine⟨az.p0 (Gu (k:=0) x nh ⟨_,OA ws _ [] [] _ (.inl rfl) (by rw[r];exact x) hw ba (by refine ER length_nil ?_;omega) ?_⟩)⟩;refine ER r ?_;refine(show Lex (ents 0 ws) _ _ from ?_);generalize e:ents 0 ws=gg;induction gg with
 |error m=>rw[e]at z;exact fun ah s=>by show E _ (ah.take σ.length);rw[tk s];exact z
 |ok l=>
  rw[e]at z;intro v t' ah s hl;have hl:ah[σ.length]?=some (.list l):=hl;refine⟨.append _ (aB hl),dC.pp x.len (az.p2 (.append _ _ _ rfl rfl hl (by rw[OB e];simp only[bL];exact le_trans (by assumption) (bl rfl)) (Xp (le_refl _) (fE hl) ?_)))⟩;refine ER (take_set_of_le (le_refl _)) (ER (tk s) ?_);exact z
end
def JJ(ts:Lk):Str:=Str.join " " (ts.map Tk.str)
def Tq(w:Str):Bool:=match ch w with
 |[]=>false
 |c::cs=>(Cb c&&cs.all (fun d=>Cb d || u4 d)) || ((u4 c&&cs.all u4) || ((decide (c=45)&&(!cs.isEmpty&&cs.all u4)) || (cs.isEmpty&&sgn c VW)))
theorem U1{l:Ln}(h:l.all (fun d=>Cb d || u4 d)=true):∀d∈l,sgn d (LE++FI)=true:=fun d hd=>by
 have:=all_eq_true.mp h d hd
 refine decide_eq_true (show d∈(LE++FI).cps.toList from ?_);show d∈(LE.cps++FI.cps).toList;rw[Array.toList_append,mem_append];exact(or_eq_true_iff.mp this).imp of_decide_eq_true of_decide_eq_true
theorem yM{s:Str}(h:sgn 32 s=false):∀(a:Ln) (ws:Ls),(∀d∈a,sgn d s=true)→run s (a++tl ws)=a.length
 |[],[],_=>rfl
 |[],_::_,_=>Gs h
 |c::a,ws,k=>(JF (k c (.head _))).trans (congrArg (· +1) (yM h a ws fun d hd=>k d (.tail _ hd)))
theorem OD{l:Ln}(h:l.all u4=true):∀d∈l,sgn d FI=true:=all_eq_true.mp h
theorem RA{c:Nat}(h:sgn c FI=true):sgn c LE=false:=(by decide+kernel:∀c∈FI.cps.toList,sgn c LE=false) c (of_decide_eq_true h)
theorem RE{c:Nat}(h:sgn c VW=true):sgn c LE=false∧sgn c FI=false∧c≠45∧sgn c Gr=false∧c≠35:=(by decide+kernel:∀c∈VW.cps.toList,sgn c LE=false∧sgn c FI=false∧c≠45∧sgn c Gr=false∧c≠35) c (of_decide_eq_true h)
theorem ve{c:Nat}(h:(Cb c || u4 c)=true):sgn c Gr=false∧c≠35:=by
 rcases or_eq_true_iff.mp h with h|h
 ·exact(by decide+kernel:∀c∈LE.cps.toList,sgn c Gr=false∧c≠35) c (of_decide_eq_true h)
 ·exact(by decide+kernel:∀c∈FI.cps.toList,sgn c Gr=false∧c≠35) c (of_decide_eq_true h)
theorem JK(c:Nat)(l:Ln):n6 (c::l)=if sgn c LE then some (run (LE++FI) (c::l))else if sgn c FI then some (run FI (c::l))else if decide (c=45)&&decide (0<run FI l)then some (run FI l+1)else if sgn c VW then some 1 else none:=rfl
theorem RG{w:Str}(h:Tq w=true):(∃c cs,ch w=c::cs∧sgn c Gr=false)∧(∀d∈ch w,d≠35)∧∀ws,n6 (ch w++tl ws)=some w.length:=by
 unfold Tq at h;refine EL (qr ..) ?_;cases e:ch w with
 |nil=>replace h:=e▸h;contradiction
 |cons c cs=>
  replace h:=e▸h
  have h:((Cb c&&cs.all (fun d=>Cb d || u4 d)) || ((u4 c&&cs.all u4) || ((decide (c=45)&&(!cs.isEmpty&&cs.all u4)) || (cs.isEmpty&&sgn c VW))))=true:=h;have hash:∀{cs:Ln},cs.all (fun d=>Cb d || u4 d)=true→∀d∈cs,d≠35:=fun h d hd=>(ve (all_eq_true.mp h d hd)).2;have fl:∀{cs:Ln},cs.all u4=true→cs.all (fun d=>Cb d || u4 d)=true:=fun h=>all_eq_true.mpr fun d hd=>ER (all_eq_true.mp h d hd ..) (ER (Bool.or_true ..) rfl);have cons:∀{Pr:Nat→Prop},Pr c→(∀d∈cs,Pr d)→∀d∈c::cs,Pr d:=fun a b d hd=>(mem_cons.mp hd).elim (fun e=>e▸a) (b d);rcases or_eq_true_iff.mp h with h|h
  ·obtain⟨h1,h2⟩:=and_eq_true_iff.mp h;have hc:(Cb c || u4 c)=true:=by refine ER h1 ?_;rfl
   refine⟨⟨c,cs,rfl,(ve hc).1⟩,cons (ve hc).2 (hash h2),fun ws=>?_⟩;exact ER (cons_append ..) (ER (JK ..) (ER (if_pos (show sgn c LE=true from h1) ..) (EL (cons_append ..) (ER (yM (by decide+kernel) (c::cs) ws (U1 (l:=c::cs) (by rw[all_cons,hc,h2];rfl)) ..) rfl))))
  ·rcases or_eq_true_iff.mp h with h|h
   ·obtain⟨h1,h2⟩:=and_eq_true_iff.mp h;have hc:(Cb c || u4 c)=true:=ER (h1 ..) (ER (Bool.or_true ..) rfl);refine⟨⟨c,cs,rfl,(ve hc).1⟩,cons (ve hc).2 (hash (fl h2)),fun ws=>?_⟩;exact ER (cons_append ..) (ER (JK ..) (ER (RA h1 ..) (ER (if_neg Bool.false_ne_true ..) (ER (if_pos (show sgn c FI=true from h1) ..) (EL (cons_append ..) (ER (yM (by decide+kernel) (c::cs) ws (OD (l:=c::cs) (by rw[all_cons,h1,h2];rfl)) ..) rfl))))))
   ·rcases or_eq_true_iff.mp h with h|h
    ·obtain⟨h1,h2⟩:=and_eq_true_iff.mp h;obtain⟨h2,h3⟩:=and_eq_true_iff.mp h2;have hc:=of_decide_eq_true h1;subst hc;refine⟨⟨45,cs,rfl,by decide+kernel⟩,cons (by decide) (hash (fl h3)),fun ws=>?_⟩;have p:decide (0<cs.length)=true:=by induction cs with
      |nil=>contradiction
      |cons=>exact decide_eq_true (succ_pos _)
     refine ER (cons_append ..) (ER (JK ..) (ER (if_neg (by decide+kernel) ..) (ER (if_neg (by decide+kernel) ..) (ER ((yM (by decide+kernel) cs ws (OD h3):run FI (cs++tl ws)=cs.length) ..) (ER (p ..) (ER (if_pos (show(decide (45=45)&&true)=true from rfl) ..) ?_))))));rfl
    ·obtain⟨h1,h2⟩:=and_eq_true_iff.mp h;obtain⟨a,b,c',d,f⟩:=RE h2;induction cs with
     |cons=>exact Bool.noConfusion h1
     |nil=>
      refine⟨⟨c,[],rfl,d⟩,cons f (fun U h=>(not_mem_nil h).elim),fun ws=>?_⟩;refine ER (cons_append ..) (ER (JK ..) (ER (a ..) (ER (if_neg Bool.false_ne_true ..) (ER (b ..) (ER (if_neg Bool.false_ne_true ..) (ER (decide_eq_false c' ..) (ER (Bool.false_and ..) (ER (if_neg Bool.false_ne_true ..) (ER (if_pos h2 ..) ?_)))))))));rfl
theorem Il{w:Str}(h:Tq w=true):Wd w∧Ht w=true:=by
 obtain⟨a,b,c⟩:=RG h;have t:Ht w=true:=decide_eq_true (by have:=c [];rwa [show tl []=[] from rfl,append_nil]at this);exact⟨⟨a,b,fun ws=>(c ws).trans (if_pos t).symm⟩,t⟩
theorem DL{t:Tk}(h:A3 t=true):Tq t.str=true:=by
 induction t with
 |nm w=>
  have h:o7 w=true:=h;show Tq w=true;unfold o7 at h;unfold Tq ch;revert h;cases w.cps.toList with
  |nil=>exact fun h=>Bool.noConfusion h
  |cons c cs=>exact fun h=>or_eq_true_iff.mpr (.inl (and_eq_true_iff.mp (and_eq_true_iff.mp h).1).1)
 |nu w=>
  have h:Q9 w=true:=h;show Tq w=true;unfold Q9 at h;unfold Tq ch;revert h;cases w.cps.toList with
  |nil=>exact fun h=>Bool.noConfusion h
  |cons c cs=>
   intro h;have h:=(and_eq_true_iff.mp (and_eq_true_iff.mp h).1).1;refine or_eq_true_iff.mpr (.inr (or_eq_true_iff.mpr ((or_eq_true_iff.mp h).imp id fun h=>or_eq_true_iff.mpr (.inl ?_))));have h:=and_eq_true_iff.mp h;have h1:=and_eq_true_iff.mp h.1;refine ER (of_decide_eq_true h1.1) (ER h1.2 (ER h.2 ?_));rfl
 |kw k=>induction k<;>decide+kernel
 |sg k=>induction k<;>decide+kernel
theorem Lo:∀(ts:Lk) (o:Nat),(∀t∈ts,A3 t=true)→∃l,ents o (ts.map Tk.str)= .ok l∧l++[jn "" (o+tK ts - 1)]=m8 o ts:=by
 intro rv;induction rv with
 |nil=>exact fun o o=>⟨[],rfl,rfl⟩
 |cons t ts ih=>
  intro o h;obtain⟨l,e,k⟩:=ih (o+t.str.length+1) fun x hx=>h x (.tail _ hx);refine⟨jn t.str o::l,?_,?_⟩
  ·show(if Ht t.str then(ents (o+t.str.length+1) (ts.map Tk.str)).map (jn t.str o:: ·)else .error o)=_;refine ER (if_pos (Il (DL (h t (.head _)))).2) (ER e ?_);rfl
  ·show jn t.str o::(l++_)=jn t.str o::m8 (o+t.str.length+1) ts;refine EL k ?_;have:o+tK (t::ts)=o+t.str.length+1+tK ts:=by simp only[tK,map_cons,sum_cons];lia
   exact ER this rfl
noncomputable def eK(ws:Ls):Nat:=(ws.map fun w=>w.length+1).sum
theorem U3:∀ws:Ls,(tl ws).length=eK ws:=by
 intro rv;induction rv with
 |nil=>exact rfl
 |cons w ws ih=>
  have:=ih
  show(ch w++tl ws).length+1=w.length+1+eK ws;refine ER (length_append ..) (ER (qr ..) (ER (ih ..) ?_));omega
theorem qt(ws:Ls):(Str.join " " ws).length=eK ws - 1:=by
 refine EL (qr ..) (ER (JI ..) ?_);induction ws with
 |nil=>rfl
 |cons w ws=>
  show(ch w++tl ws).length=_;have:=U3 ws;simp only[eK,length_append,map_cons,sum_cons,qr]at this ⊢;lia
theorem qu(ts:Lk):eK (ts.map Tk.str)=tK ts:=congrArg List.sum (map_map ..)
theorem Ck(ts:Lk):(JJ ts).length=tK ts - 1:=by rw[JJ,qt,qu]
noncomputable def names(L:List LB):Ls:=L.map (·.name)
def named(L:List LB)(w:Str):Int:=if decide (w∈names L)then((names L).idxOf w:Nat)else -1
noncomputable def nameOf:P→P
 | .inst _ ((_,x)::_)=>x
 |_=>.none
noncomputable def bD:Nat→List LB→List FR→List eQ→Lk→PR ((List LB×List FR)×List eQ)
 |0,_,_,_,r=>.err r
 |N+1,L,F,us,r=>if r.isEmpty then .ok ((L,F),us) r else if jC (.kw .lookup) r then(if decide (jo r.tail∈names L)then .err r.tail else(gq r.tail).bind fun x r'=>bD N (L++[x.1]) F (us++x.2) r')
  else(bO (.kw .gp) r).bind fun U r=>(ng r).bind fun x r'=>bD N L (F++[x]) (us++x.uses) r'
noncomputable def cW(L:List LB):List eQ→Option Nat
 |[]=>none
 |u::us=>if decide (wy u.1∈names L)then cW L us else some u.2
def JL(x:List LB×List FR):P:=.inst 91 [(2,.list ((qq x.1).map Mv)),(3,.list ((qq x.2).map US))]
section
variable {ts r:Lk}{i j n k a b t:Nat}{σ aj:LM}{S:Ln}{E:ME}{Q:MQ V}
theorem xV{ws:Ls}{gv:P}(hw:∀w∈ws,Wd w)(cS:ws.length≤100000)(short:(Str.join " " ws).length≤900000)
  (z:Lex (ents 0 ws) (fun l=>Q (.p .none) (σ++[.inst 320 [(12,.p (.list (l++[jn "" (Str.join " " ws).length]))),(13,.p gv),(1,.p (.int 0))]])) fun m=>E (.int (m:Int)) (σ++[.inst 320 []])):
  Run gW [.ref σ.length,.p (.str (Str.join " " ws)),.p gv] (σ++[.inst 320 []]) Q E:=by
 refine⟨Ak hw cS short (z.mono (fun l q=>jZ.mk _ _ _ rfl ba rfl (jZ.mk _ _ _ rfl (by refine ER set_push ?_;exact ba) rfl (jZ.mk _ _ _ rfl (by refine ER set_push (ER set_push ?_);exact ba) rfl (tL ?_)))) fun m e=>?_)⟩
 ·refine ER set_push (ER set_push (ER set_push (ER (take_of_length_le (by simp)) ?_)));exact q
 ·show E _ (List.take _ _);rw[take_length];exact e
theorem Lq(h1:a<σ.length)(h2:b<σ.length)(q:Q (.p .none) (σ++[.inst 91 [(2,.ref a),(3,.ref b)]])):Run jf [.ref σ.length,.ref a,.ref b] (σ++[.inst 91 []]) Q E:=by
 refine⟨jZ.mk _ _ _ rfl ba (congrArg (fun b=>Hp 91 2&&b&&true) (decide_eq_true h1)) (jZ.mk _ _ _ rfl (by refine ER set_push ?_;exact ba) (congrArg (fun b=>Hp 91 3&&b&&true) (decide_eq_true h2)) (tL ?_))⟩;refine ER set_push (ER set_push (ER (take_of_length_le (by simp)) ?_));exact q
theorem yN:∀l:Ls,zo (aq l)=some l:=by
 intro rv;induction rv with
 |nil=>exact rfl
 |cons a l ih=>exact congrArg (Option.map (a:: ·)) ih
theorem Lr(L:List LB):((L.map Mv).filter fun U=>true).map nameOf=aq (names L):=by
 rw[filter_eq_self.mpr fun U U=>rfl];unfold aq names;refine ER map_map (ER map_map ?_);rfl
theorem OE{L:List LB}{w:Str}(ht:σ[t]?=some (.inst 91 [(2,.ref a),(3,.ref b)]))(ha:σ[a]?=some (.list (L.map Mv)))(hL:L.length≤500000)(q:Q (.p (.int (named L w))) σ):Run gJ [.ref t,.p (.str w)] σ Q E:=by
 have lim:L.length≤bL:=le_trans hL (bl rfl);have lim':(L.map Mv).length≤bL:=by rw[length_map];exact lim
 unfold named at q;refine⟨bR.mk _ _ _ (bH ht) rfl (.mk _ (.ref ha) lim' ⟨comp_map (g:=fun U=>true) (f:=nameOf) (base:=[]) (fun U U=>rfl) (fun U=>rfl) (fun m e=>by obtain rfl:=Option.some.inj e;exact ha) _ [] [] (.inl rfl) (by simpa using lim') (fun U U U q=>q) (fun y hy U K q=>?_) ?_⟩)⟩
 ·obtain⟨y,hz,rfl⟩:=mem_map.mp hy;exact bR.mk _ _ _ rfl rfl q
 ·refine ER (nil_append ..) (ER (Lr ..) ?_);refine aF.pp (Dw (names L) w) (aT.mk (fun e=>⟨.index _ rfl,.index _ _ _ rfl rfl (yN _) (of_decide_eq_true e) (by unfold names;rw[length_map];exact lim) (dc ?_)⟩) fun e=>?_)
  ·rw[if_pos e]at q;exact q
  ·rw[e]at q;exact dc q
theorem Gv{L:List LB}{w:Str}:decide (named L w≥0)=decide (w∈names L):=by
 unfold named;cases decide (w∈names L)with
 |true=>exact decide_eq_true (Int.natCast_nonneg _)
 |false=>rfl
theorem OF{L:List LB}{w:Str}:decide (named L w<0)= !decide (w∈names L):=by refine EL Gv (EL decide_not ?_);exact decide_eq_decide.mpr Int.not_le.symm
theorem U4(h:At ts σ i r):(!decide (jo r= ""))= !r.isEmpty:=by
 induction r with
 |nil=>rfl
 |cons t r=>exact congrArg (!·) (decide_eq_false (fT (h.hd rfl)))
theorem Lu{x:LB×List eQ}{r':Lk}(h:gq r= .ok x r'):x.2.length+r'.length<r.length:=by
 obtain⟨nm,r1,e1,h⟩:=aV h;obtain⟨fl,r2,e2,h⟩:=aV h;obtain⟨_,r3,e3,h⟩:=aV h;obtain⟨y,r4,e4,h⟩:=aV h;have l1:=nf e1;have l2:r2.length≤r1.length:=by
  unfold Cj at e2;split at e2
  ·exact le_trans (vc e2) (dI _)
  ·cases e2;exact le_refl _
 have l3:=eZ e3
 have l4:∀(N:Nat) {rows:List (Str×P)} {us:List eQ} {r:Lk} {y:List (Str×P)×List eQ} {r':Lk},kO N rows us r= .ok y r'→y.2.length+r'.length≤us.length+r.length:=by
  intro N;induction N with
  |zero=>intro rows us r y r' h;contradiction
  |succ N ih=>
   intro rows us r y r' h;have h:(if i6 r then(lu r).bind fun x r'=>(if cj rows x.1 then .ok () r' else .err r:PR Unit).bind fun U r'=>kO N (rows++[x.1]) (us++x.2) r' else .ok (rows,us) r)=_:=h;split at h
   ·obtain⟨x,r2,e,h⟩:=aV h;obtain⟨_,r3,e3,h⟩:=aV h;split at e3<;>cases e3;have a:=ih h;have b:=(Ik e).2;rw[length_append]at a;lia
   ·cases h;exact le_refl _
 have l4:=l4 _ e4
 split at h
 ·contradiction
 ·obtain⟨_,r5,e5,h⟩:=aV h;injection h with h;subst h;have l5:=eZ e5;rw[length_nil]at l4;show y.2.length+_< _;grind only
theorem Lw{x:FR}{r':Lk}(h:ng r= .ok x r'):x.uses.length+r'.length<r.length:=by
 obtain⟨tg,r1,e1,h⟩:=aV h;obtain⟨sc,r2,e2,h⟩:=aV h;obtain⟨la,r3,e3,h⟩:=aV h;obtain⟨_,r4,e4,h⟩:=aV h;obtain⟨us,r5,e5,h⟩:=aV h;have tag:∀{r:Lk} {w:Str} {r':Lk},Dz r= .ok w r'→r'.length≤r.length:=fun {r w r'} h=>by
  unfold Dz at h;split at h
  ·split at h<;>cases h;exact dI _
  ·contradiction
 have or_:∀{c:Tk} {d:Str} {r:Lk} {w:Str} {r':Lk},Mu c d r= .ok w r'→r'.length≤r.length:=fun {c d r w r'} h=>by
  unfold Mu at h;split at h
  ·exact le_trans (tag h) (dI _)
  ·cases h;exact le_refl _
 have l5:∀(N:Nat) {us Yb:List eQ} {r r':Lk},jE N us r= .ok Yb r'→Yb.length+r'.length≤us.length+r.length:=by
  intro N;induction N with
  |zero=>intro us Yb r r' h;contradiction
  |succ N ih=>
   intro us Yb r r' h;have h:(if EM r then jE N (us++[(jo r,r.length)]) r.tail else .ok us r)=_:=h;split at h
   ·rename_i e;have a:=ih h;rw[length_append,length_singleton,length_tail]at a;have:r.length≠0:=fun z=>z7 e (List.eq_nil_of_length_eq_zero z);omega
   ·cases h;exact le_refl _
 have l1:=tag e1
 have l2:=or_ e2
 have l3:=or_ e3
 have l4:=eZ e4
 have l5:=l5 _ e5
 rw[length_nil]at l5;split at h
 ·contradiction
 ·obtain⟨_,r6,e6,h⟩:=aV h;injection h with h;subst h;have l6:=eZ e6;show us.length+_< _;grind only
end
theorem yp{a x:Nat}(h:a≠x):a∉[x]:=fun m=>h (mem_singleton.mp m)
theorem Lx{a x y:Nat}(h:a≠x)(h':a≠y):a∉[x,y]:=fun m=>(mem_cons.mp m).elim h (yp h')
theorem vf{k m n:Nat}(h:m≠n):k+m≠k+n:=fun e=>h (Nat.add_left_cancel e)
section
variable {ts:Lk}{k:Nat}{aj:LM}{E:ME}
structure RS (ts:Lk) (k:Nat) (aj σ:LM) (L:List LB) (F:List FR) (us:List eQ) (r:Lk):Prop where
 now:ik ts k [k,k+1,k+2,k+4] aj σ r
 la:σ[k+1]?=some (.list (L.map Mv))
 fe:σ[k+2]?=some (.list (F.map US))
 tr:σ[k+3]?=some (.inst 91 [(2,.ref (k+1)),(3,.ref (k+2))])
 uses:σ[k+4]?=some (.list (us.map (e9 ts)))
 cS:L.length+F.length+(us.length+r.length)≤400000
theorem RS.one{L F us r r' σ}(w:RS ts k aj σ L F us r){ah}(s:bC [k] σ ah)(a:At ts ah k r')(h:r'.length≤r.length):RS ts k aj ah L F us r':=
 ⟨w.now.step s a,s.get w.la (yp (vf (n:=0) (by decide))),s.get w.fe (yp (vf (n:=0) (by decide))),s.get w.tr (yp (vf (n:=0) (by decide))),s.get w.uses (yp (vf (n:=0) (by decide))),by have:=w.cS;omega⟩
theorem Xq:∀j∈[k,k+4],j∈[k,k+1,k+2,k+4]:=fun j h=>(mem_cons.mp h).elim (fun e=>e▸ .head _) fun h=>mem_singleton.mp h▸ .tail _ (.tail _ (.tail _ (.head _)))
theorem Im{Qf:(List LB×List FR)×List eQ→Lk→LM→Prop}{k0:Nat}{g1 g2:V}{Q:MQ Out}(N:Nat):∀(r:Lk) (L:List LB) (F:List FR) (us:List eQ) (σ:LM),RS ts k aj σ L F us r→r.length<N→
  cO ts k [k,k+1,k+2,k+4] aj (bD N L F us r) Qf E→(∀x r' ah,RS ts k aj ah x.1.1 x.1.2 x.2 r'→Qf x r' (ah.take aj.length)→Q (.next [(28,g1),(13,g2),(36,.ref k),(51,.ref (k+3)),(41,.ref (k+4))]) ah)→
  fk N (kC k0) (kD k0) [(28,g1),(13,g2),(36,.ref k),(51,.ref (k+3)),(41,.ref (k+4))] σ Q (back aj.length E):=by
 induction N with
 |zero=>exact fun r L F us σ w lt=>absurd lt (not_lt_zero _)
 |succ N ih=>
  intro r L F us σ w lt z q;have a:=w.now.at_;refine a.bJ rfl rfl (kM a (aF.pp (eY _ _) (U4 a▸aT.mk (fun e=>?_) fun e=>q ((L,F),us) r σ w ((z.t (Cg e)).done w.now))));have z:=z.f (nb e);have cS:=w.cS;refine a.bJ rfl rfl (oN (c:=.kw .lookup) a rfl (fun e fU s1 a1=>aT.mk (fun U=>?_) fun x=>Bool.noConfusion x) fun e=>aT.mk (fun x=>Bool.noConfusion x) fun U=>?_)
  ·have z:=z.t e;have w1:=w.one s1 a1 (dI r);refine⟨91,_,_,bH w1.tr,rfl,rfl,a1.bJ rfl rfl (kM a1 (OE w1.tr w1.la (by omega) (aF.pp vW (Gv▸aT.mk (fun e=>a1.bJ rfl rfl (w1.now.fault (z.t e))) fun e=>?_))))⟩;have few1:=w1.cS;refine bR.mk _ _ _ (bH w1.tr) rfl ⟨.append _ (aB w1.la),Ry a1 w1.uses (vf (n:=0) (by decide)) (by refine ER (length_map ..) ?_;omega) (cO.Zo Xq w1.now (z.f e) fun x r2 σ2 ex s2 w2 z hu=>?_)⟩;have less:=Lu ex;have la2:=s2.get w1.la (Lx (vf (n:=0) (by decide)) (vf (by decide)));exact .append _ _ _ rfl rfl la2 (by rw[length_map];simp only[bL];omega) (ih r2 _ _ _ _ ⟨w2.Dv (.tail _ (.head _)) (vf (n:=0) (by decide)),by refine ER (fE la2) (ER map_append ?_);rfl,(getElem?_set_ne (vf (by decide))).trans (s2.get w1.fe (Lx (vf (n:=0) (by decide)) (vf (by decide)))),(getElem?_set_ne (vf (by decide))).trans (s2.get w1.tr (Lx (vf (n:=0) (by decide)) (vf (by decide)))),(getElem?_set_ne (vf (by decide))).trans (ER hu (ER map_append rfl)),by
     refine ER length_append (ER length_append (ER length_singleton ?_));omega⟩ (by have:=dI r;omega) z q)
  ·refine a.bJ rfl rfl (u6 (c:=.kw .gp) a rfl rfl (cO.go w.now (z.f e) fun U r1 fU e1 s1 n1 z=>?_));have less1:=eZ e1;have w1:=w.one s1 n1.at_ (le_of_lt less1);have few1:=w1.cS;refine bR.mk _ _ _ (bH w1.tr) rfl ⟨.append _ (aB w1.fe),Ov w1.now.at_ w1.uses (vf (n:=0) (by decide)) (by refine ER (length_map ..) ?_;omega) (cO.Zo Xq w1.now z fun x r2 σ2 ex s2 w2 z hu=>?_)⟩;have less:=Lw ex;have fe2:=s2.get w1.fe (Lx (vf (n:=0) (by decide)) (vf (by decide)));exact .append _ _ _ rfl rfl fe2 (by rw[length_map];simp only[bL];omega) (ih r2 _ _ _ _ ⟨w2.Dv (.tail _ (.tail _ (.head _))) (vf (n:=0) (by decide)),(getElem?_set_ne (vf (by decide))).trans (s2.get w1.la (Lx (vf (n:=0) (by decide)) (vf (by decide)))),by refine ER (fE fe2) (ER map_append ?_);rfl,(getElem?_set_ne (vf (by decide))).trans (s2.get w1.tr (Lx (vf (n:=0) (by decide)) (vf (by decide)))),(getElem?_set_ne (vf (by decide))).trans (ER hu (ER map_append rfl)),by
     refine ER length_append (ER length_append (ER length_singleton ?_));omega⟩ (by omega) z q)
theorem U5(w:Str):(wy w).length≤64:=by
 unfold wy;refine iT (fun _=>?_) fun _=>?_
 ·assumption
 ·exact zero_le _
def Yc(p:Option Nat)(A:Prop)(B:Nat→Prop):Prop:=match p with
 |none=>A
 |some n=>B n
theorem Ly{L:List LB}{g1 g2 g3 g4:V}{t a b k0:Nat}{σ:LM}{all:Lp}{wt:Option Nat}{Q:MQ Out}(hL:L.length≤500000)(ht:σ[t]?=some (.inst 91 [(2,.ref a),(3,.ref b)]))(ha:σ[a]?=some (.list (L.map Mv)))(hw:mO all wt σ)(us:List eQ):
  ∀t',(t'=[]∨∃v w,t'=[(4,v),(1,w)])→Yc (cW L us) (∀t',Q (.next ((28,g1)::(13,g2)::(36,g3)::(51,.ref t)::(41,g4)::t')) σ) (fun n=>∀ah,Ext [] σ ah→E (.int (yn ts n)) ah)→
  bU all wt (.many [4,1]) (gY k0) (us.map (e9 ts)) ((28,g1)::(13,g2)::(36,g3)::(51,.ref t)::(41,g4)::t') σ Q E:=by
 induction us with
 |nil=>exact fun t' U z=>⟨hw,z t'⟩
 |cons u us ih=>
  intro t' h z;have go:gY k0 [(28,g1),(13,g2),(36,g3),(51,.ref t),(41,g4),(4,.p (.str (wy u.1))),(1,.p (.int (yn ts u.2)))] σ (cB (bU all wt (.many [4,1]) (gY k0) (us.map (e9 ts))) Q E) E:=by
   have z:Yc (if decide (wy u.1∈names L)then cW L us else some u.2) _ _:=z;refine⟨91,_,_,bH ht,rfl,rfl,OE ht ha hL (aF.pp nM (OF▸aT.mk (fun e=>?_) fun e=>?_))⟩
   ·rw[nb e]at z;exact aU.pp (add_str (le_trans (add_le_add_left (U5 _) _) (bl rfl))) (QR.mk _ _ rfl ⟨_,_,rfl,ba,z _ ((Ext.refl _ _).push.set (le_refl _))⟩)
   ·rw[Cg e]at z;exact ih [(4,_),(1,_)] (.inr ⟨_,_,rfl⟩) z
  rcases h with rfl|⟨v,w,rfl⟩<;>exact .mk hw _ rfl go
end
def dD(ts:Lk):Except Nat (List LB×List FR):=match bD (ts.length+1) [] [] [] ts with
 | .err r=>.error r.length
 | .ok x _=>match cW x.1.1 x.2 with
  |some n=>.error n
  |none=>.ok x.1
def Told{α:Type}(p:Except Nat α)(Q:α→Prop)(E:Nat→Prop):Prop:=match p with
 | .ok x=>Q x
 | .error n=>E n
structure o8 (ts:Lk):Prop where
 ok:∀t∈ts,A3 t=true
 cS:ts.length≤10000
theorem DM:∀ts:Lk,(∀t∈ts,A3 t=true)→tK ts≤65 * ts.length:=by
 intro rv;induction rv with
 |nil=>exact fun o=>le_refl _
 |cons t ts ih=>
  intro h;have a:=Ce (h t (.head _));have b:=ih fun x hx=>h x (.tail _ hx);simp only[tK,map_cons,sum_cons,length_cons]at b ⊢;lia
section
variable {ts:Lk}{k:Nat}{σ ah aj:LM}{S:Ln}{E:ME}{Q:MQ V}
theorem o8.short(h:o8 ts):(JJ ts).length≤900000:=by rw[Ck];have:=DM ts h.ok;have:=h.cS;omega
theorem Ext.under(h:Ext S aj ah)(hS:∀k∈S,σ.length≤k){l:LM}(e:aj=σ++l):ah.take σ.length=σ:=by
 refine List.ext_getElem? fun j=>?_;rw[getElem?_take];refine iT (fun _=>?_) fun _=>?_
 ·rename_i hj;rw[h.2 j (by refine ER e (ER length_append ?_);exact Nat.lt_add_right _ hj) (fun z=>absurd (hS j z) (Nat.not_le.mpr hj)),e,getElem?_append_left hj]
 ·rw[List.getElem?_eq_none (Nat.le_of_not_lt ‹_›)]
theorem Lz{k':Nat}(h:k≤k'):back k' (back k E)=back k E:=funext fun x=>funext fun σ=>congrArg (E x) (ER List.take_take (ER (min_eq_left h) rfl))
theorem LA{t j:Nat}{g1 g2:V}{EN l5:LM}(ht:t=σ.length+3)(hj:j=σ.length+4)(h5:EN=σ++l5)(w:RS ts σ.length EN EN [] [] [] ts)(z:Told (dD ts) (fun x=>Q (.p (JL x)) σ) fun n=>E (.int (yn ts n)) σ):
  (ae (gP (kC σ.length) (kD σ.length)) (jm σ.length)) [(28,g1),(13,g2),(36,.ref σ.length),(51,.ref t),(41,.ref j)] EN (fun o ah=>cz σ.length ah o Q) (back σ.length E):=by
 subst ht hj;have hS:∀k∈[σ.length,σ.length+1,σ.length+2,σ.length+4],σ.length≤k:=fun k h=>by simp at h;lia
 have u:∀{ah},Ext [σ.length,σ.length+1,σ.length+2,σ.length+4] EN ah→ah.take σ.length=σ:=fun h=>h.under hS h5;have lp:=Im (Qf:=fun x U U=>Yc (cW x.1.1 x.2) (Q (.p (JL x.1)) σ) fun n=>E (.int (yn ts n)) σ) (E:=back σ.length E) (g1:=g1) (g2:=g2) (k0:=σ.length) (Q:=cB (jm σ.length) (fun o ah=>cz σ.length ah o Q) (back σ.length E)) (ts.length+1) ts [] [] [] EN w (lt_succ_self _) ?_ ?_
 ·rw[Lz (by refine ER h5 (ER length_append ?_);exact le_add_right _ _)]at lp;exact⟨_,lp⟩
 ·unfold dD at z;generalize e:bD (ts.length+1) [] [] [] ts=gg;induction gg with
  |err r=>
   rw[e]at z;intro ah s;show E _ (ah.take σ.length);refine ER (u ((Ext.refl _ _).same s)) (ER Tj ?_);exact z
  |ok x r=>
   replace z:=e▸z
   intro ah s a;show Yc (cW x.1.1 x.2) _ _;cases e2:cW x.1.1 x.2<;>(simp only[e2]at z;exact z)
 ·intro x r' ah w' q;have cS:=w'.cS;refine .mk _ (.ref w'.uses) (by simp only[length_map,bL];omega) ⟨Ly (by omega) w'.tr w'.la (fun m e=>by obtain rfl:=Option.some.inj e;exact w'.uses) x.2 [] (.inl rfl) ?_⟩;generalize e:cW x.1.1 x.2=gg;induction gg with
  |none=>
   rw[e]at q;intro t';have la:ah[σ.length+1]?=some (.list ((qq x.1.1).map Mv)):=by refine ER (q9 (by omega)) ?_;exact w'.la
   have fe:ah[σ.length+2]?=some (.list ((qq x.1.2).map US)):=by refine ER (q9 (by omega)) ?_;exact w'.fe
   refine⟨_,_,.P7 (.inst w'.tr (le_add_right _ _) (.cons (.list ((getElem?_set_ne (vf (by decide))).trans la) (le_add_right _ _)) (.cons (.list ((getElem?_set_ne (vf (by decide))).trans ((getElem?_set_ne (vf (by decide))).trans fe)) (le_add_right _ _)) .nil))),?_⟩;refine ER (take_set_of_le (le_add_right _ _)) (ER (take_set_of_le (le_add_right _ _)) (ER (take_set_of_le (le_add_right _ _)) (ER (u w'.now.ext) ?_)));exact q
  |some n=>
   rw[e]at q;intro bj s;show E _ (bj.take σ.length);rw[(w'.now.ext.trans (s.mono fun U h=>(not_mem_nil h).elim)).under hS h5];exact q
theorem Gw(h:o8 ts)(z:Told (dD ts) (fun x=>Q (.p (JL x)) σ) fun n=>E (.int (yn ts n)) σ):Run nY [.p (.str (JJ ts)),.p cN] σ Q E:=by
 have cS:=h.cS
 obtain⟨l,e1,e2⟩:=Lo ts 0 h.ok;have e2:l++[jn "" (Str.join " " (ts.map Tk.str)).length]=m8 0 ts:=by refine EL (e2 ..) (ER (zero_add ..) (EL (Ck ..) ?_));rfl
 have ws:∀w∈ts.map Tk.str,Wd w:=fun w hw=>by obtain⟨t,ht,rfl⟩:=mem_map.mp hw;exact(Il (DL (h.ok t ht))).1
 have g:∀{o1 o2 o3 o4 o5:MO} k {x},[o1,o2,o3,o4,o5][k]?=some x→(σ++[o1]++[o2]++[o3]++[o4]++[o5])[σ.length+k]?=some x:=fun {o1 o2 o3 o4 o5} k x h=>by
  have:σ++[o1]++[o2]++[o3]++[o4]++[o5]=σ++[o1,o2,o3,o4,o5]:=by simp only[append_assoc,cons_append,nil_append]
  rw[this,List.getElem?_append_right (le_add_right _ _),Nat.add_sub_cancel_left];exact h
 refine⟨xV ws (by rw[length_map];omega) h.short ?_⟩;refine ER e1 ?_;refine⟨rfl,?_⟩;rw[((by unfold rd;refine ER (e2 ..) (ER (Nat.sub_self ..) ?_);rfl):MO.inst 320 [(12,.p (.list (l++[jn "" (Str.join " " (ts.map Tk.str)).length]))),(13,.p cN),(1,.p (.int 0))]=rd ts ts)];refine az.p0 (az.p0 (Lq (by simp) (by simp) ⟨rfl,az.p0 (LA (by simp) (by simp) (l5:=[rd ts ts,.list [],.list [],.inst 91 [(2,.ref (σ.length+1)),(3,.ref (σ.length+2))],.list []]) (by simp) ?_ z)⟩));exact⟨⟨⟨g 0 rfl,List.suffix_refl _,h.ok,by omega⟩,.refl _ _,.head _,by simp⟩,g 1 rfl,g 2 rfl,(g 3 rfl).trans (by simp),g 4 rfl,by simp only[length_nil];omega⟩
end
noncomputable def DN:P→P
 | .inst _ [(_,a),(_,b)]=>.tup [a,b]
 |_=>.none
def Al:P→P
 | .inst _ [(_,a),(_,b),(_,.list l)]=>.tup [a,b,.tup (l.map DN)]
 |_=>.none
noncomputable def OG:P→P
 | .inst _ [(_,a),(_,b),(_,c),(_,d)]=>.tup [a,b,c,d]
 |_=>.none
noncomputable def fG(x:Str×P):P:=.tup [.str x.1,x.2]
def U6(b:LB):P:=.tup [.str b.name,.int b.flag,.tup ((qq b.rows).map fG)]
def Yd(f:FR):P:=.tup [.str f.tag,.str f.bk,.str f.aC,.tup (aq (f.uses.map (·.1)))]
def Tt(x:List LB×List FR):P:=.tup [.tup ((qq x.1).map U6),.tup ((qq x.2).map Yd)]
def tN(ts:Lk):P:=match dD ts with
 | .ok x=>Tt x
 | .error n=>.int (yn ts n)
def Zp(ws:Ls)(k:Nat):Nat:=if decide (k<ws.length)then eK (ws.take k)else eK ws - 1
section
variable {ts:Lk}{ws:Ls}{k m:Nat}{σ:LM}{E:ME}{Q:MQ V}
theorem OH{α:Type}{k0 nm y:Nat}{mt:E6}{nK:α→P}{told:P→P}{l:List α}{K:MQ V}(hy:∀v x:V,bx [(y,v)] y x=[(y,x)])(hg:∀x:V,bW [(y,x)] y=some x)(hl:l.length≤400000)(run:∀x {Q:MQ V},Q (.p (told (nK x))) σ→Nh mt nm σ (.p (nK x)) fun f=>Run f [.p (nK x)] σ Q E)(q:K (.p (.tup (l.map fun x=>told (nK x)))) σ):
  Nj σ (.p (.list (l.map nK))) (fun src σ=>BY k0 src (.one y) bV (aM mt nm (aa y) []) [] σ (fun l σ=>dC .tuple σ (.p (.list l)) K) E):=by
 have lim:(l.map nK).length≤bL:=by rw[length_map];exact le_trans hl (bl rfl)
 refine .mk _ (.list _) lim ⟨comp_map (g:=fun U=>true) (f:=told) (base:=[]) hy (fun U=>rfl) aA _ [] [] (.inl rfl) (by simpa using lim) (fun U U U q=>q) (fun x hx U K q=>?_) ?_⟩
 ·obtain⟨x,_,rfl⟩:=mem_map.mp hx;show Option.elim (bW [(y,V.p (nK x))] y) _ _;refine ER (hg ..) ?_;exact run x q
 ·refine ER (nil_append ..) (ER (filter_eq_self.mpr fun U U=>rfl ..) (ER (map_map ..) ?_));exact dC.pp (tuple_list (by rw[length_map];exact le_trans hl (bl rfl))) q
theorem LD{f:FR}(q:Q (.p (Yd f)) σ):Run lG [.p (US f)] σ Q E:=
 ⟨bR.mk _ _ _ rfl rfl (bR.mk _ _ _ rfl rfl (bR.mk _ _ _ rfl rfl (bR.mk _ _ _ rfl rfl (az.p4 (dc q)))))⟩
theorem LF{b:LB}(q:Q (.p (U6 b)) σ):Run j8 [.p (Mv b)] σ Q E:=
 ⟨bR.mk _ _ _ rfl rfl (bR.mk _ _ _ rfl rfl (bR.mk _ _ _ rfl rfl (OH (nK:=Aa) (told:=DN) (fun U U=>rfl) (fun U=>rfl) (DJ _) (fun x {Q} q=>⟨173,_,_,rfl,rfl,rfl,Xj q⟩) (az.p3 (dc q)))))⟩
theorem xW(b:LB):Al (Mv b)=U6 b:=by
 show P.tup [_,_,.tup (((qq b.rows).map Aa).map DN)]=_;refine ER map_map ?_;rfl
theorem LG{x:List LB×List FR}(q:Q (.p (Tt x)) σ):Run oH [.p (JL x)] σ Q E:=
 ⟨bR.mk _ _ _ rfl rfl (OH (told:=Al) (fun U U=>rfl) (fun U=>rfl) (DJ _) (fun x {Q} q=>⟨131,_,_,rfl,rfl,rfl,LF (xW x▸q)⟩) (bR.mk _ _ _ rfl rfl (OH (told:=OG) (fun U U=>rfl) (fun U=>rfl) (DJ _) (fun x {Q} q=>⟨201,_,_,rfl,rfl,rfl,LD q⟩)
  (az.p2 (dc (by
   have:(qq x.1).map (fun x=>Al (Mv x))=(qq x.1).map U6:=List.map_congr_left fun x U=>xW x;refine ER this ?_;exact q))))))⟩
theorem OI:∀ws:Ls,(ws.map (·.length)).sum+ws.length * (" " :Str).length=eK ws:=by
 intro rv;induction rv with
 |nil=>exact rfl
 |cons w ws ih=>
  have e:(" " :Str).length=1:=rfl;have:=ih;simp only[eK,map_cons,sum_cons,length_cons,e]at this ⊢;lia
theorem JM{K:MQ V}(h:eK ws≤900000)(q:K (.p (.str (Str.join " " ws))) σ):Nd (.p (.str " ")) (.p (.list (aq ws))) σ K .join:=
 .join _ _ _ rfl rfl (yN _) (by refine ER (OI ..) ?_;exact le_trans h (bl rfl)) q
theorem o8.off(h:o8 ts):eK (ts.map Tk.str)≤700000:=by rw[qu];have:=DM ts h.ok;have:=h.cS;lia
theorem Io(h:o8 ts)(q:Q (.p (tN ts)) σ):Run fB [.p (.list (aq (ts.map Tk.str)))] σ Q E:=by
 refine⟨rfl,⟨.join _ rfl,JM (le_trans h.off (bl rfl)) (Gw h ?_)⟩⟩;unfold tN at q;generalize e:dD ts=gg;induction gg with
 |ok x=>
  rw[e]at q;exact⟨91,_,_,rfl,rfl,rfl,LG (aF.pp CP (aT.mk (fun U=>dc q) fun x=>Bool.noConfusion x))⟩
 |error n=>
  rw[e]at q;exact aF.pp CP (aT.mk (fun x=>Bool.noConfusion x) fun U=>dc q)
theorem LH(hw:∀w∈ws,Wd w)(cS:ws.length≤100000)(h:eK ws≤900000)(e:ents 0 ws= .error m)(q:Q (.p (.int (m:Int))) σ):Run fB [.p (.list (aq ws))] σ Q E:=by
 refine⟨rfl,⟨.join _ rfl,JM h ⟨xV hw cS (by rw[qt];omega) ?_⟩⟩⟩;refine ER e ?_;have body:sG σ.length [(12,.p (.list (aq ws))),(43,.p (.int m))] ((σ++[MO.inst 320 []]).take σ.length) (fun o ah=>cz σ.length ah o Q) (back σ.length E):=by refine ER take_left ?_;exact aF.pp CP (aT.mk (fun x=>Bool.noConfusion x) fun U=>dc q)
 exact body
theorem JN{a:Int}:cD .Eq (.int a) (.int a) true:=by
 have:Hz (.int a) (.int a)=true:=decide_eq_true rfl;exact this▸ip rfl rfl (bl rfl)
theorem qw(a b:Ls):eK (a++b)=eK a+eK b:=by simp[eK]
theorem LI(ws:Ls)(k:Nat):eK (ws.take k)≤eK ws:=by
 conv=>rhs;rw[←List.take_append_drop k ws]
 rw[qw];exact le_add_right _ _
theorem JO:∀ws:Ls,ws.length≤eK ws:=by
 intro rv;induction rv with
 |nil=>exact le_refl _
 |cons w ws ih=>exact by have:=ih;simp only[eK,map_cons,sum_cons,length_cons]at this ⊢;grind only
theorem bc(ws:Ls):(aq ws).length=ws.length:=length_map _
theorem Gx(h:eK ws≤900000):(aq ws).length≤bL:=by rw[bc];exact le_trans (JO ws) (le_trans h (bl rfl))
theorem RH(h:eK ws≤800000)(q:Q (.p (.int (eK (ws.take k):Nat))) σ):Run zH [.p (.list (aq ws)),.p (.int (k:Int))] σ Q E:=by
 refine⟨aF.pp cmp_gt (aT.mk (fun e=>⟨.join _ rfl,jK.mk _ _ _ _ rfl rfl rfl (nZ (Gx (le_trans h (bl rfl)))) (az.p1 (aU.pp (add_list ?_) ?_))⟩) fun e=>dc ?_)⟩
 ·refine ER (length_take ..) (ER (length_singleton ..) (ER (bc ..) ?_));have:=JO ws;exact le_trans (add_le_add_right (le_trans (min_le_right _ _) (le_trans this h)) 1) (bl rfl)
 ·have e1:(aq ws).take k++[P.str ""]=aq (ws.take k++[("" :Str)]):=by simp only[aq,map_append,map_take,map_cons,map_nil]
  have e2:eK (ws.take k++[("" :Str)])=eK (ws.take k)+1:=qw _ _;have o:=LI ws k;refine ER e1 ?_;have e3:(Str.join " " (ws.take k++[("" :Str)])).length=eK (ws.take k):=by refine ER (qt ..) (ER (e2 ..) ?_);rfl
  exact JM (by rw[e2];lia) (dC.pp (len_str (by rw[e3];exact le_trans o (le_trans h (bl rfl)))) (dc (by refine ER e3 ?_;exact q)))
 ·have:k=0:=by have:=of_decide_eq_false e;grind only
  subst this;exact q
theorem OJ(hh:∀{Q:MQ V} {E:ME},Q (.p (.int (m:Int))) σ→Run fB [.p (.list (aq ws))] σ Q E)(h:eK ws≤800000)(e:m=Zp ws k)(q:Q (.p (.bool true)) σ):Run aD [.p (.list (aq ws)),.p (.int (k:Int))] σ Q E:=by
 refine⟨hh (dC.pp (len_list (Gx (le_trans h (bl rfl)))) (aF.pp nM (aT.mk (fun e'=>RH h (aF.pp ?_ (dc q))) fun e'=>⟨.join _ rfl,JM (le_trans h (bl rfl)) (dC.pp (len_str ?_) (aF.pp ?_ (dc q)))⟩)))⟩
 ·have:m=eK (ws.take k):=e.trans (if_pos (decide_eq_true (by have:=of_decide_eq_true e';rw[bc]at this;omega)));refine ER this ?_;exact JN
 ·rw[qt];exact le_trans (sub_le _ _) (le_trans h (bl rfl))
 ·have:m=(Str.join " " ws).length:=(e.trans (if_neg (fun z=>by have:=of_decide_eq_false e';rw[bc]at this;have:=of_decide_eq_true z;omega))).trans (qt ws).symm;refine ER this ?_;exact JN
theorem rh(h:o8 ts)(hk:k≤ts.length)(he:dD ts= .error (ts.length - k))(q:Q (.p (.bool true)) σ):Run aD [.p (.list (aq (ts.map Tk.str))),.p (.int (k:Int))] σ Q E:=by
 have e1:tN ts= .int (yn ts (ts.length - k):Nat):=by unfold tN;rw[he]
 refine OJ (m:=yn ts (ts.length - k)) (fun q=>Io h (by refine ER e1 ?_;exact q)) (le_trans h.off (bl rfl)) ?_ q;unfold yn Zp;refine ER (length_map ..) ?_;by_cases h1:k<ts.length
 ·exact ER (if_neg (by omega) ..) (ER (if_pos (decide_eq_true h1) ..) (EL (map_take ..) (ER (qu ..) (ER (Nat.sub_sub_self hk ..) rfl))))
 ·exact ER (if_pos (by omega) ..) (ER (if_neg (fun z=>h1 (of_decide_eq_true z)) ..) (ER (qu ..) rfl))
end
inductive Ends {α:Type} (s:Bool):PR α→Prop
 |err:Ends s (.err [])
 |ok (h:s=true) (a:α):Ends s (.ok a [])
noncomputable def lz:Option Tk→Bool:=fun U=>true
noncomputable def Ip(c:Tk):Option Tk→Bool:=fun o=> !decide (o=some c)
def U7:Option Tk→Bool:=fun o=> !EM o.toList
structure Rd {α:Type} (s:Bool) (g:Option Tk→Bool) (p:Lk→PR α) (t:Lk) (a:Nat→α):Prop where
 acc:∀r,g r.head?=true→p (t++r)= .ok (a r.length) r
 cut:∀q,q <+:t→q≠t→Ends s (p q)
section
variable {α β:Type}{s s':Bool}{g g':Option Tk→Bool}{p:Lk→PR α}{t u:Lk}{a:Nat→α}{k:α→Lk→PR β}{b:Nat→β}
theorem pre_app{α:Type}{q a b:List α}(h:q <+:a++b):(q <+:a∧q≠a)∨∃q',q=a++q'∧q' <+:b:=by
 rcases List.prefix_or_prefix_of_prefix h (prefix_append a b)with h1|⟨q',rfl⟩
 ·by_cases e:q=a
  ·exact .inr ⟨[],e.trans (append_nil _).symm,List.nil_prefix⟩
  ·exact .inl ⟨h1,e⟩
 ·exact .inr ⟨q',rfl,(List.prefix_append_right_inj a).mp h⟩
theorem bS{α:Type}{q b:List α}{a:α}(h:q <+:a::b):q=[]∨∃q',q=a::q'∧q' <+:b:=by
 induction q with
 |nil=>exact .inl rfl
 |cons c q=>exact .inr ⟨q,congrArg (· ::q) (List.cons_prefix_cons.mp h).1,(List.cons_prefix_cons.mp h).2⟩
theorem Gy{q u:Lk}(h:q <+:u)(h0:g none=true)(hu:g u.head?=true):g q.head?=true:=by
 induction q with
 |nil=>exact h0
 |cons c q=>
  obtain⟨z,rfl⟩:=h;exact hu
theorem Ends.bind{r:PR α}(h:Ends s' r)(hs:∀a,Ends s (k a [])):Ends s (r.bind k):=by
 induction h with
 |err=>exact .err
 |ok _ a=>exact hs a
theorem Ends.map{r:PR α}{f:α→β}(h:Ends s r):Ends s (r.bind fun x r=>.ok (f x) r):=by
 induction h with
 |err=>exact .err
 |ok hs a=>exact .ok hs _
theorem Ends.soft{r:PR α}(h:Ends false r):Ends s r:=by
 induction h with
 |err=>exact .err
 |ok z=>contradiction
structure Gz (g g':Option Tk→Bool) (u:Lk):Prop where
 pre:∀q,q <+:u→g q.head?=true
 app:∀r,g' r.head?=true→g (u++r).head?=true
theorem Gz.any:Gz lz g' u:=⟨fun U U=>rfl,fun U U=>rfl⟩
theorem Gz.cons{c:Tk}(h0:g none=true)(hu:g (some c)=true):Gz g g' (c::u):=⟨fun U h=>Gy h h0 hu,fun U U=>hu⟩
theorem Rd.bind(h:Rd s' g p t a)(f:Gz g g' u)(h2:∀r,g' r.head?=true→k (a (u.length+r.length)) (u++r)= .ok (b r.length) r)(hc:∀n q,q <+:u→q≠u→Ends s (k (a n) q))(hs:∀a,Ends s (k a [])):Rd s g' (fun r=>(p r).bind k) (t++u) b where
 acc:=fun r hr=>by
  show(p (t++u++r)).bind k=_;refine ER (append_assoc ..) (ER (h.acc (u++r) (f.app r hr) ..) ?_);have:=h2 r hr
  rwa [←length_append]at this
 cut:=fun q hq hn=>by
  rcases pre_app hq with ⟨h1,h3⟩|⟨q',rfl,h1⟩
  ·exact(h.cut q h1 h3).bind hs
  ·show Ends s ((p (t++q')).bind k);refine ER (h.acc q' (f.pre q' h1)) ?_;exact hc _ q' h1 fun e=>hn (by rw[e])
theorem Rd.then(h:Rd s' g p t a)(f:Gz g g' u)(h2:∀n,Rd s g' (k (a n)) u b)(hs:∀a,Ends s (k a [])):Rd s g' (fun r=>(p r).bind k) (t++u) b:=
 h.bind f (fun r hr=>(h2 _).acc r hr) (fun n=>(h2 n).cut) hs
theorem Rd.map{f:α→β}(h:Rd s g p t a):Rd s g (fun r=>(p r).bind fun x r=>.ok (f x) r) t (fun n=>f (a n)) where
 acc:=fun r hr=>by show(p (t++r)).bind _=_;refine ER (h.acc r hr) ?_;rfl
 cut:=fun q hq hn=>(h.cut q hq hn).map
theorem Rd.more(h:Rd s g p t a)(hg:∀o,g' o=true→g o=true):Rd s g' p t a:=⟨fun r hr=>h.acc r (hg _ hr),h.cut⟩
theorem Rd.soft(h:Rd false g p t a):Rd s g p t a:=⟨h.acc,fun q hq hn=>(h.cut q hq hn).soft⟩
theorem Rd.one{c:Tk}{x:α}(h:∀r,g r.head?=true→p (c::r)= .ok x r)(hn:Ends s (p [])):Rd s g p [c] (fun U=>x) where
 acc:=h
 cut:=fun q hq dG=>by
  rcases bS hq with rfl|⟨q',rfl,h1⟩
  ·exact hn
  ·rw[prefix_nil.mp h1]at dG;exact absurd rfl dG
theorem Rd.congr{p':Lk→PR α}(h:Rd s g p t a)(e:∀r,p' r=p r):Rd s g p' t a:=(funext e:p'=p)▸h
theorem i7(c:Tk)(r:Lk):jC c (c::r)=true:=decide_eq_true rfl
theorem vg{c d:Tk}(h:d≠c)(r:Lk):jC c (d::r)=false:=decide_eq_false fun e=>h (Option.some.inj e)
theorem DO{c:Tk}{r:Lk}(h:Ip c r.head?=true):jC c r=false:=nb h
theorem vh(c:Tk)(r:Lk):bO c (c::r)= .ok () r:=if_pos (i7 c r)
theorem n7(c:Tk):Rd s lz (bO c) [c] fun U=>():=.one (fun r U=>vh c r) .err
theorem ny{w:Str}(h:w∈G7)(r:Lk):dm (.nm w::r)= .ok w r:=if_pos (decide_eq_true h)
theorem OL{w:Str}(h:w∈G7):Rd s lz dm [.nm w] fun U=>w:=.one (fun r U=>ny h r) .err
theorem RI(w:Str):Rd s lz qm [.nm w] fun U=>w:=.one (fun U U=>rfl) .err
theorem OM{w:Str}(h:w.length≤4)(r:Lk):Dz (.nm w::r)= .ok w r:=by
 show(if decide ((w.length:Int) > 4)then _ else _)=_;refine ER (decide_eq_false (by omega)) ?_;rfl
theorem U8{w:Str}(h:w.length≤4):Rd s lz Dz [.nm w] fun U=>w:=.one (fun r U=>OM h r) .err
end
noncomputable def ee(l:Ls):Lk:=l.map Tk.nm
def cJ(g:Ls):Lk:=if g.length=1 then ee g else .sg .lb::(ee g++[.sg .rb])
noncomputable def pj(ls:Ls):Lk:=ls.flatMap fun n=>[.kw .lookup,.nm n]
abbrev IT:=Ls×Option (Ls)
def Cm:Option (Ls)→Lk
 |none=>[]
 |some ls=>.sg .q::pj ls
def Cn(x:IT):Lk:=cJ x.1++Cm x.2
structure dZ (g:Ls):Prop where
 ne:g≠[]
 nd:g.Nodup
 g7:∀w∈g,w∈G7
noncomputable def U9(k:Nat):Ls→List eQ
 |[]=>[]
 |n::ls=>(n,(pj ls).length+1+k)::U9 k ls
def JP(k:Nat)(x:IT):Item:=match x.2 with
 |none=>⟨x.1,false,[]⟩
 |some ls=>⟨x.1,true,U9 k ls⟩
section
variable {s:Bool}
theorem vj{q:Lk}{l:Ls}(h:q <+:ee l):∃l',q=ee l'∧l' <+:l:=by
 refine⟨l.take q.length,?_,take_prefix _ _⟩;unfold ee;rw[map_take];exact(List.prefix_iff_eq_take.mp h)
theorem RJ(l f:Ls)(N:Nat)(r:Lk)(hn:(f++l).Nodup)(hg:∀w∈l,w∈G7)(hN:l.length<N):DC N f (ee l++ .sg .rb::r)= .ok (f++l) r:=by
 induction l generalizing f N with
 |nil=>induction N with
  |zero=>exact(not_lt_zero _ hN).elim
  |succ N=>refine ER (append_nil ..) ?_;exact if_pos (i7 _ _)
 |cons w l ih=>induction N with
  |zero=>exact(not_lt_zero _ hN).elim
  |succ N=>
   have h1:w∉f:=fun h=>(nodup_append.mp hn).2.2 w h w (.head _) rfl;show(if jC _ (.nm w::_)then _ else if decide (w∈f)then _ else(dm (.nm w::(ee l++ .sg .rb::r))).bind _)=_;refine ER (if_neg (by rw[vg (by simp)];exact Bool.false_ne_true) ..) (ER (if_neg fun z=>h1 (of_decide_eq_true z) ..) (ER (ny (hg w (.head _)) ..) ?_));exact(ih (f++[w]) N (by rw[append_assoc];exact hn) (fun v hv=>hg v (.tail _ hv)) (lt_of_succ_lt_succ hN)).trans (by rw[append_assoc];rfl)
theorem RK(l f:Ls)(N:Nat)(hn:(f++l).Nodup)(hg:∀w∈l,w∈G7):DC N f (ee l)= .err []∨l.length≥N:=by
 induction N generalizing l f with
 |zero=>exact .inr (zero_le _)
 |succ N ih=>induction l with
  |nil=>
   refine .inl ?_;show(if jC _ []then _ else if decide (("" :Str)∈f)then _ else(dm []).bind _)=_;rw[if_neg (show ¬jC (.sg .rb) []=true from fun z=>Bool.noConfusion z)];refine iT (fun _=>?_) fun _=>?_<;>rfl
  |cons w l U=>
   refine(ih l (f++[w]) (by rw[append_assoc];exact hn) fun v hv=>hg v (.tail _ hv)).imp (fun e=>?_) succ_le_succ;show(if jC _ (.nm w::_)then _ else if decide (w∈f)then _ else(dm (.nm w::ee l)).bind _)=_;refine ER (if_neg (by rw[vg (by simp)];exact Bool.false_ne_true) ..) (ER (if_neg fun z=>(fun h=>(nodup_append.mp hn).2.2 w h w (.head _) rfl:w∉f) (of_decide_eq_true z) ..) (ER (ny (hg w (.head _)) ..) ?_));exact e
theorem dT(l:Ls):(ee l).length=l.length:=length_map _
theorem kQ{α:Type}{q b:List α}{s:α}(h:q <+:b++[s])(dG:q≠b++[s]):q <+:b:=by
 rcases List.prefix_concat_iff.mp h with h|h
 ·exact absurd h dG
 ·exact h
theorem DP{g:Ls}(h:dZ g):Rd s lz qn (ee g++[.sg .rb]) fun U=>g where
 acc:=fun r U=>by
  show(DC _ [] (ee g++[.sg .rb]++r)).bind _=_;refine ER (append_assoc ..) (ER (cons_append ..) (ER (nil_append ..) (ER (RJ g [] _ r h.nd h.g7 (by simp[ee];lia) ..) ?_)));exact if_neg fun z=>h.ne (isEmpty_iff.mp z)
 cut:=fun q hq hn=>by
  obtain⟨l,rfl,p⟩:=vj (kQ hq hn);show Ends s ((DC _ [] (ee l)).bind _);rcases RK l [] ((ee l).length+1) (h.nd.sublist p.sublist) (fun w hw=>h.g7 w (p.subset hw))with e|e
  ·rw[e];exact .err
  ·rw[dT]at e;lia
theorem ON{g:Ls}(h:dZ g):Rd s lz Qd (cJ g) fun U=>g:=by
 unfold cJ;refine iT (fun _=>?_) fun _=>?_
 ·rename_i hl
  match g,hl with
  |[w],_=>exact .one (fun r U=>by
    show(if jC _ (.nm w::r)then _ else(dm (.nm w::r)).bind _)=_;refine ER (if_neg (by rw[vg (by simp)];exact Bool.false_ne_true) ..) (ER (ny (h.g7 w (.head _)) ..) ?_);rfl) .err
 ·refine⟨fun r hr=>(if_pos (i7 _ _)).trans ((DP (s:=s) h).acc r hr),fun q hq hn=>?_⟩;rcases bS hq with rfl|⟨q',rfl,h1⟩
  ·exact .err
  ·show Ends s (if jC _ (.sg .lb::q')then qn q' else _);refine ER (if_pos (i7 _ _)) ?_;exact(DP h).cut q' h1 fun e=>hn (ER e rfl)
end
theorem nt{b:Bool}(h:b=false):¬b=true:=by rw[h];exact Bool.false_ne_true
def Qe:Option Tk→Bool:=fun o=>Ip (.sg .q) o&&Ip (.kw .lookup) o
def LJ:Option Tk→Bool:=fun o=>Qe o&&!starts o.toList
theorem Co:∀(ls:Ls) (N:Nat) (acc:List eQ) (r:Lk),Ip (.kw .lookup) r.head?=true→ls.length<N→jq N acc (pj ls++r)= .ok (acc++U9 r.length ls) r
 |[],N+1,acc,r,h,_=>by refine ER (show U9 r.length []=[] from rfl ..) (ER (append_nil ..) ?_);exact if_neg (nt (DO h))
 |n::ls,N+1,acc,r,h,hN=>by
  show(if jC _ (.kw .lookup:: .nm n::(pj ls++r))then jq N (acc++[(n,(pj ls++r).length+1)]) (pj ls++r)else _)=_;refine ER (if_pos (i7 _ _) ..) (ER (Co ls N _ r h (lt_of_succ_lt_succ hN) ..) (ER (append_assoc ..) (ER (length_append ..) (ER (add_right_comm ..) ?_))));rfl
theorem Va:∀{ls:Ls} {q:Lk},q <+:pj ls→∃l,q=pj l∨q=pj l++[.kw .lookup]:=by
 intro rv;induction rv with
 |nil=>exact fun {q} h=>⟨[],.inl (prefix_nil.mp h)⟩
 |cons n ls ih=>
  intro q h;rcases bS (show q <+: .kw .lookup:: .nm n::pj ls from h)with rfl|⟨q1,rfl,h1⟩
  ·exact⟨[],.inl rfl⟩
  ·rcases bS h1 with rfl|⟨q2,rfl,h2⟩
   ·exact⟨[],.inr rfl⟩
   ·obtain⟨l,h3⟩:=ih h2;exact⟨n::l,h3.imp (fun e=>by rw[e];rfl) fun e=>by rw[e];rfl⟩
theorem Cp:∀(l:Ls) (N:Nat) (acc:List eQ),l.length<N→jq N acc (pj l++[.kw .lookup])= .err []
 |[],N+1,acc,_=>if_pos (i7 _ _)
 |n::l,N+1,acc,h=>(if_pos (i7 _ _)).trans (Cp l N _ (lt_of_succ_lt_succ h))
theorem yO:∀ls:Ls,(pj ls).length=2 * ls.length:=by
 intro rv;induction rv with
 |nil=>exact rfl
 |cons n ls ih=>
  have:=ih
  show(pj ls).length+2=2 * (ls.length+1);lia
theorem OO(g:Ls)(m:Option (Ls))(r:Lk)(h:Qe r.head?=true):sH g (Cm m++r)= .ok (JP r.length (g,m)) r:=by
 obtain⟨h1,h2⟩:=and_eq_true_iff.mp h;induction m with
 |none=>exact if_neg (nt (DO h1))
 |some ls=>
  show(if jC _ (.sg .q::(pj ls++r))then(jq ((pj ls++r).length+1) [] (pj ls++r)).bind _ else _)=_;rw[if_pos (i7 _ _),Co ls _ [] r h2 (by refine ER (length_append ..) (ER (yO ..) ?_);lia)];rfl
theorem GA{x:IT}(h:dZ x.1)(r:Lk)(hr:Qe r.head?=true):jD (Cn x++r)= .ok (JP r.length x) r:=by
 show(Qd (cJ x.1++Cm x.2++r)).bind sH=_;refine ER (append_assoc ..) (ER ((ON (s:=false) h).acc _ rfl ..) ?_);exact OO x.1 x.2 r hr
def bT(l:List IT):Lk:=l.flatMap Cn
noncomputable def eL(k:Nat):List IT→List Item
 |[]=>[]
 |x::l=>JP ((bT l).length+k) x::eL k l
noncomputable def iH(last over:Bool):List IT→Bool
 |[]=>true
 |x::l=> !((over || (last&&!x.2.isSome))&&x.2.isSome)&&iH x.2.isSome (over || (last&&!x.2.isSome)) l
theorem DQ(k:Nat)(x:IT):(JP k x).on=x.2.isSome:=by obtain⟨g,m⟩:=x;induction m<;>rfl
theorem vm(x:IT)(h:dZ x.1):∃c r,Cn x=c::r∧starts (Cn x)=true∧Qe (some c)=true:=by
 obtain⟨g,m⟩:=x;unfold Cn cJ;induction g with
 |nil=>exact absurd rfl h.ne
 |cons w g=>
  refine iT (fun _=>?_) fun _=>?_
  ·exact⟨.nm w,_,rfl,Bool.or_true _,rfl⟩
  ·exact⟨.sg .lb,_,rfl,rfl,rfl⟩
theorem GB(r:Lk):starts r.head?.toList=starts r:=by
 induction r with
 |nil=>rfl
 |cons c r=>induction c<;>rfl
theorem starts_app{a b:Lk}(h:starts a=true):starts (a++b)=true:=by
 induction a with
 |nil=>exact Bool.noConfusion h
 |cons c a=>induction c<;>exact h
theorem GC{l:List IT}(h:∀x∈l,dZ x.1){r:Lk}(hr:Qe r.head?=true):Qe (bT l++r).head?=true:=by
 induction l with
 |nil=>exact hr
 |cons x l=>
  obtain⟨c,z,e,_,k⟩:=vm x (h x (.head _));show Qe (Cn x++bT l++r).head?=true;refine ER e ?_;exact k
theorem DR(x:IT)(l:List IT)(r:Lk):bT (x::l)++r=Cn x++(bT l++r):=append_assoc ..
theorem Vb:∀(l:List IT) (N:Nat) (pre:List Item) (a:Item) (over:Bool) (r:Lk),(∀x∈l,dZ x.1)→iH a.on over l=true→Qe r.head?=true→
  ∃pre' a' over',fF (l.length+N) pre a over (bT l++r)=fF N pre' a' over' r∧pre'++[a']=pre++[a]++eL r.length l:=by
 intro rv;induction rv with
 |nil=>exact fun N pre a over r o o o=>⟨pre,a,over,by refine ER (length_nil ..) (ER (zero_add ..) ?_);rfl,(append_nil _).symm⟩
 |cons x l ih=>
  intro N pre a over r nP hf hr;have hok':∀y∈l,dZ y.1:=fun y hy=>nP y (.tail _ hy);obtain⟨hf1,hf2⟩:=and_eq_true_iff.mp hf;obtain⟨c,z,e,st,_⟩:=vm x (nP x (.head _));have on:(JP (bT l++r).length x).on=x.2.isSome:=DQ _ _;obtain⟨pre',a',over',e1,e2⟩:=ih N (pre++[a]) (JP (bT l++r).length x) (over || (a.on&&!x.2.isSome)) r hok' (by refine ER on ?_;exact hf2) hr;refine⟨pre',a',over',?_,?_⟩
  ·refine ER (DR ..) (ER (length_cons ..) (ER (add_right_comm ..) ?_));show(if starts (Cn x++(bT l++r))then(jD (Cn x++(bT l++r))).bind _ else _)=_;refine ER (if_pos (starts_app st)) (ER (GA (nP x (.head _)) _ (GC hok' hr)) (EL e1 ?_));show(if _ then _ else _)=_;exact ER on (ER (if_neg (nt (nb hf1))) rfl)
  ·refine ER (e2 ..) (ER (append_assoc ..) (ER (append_assoc ..) (ER (append_assoc ..) (ER (length_append ..) ?_))));rfl
theorem RM:∀{l:List IT},(∀x∈l,dZ x.1)→l.length≤(bT l).length:=by
 intro rv;induction rv with
 |nil=>exact fun o=>le_refl _
 |cons x l ih=>
  intro h;obtain⟨c,r,e,_⟩:=vm x (h x (.head _));have:=ih fun y hy=>h y (.tail _ hy);show l.length+1≤(Cn x++bT l).length;refine ER e (ER length_append (ER length_cons ?_));omega
theorem GD{x:IT}{l:List IT}(nP:∀y∈x::l,dZ y.1)(hf:iH false false (x::l)=true)(r:Lk)(hr:Qe r.head?=true):
  ∃N pre' a' over',r.length<N∧gc (bT (x::l)++r)=fF N pre' a' over' r∧pre'++[a']=eL r.length (x::l):=by
 have hok':∀y∈l,dZ y.1:=fun y hy=>nP y (.tail _ hy);have ln:=RM hok';obtain⟨pre',a',over',e1,e2⟩:=Vb l ((bT l++r).length+1 - l.length) [] (JP (bT l++r).length x) false r hok' (by refine ER (DQ ..) ?_;have:=(and_eq_true_iff.mp hf).2;simpa using this) hr;refine⟨(bT l++r).length+1 - l.length,pre',a',over',by rw[length_append];omega,?_,by refine ER e2 (ER length_append ?_);rfl⟩
 ·rw[DR];show(jD _).bind _=_;refine ER (GA (nP x (.head _)) _ (GC hok' hr)) (EL e1 ?_);show fF _ _ _ _ _=_;rw[Nat.add_sub_cancel' (by rw[length_append];omega)]
theorem wD{l:List IT}(dG:l≠[])(nP:∀y∈l,dZ y.1)(hf:iH false false l=true)(r:Lk)(hr:LJ r.head?=true):gc (bT l++r)= .ok (eL r.length l) r:=by
 obtain⟨h1,h2⟩:=and_eq_true_iff.mp hr;induction l with
 |nil=>exact absurd rfl dG
 |cons x l=>
  obtain⟨N,pre,a,over,lt,e1,e2⟩:=GD nP hf r h1;refine ER e1 (EL e2 ?_);induction N with
  |zero=>exact absurd lt (not_lt_zero _)
  |succ N=>exact if_neg (nt ((GB r).symm.trans (nb h2)))
def Am(q:Lk):Prop:=Tk.sg .q∈q∨q.count (.sg .lb)≠q.count (.sg .rb)
theorem Iq{c:Tk}{l:Ls}(h:c.isNm=false):c∉ee l:=fun z=>by obtain⟨w,_,rfl⟩:=mem_map.mp z;contradiction
theorem ri{c:Tk}{l:Ls}(h:c.isNm=false):(ee l).count c=0:=List.count_eq_zero.mpr (Iq h)
theorem RN(g:Ls):(cJ g).count (.sg .lb)=(cJ g).count (.sg .rb):=by
 unfold cJ;refine iT (fun _=>?_) fun _=>?_
 ·rw[ri rfl,ri rfl]
 ·refine ER count_cons (ER count_cons (ER count_append (ER count_append (ER (ri rfl) (ER (ri rfl) ?_)))));rfl
theorem mem_set{c:Tk}{g:Ls}(h:c∈cJ g):c.isNm=true∨c= .sg .lb∨c= .sg .rb:=by
 unfold cJ at h;have n:∀{l},c∈ee l→c.isNm=true:=fun h=>by obtain⟨w,_,rfl⟩:=mem_map.mp h;rfl
 split at h
 ·exact .inl (n h)
 ·rcases mem_cons.mp h with h|h
  ·exact .inr (.inl h)
  ·rcases mem_append.mp h with h|h
   ·exact .inl (n h)
   ·exact .inr (.inr (mem_singleton.mp h))
theorem Ir{c:Tk}{l:Ls}(h:c∈pj l):c.isNm=true∨c= .kw .lookup:=by
 obtain⟨n,_,h⟩:=mem_flatMap.mp h;rcases mem_cons.mp h with h|h
 ·exact .inr h
 ·rw[mem_singleton.mp h];exact .inl rfl
theorem GF{m:Option (Ls)}{c:Tk}(h:c.isNm=false)(h2:c≠ .kw .lookup)(h3:c≠ .sg .q):(Cm m).count c=0:=List.count_eq_zero.mpr fun z=>by
 induction m with
 |none=>cases z
 |some ls=>
  rcases mem_cons.mp z with z|z
  ·exact h3 z
  ·rcases Ir z with z|z
   ·rw[h]at z;contradiction
   ·exact h2 z
theorem JQ:∀l:List IT,(bT l).count (.sg .lb)=(bT l).count (.sg .rb):=by
 intro rv;induction rv with
 |nil=>exact rfl
 |cons x l ih=>
  show(cJ x.1++Cm x.2++bT l).count _=(cJ x.1++Cm x.2++bT l).count _;exact ER (count_append ..) (ER (count_append ..) (ER (count_append ..) (ER (count_append ..) (ER (GF rfl (by decide) (by decide) ..) (ER (GF rfl (by decide) (by decide) ..) (ER (RN ..) (ER (ih ..) rfl)))))))
theorem OP{x:IT}(h:dZ x.1){q:Lk}(hq:q <+:Cn x)(dG:q≠Cn x):
  q=[]∨(∃x':IT,q=Cn x'∧dZ x'.1∧(x'.2.isSome=true→x.2.isSome=true))∨(jD q= .err []∧starts q=true∧Am q):=by
 obtain⟨g,m⟩:=x;have bad:∀{q'},q' <+:cJ g→q'≠cJ g→q'=[]∨(jD q'= .err []∧starts q'=true∧Am q'):=fun {q'} h1 h2=>by
  by_cases e:q'=[]
  ·exact .inl e
  ·refine .inr ⟨?_,?_⟩
   ·have:=(ON (s:=false) h).cut q' h1 h2;show(Qd q').bind _=_;revert this;generalize Qd q'=z;intro hz;induction hz with
    |err=>rfl
    |ok z=>contradiction
   ·unfold cJ at h1 h2;split at h1
    ·rename_i hl;rw[if_pos hl]at h2
     match g,hl with
     |[w],_=>
      rcases bS (show q' <+:Tk.nm w::[] from h1)with z|⟨q2,rfl,z⟩
      ·exact absurd z e
      ·rw[prefix_nil.mp z]at h2;exact absurd rfl h2
    ·rename_i hl;rw[if_neg hl]at h2;rcases bS h1 with z|⟨q2,rfl,z⟩
     ·exact absurd z e
     ·obtain⟨l,rfl,_⟩:=vj (kQ z fun e=>h2 (ER e rfl));exact⟨rfl,.inr (by refine ER count_cons (ER count_cons (ER (ri rfl) (ER (ri rfl) ?_)));decide)⟩
 rcases pre_app hq with ⟨h1,h2⟩|⟨q1,rfl,h1⟩
 ·exact(bad h1 h2).imp id .inr
 ·refine .inr ?_;induction m with
  |none=>rw[prefix_nil.mp h1]at dG;exact absurd rfl dG
  |some ls=>
   rcases bS (show q1 <+:Tk.sg .q::pj ls from h1)with rfl|⟨q2,rfl,h2⟩
   ·exact .inl ⟨(g,none),rfl,h,fun z=>Bool.noConfusion z⟩
   ·obtain⟨l,rfl|rfl⟩:=Va h2
    ·exact .inl ⟨(g,some l),rfl,h,fun U=>rfl⟩
    ·refine .inr ⟨?_,?_,.inl (mem_append_right _ (.head _))⟩
     ·show(Qd (cJ g++ .sg .q::(pj l++[.kw .lookup]))).bind sH=_;refine ER ((ON (s:=false) h).acc _ rfl) ?_;show sH g (.sg .q::(pj l++[.kw .lookup]))=_;unfold sH;refine ER (if_pos (i7 _ _)) ?_;show(jq ((pj l++[Tk.kw .lookup]).length+1) [] (pj l++[Tk.kw .lookup])).bind _=_;rw[Cp l _ [] (by refine ER (length_append ..) (ER (yO ..) ?_);lia)];rfl
     ·obtain⟨c,r,e1,st,_⟩:=vm (g,none) h;have:cJ g++[]=Cn (g,none):=rfl;rw[append_nil]at this;exact starts_app (this▸st)
theorem Vc{q:Lk}(h:starts q=true):Qe q.head?=true:=by
 induction q with
 |nil=>contradiction
 |cons c q=>cases c with
  |nm w=>rfl
  |sg z=>cases z<;>first|rfl|contradiction
  |_=>contradiction
theorem RP:∀(l:List IT) (q:Lk) (last over:Bool),(∀x∈l,dZ x.1)→iH last over l=true→q <+:bT l→
  ∃l1 q',q=bT l1++q'∧(∀x∈l1,dZ x.1)∧iH last over l1=true∧(q'=[]∨jD q'= .err []∧starts q'=true∧Am q'):=by
 intro rv;induction rv with
 |nil=>exact fun q last over o o hq=>⟨[],[],by rw[prefix_nil.mp hq];rfl,(fun U h=>nomatch h),rfl,.inl rfl⟩
 |cons x l ih=>
  intro q last over nP hf hq;obtain⟨hf1,hf2⟩:=and_eq_true_iff.mp hf;rcases pre_app (show q <+:Cn x++bT l from hq)with ⟨h1,h2⟩|⟨q1,rfl,h1⟩
  ·rcases OP (nP x (.head _)) h1 h2 with rfl|⟨x',rfl,hx,hm⟩|hb
   ·exact⟨[],[],rfl,(fun U h=>nomatch h),rfl,.inl rfl⟩
   ·refine⟨[x'],[],by show _=Cn x'++[]++[];exact ER (append_nil ..) (ER (append_nil ..) rfl),fun y hy=>by refine ER (mem_singleton.mp hy) ?_;exact hx,and_eq_true_iff.mpr ⟨?_,rfl⟩,.inl rfl⟩;generalize e:x'.2.isSome=gg;induction gg with
    |false=>refine ER (Bool.and_false ..) ?_;rfl
    |true=>rw[hm e]at hf1;exact hf1
   ·exact⟨[],q,rfl,(fun U h=>nomatch h),rfl,.inr hb⟩
  ·obtain⟨l1,q',rfl,k1,k2,k3⟩:=ih q1 _ _ (fun y hy=>nP y (.tail _ hy)) hf2 h1;exact⟨x::l1,q',(DR x l1 q').symm,fun y hy=>(mem_cons.mp hy).elim (fun e=>e▸nP x (.head _)) (k1 y),and_eq_true_iff.mpr ⟨hf1,k2⟩,k3⟩
theorem LK{l:List IT}{q:Lk}(nP:∀x∈l,dZ x.1)(hf:iH false false l=true)(hq:q <+:bT l):
  (∃l',q=bT l'∧(l'=[]∨gc q= .ok (eL 0 l') []))∨(Am q∧gc q= .err []):=by
 obtain⟨l1,q',rfl,k1,k2,k3⟩:=RP l q false false nP hf hq;rcases k3 with rfl|⟨e,st,b⟩
 ·refine .inl ⟨l1,append_nil _,?_⟩;by_cases dG:l1=[]
  ·exact .inl dG
  ·exact .inr (wD dG k1 k2 [] rfl)
 ·refine .inr ⟨?_,?_⟩
  ·refine b.imp (mem_append_right _) fun b=>?_;refine ER (count_append ..) (ER (count_append ..) (ER (JQ ..) ?_));exact fun z=>b (Nat.add_left_cancel z)
  ·induction l1 with
   |nil=>show(jD q').bind _=_;refine ER e ?_;rfl
   |cons x l1=>
    obtain⟨N,pre,a,over,lt,e1,_⟩:=GD k1 k2 q' (Vc st);rw[e1];induction N with
    |zero=>exact absurd lt (not_lt_zero _)
    |succ N=>show(if starts q' then(jD q').bind _ else _)=_;refine ER (if_pos st) (ER e ?_);rfl
structure yq where
 a:Int
 b:Int
 c:Int
 d:Int
noncomputable def yq.l(w:yq):List Int:=[w.a,w.b,w.c,w.d]
inductive LR where
 |single (a b:Str)
 |du (a:Str) (l:Ls)
 |b6 (a:Str) (l:Ls)
 |dK (l:Ls) (b:Str)
 |ia (a:Str) (w:yq)
 |pair (a b:Str) (w:yq)
 |chain (pos:Bool) (back:List (Ls)) (ins:List (Ls×Ls)) (ahead:List (Ls))
noncomputable def rO(i:Int):Str:=Str.ofString (toString i)
def vn(i:Int):Tk:=.nu (rO i)
noncomputable def Iu(w:yq):Bool:=decide (w.a=0)&&(decide (w.b=0)&&decide (w.d=0))
def cK(w:yq):Lk:=if Iu w then [vn w.c]else .sg .lt::(w.l.map vn++[.sg .gt])
def iI(l:Ls):Lk:=if l.isEmpty then [.kw .null]else ee l
def xX(i:Int):Prop:=Q9 (rO i)=true∧(rO i).length≤6∧wx (rO i)=i∧ -32768≤i∧i≤32767
def xY(w:yq):Prop:=∀i∈w.l,xX i
section
variable {s:Bool}
theorem RQ(l:Lp):wB l=decide (l.length=1):=by
 unfold wB Hz;simp -iota only[toPy,PyData.eqv];exact decide_eq_decide.mpr (by lia)
theorem DS(l:Ls):wB (aq l)=decide (l.length=1):=ER (RQ ..) (ER (bc ..) rfl)
theorem Rd.RT{α:Type}{g:Option Tk→Bool}{p p':Lk→PR α}{t:Lk}{a:Nat→α}(h:Rd s g p t a)(dG:t≠[])(e:∀r,r=[]∨r.head?=t.head?→p' r=p r):Rd s g p' t a:=by
 induction t with
 |nil=>exact absurd rfl dG
 |cons c t=>exact⟨fun r hr=>(e (c::t++r) (.inr rfl)).trans (h.acc r hr),fun q hq hn=>by
   refine ER (e q ((bS hq).imp id fun hh=>hh.casesOn fun q' hh=>hh.casesOn fun e U=>by rw[e];rfl)) ?_;exact h.cut q hq hn⟩
theorem OQ{lo hi i:Int}(h:xX i)(h1:lo≤i)(h2:i≤hi):Rd s lz (pNum lo hi) [vn i] fun U=>i:=.one (fun r U=>by
 obtain⟨_,l,v,_,_⟩:=h;show(if Xh (vn i::r)&&(!decide (((rO i).length:Int) > 6)&&(decide (lo≤wx (rO i))&&decide (wx (rO i)≤hi)))then PR.ok (wx (rO i)) r else _)=_;refine ER v (ER (decide_eq_false (by grind only)) (ER (decide_eq_true h1) (ER (decide_eq_true h2) ?_)));rfl) .err
theorem RW:∀(l acc:List Int),(∀i∈l,xX i)→Rd true lz (Ab l.length acc) (l.map vn) fun U=>acc++l:=by
 intro rv;induction rv with
 |nil=>exact fun acc o=>⟨fun r U=>by refine ER (append_nil ..) ?_;rfl,fun q hq hn=>absurd (prefix_nil.mp hq) hn⟩
 |cons i l ih=>
  intro acc h;have hi:=h i (.head _);have:=Rd.then (k:=fun v r=>Ab l.length (acc++[v]) r) (s':=true) (s:=true) (OQ hi hi.2.2.2.1 hi.2.2.2.2) (g':=lz) (u:=l.map vn) (b:=fun U=>acc++[i]++l) Gz.any (fun U=>(ih (acc++[i]) fun j hj=>h j (.tail _ hj))) fun a=>by
   induction l with
   |nil=>exact .ok rfl _
   |cons=>exact .err
  rw[append_assoc]at this;exact this
theorem OR{w:yq}(h:xY w):Rd true lz wz (cK w) fun U=>w.l:=by
 unfold cK;refine iT (fun _=>?_) fun _=>?_
 ·rename_i hs;have hc:=h w.c (by simp[yq.l]);have e:w.l=[0,0,w.c,0]:=by
   simp only[Iu,and_eq_true,decide_eq_true_eq]at hs;simp only[yq.l,hs]
  refine ER e ?_;refine Rd.RT (p:=fun r=>(pNum (-32768) 32767 r).bind fun v r=>.ok [0,0,v,0] r) (Rd.map (f:=fun v=>[0,0,v,0]) (OQ hc hc.2.2.2.1 hc.2.2.2.2)) (cons_ne_nil _ _) fun r hr=>if_neg (nt ?_);rcases hr with rfl|hr
  ·rfl
  ·unfold jC;refine ER hr ?_;rfl
 ·have h1:Rd true lz (fun r=>(Ab 4 [] r).bind fun l r=>(bO (.sg .gt) r).bind fun U r=>.ok l r) (w.l.map vn++[.sg .gt]) fun U=>w.l:=
   (RW w.l [] h).then Gz.any (fun n=>(n7 (.sg .gt)).map (f:=fun U=>w.l)) fun a=>.err
  refine⟨fun r hr=>(if_pos (i7 _ _)).trans (h1.acc r hr),fun q hq hn=>?_⟩;rcases bS hq with rfl|⟨q',rfl,hq'⟩
  ·exact .err
  ·show Ends _ (if jC _ (.sg .lt::q')then _ else _);rw[if_pos (i7 _ _)];exact h1.cut q' hq' fun e=>hn (ER e rfl)
theorem LO(l f:Ls)(N:Nat)(r:Lk)(hg:∀w∈l,w∈G7)(hr:U7 r.head?=true)(hN:l.length<N):iY N f (ee l++r)= .ok (f++l) r:=by
 induction l generalizing f N with
 |nil=>induction N with
  |zero=>exact(not_lt_zero _ hN).elim
  |succ N=>
   refine ER (append_nil ..) ?_;refine if_neg (nt (show EM r=false from ?_));induction r with
   |nil=>rfl
   |cons c r=>induction c<;>first|rfl|exact Bool.noConfusion hr
 |cons w l ih=>induction N with
  |zero=>exact(not_lt_zero _ hN).elim
  |succ N=>
   show(if EM (.nm w::_)then(dm (.nm w::(ee l++r))).bind _ else _)=_;refine ER (ny (hg w (.head _)) ..) ?_;exact(ih (f++[w]) N (fun v hv=>hg v (.tail _ hv)) (lt_of_succ_lt_succ hN)).trans (by rw[append_assoc];rfl)
theorem OS{l:Ls}(dG:l≠[])(h:∀w∈l,w∈G7):Rd true U7 pNames (ee l) fun U=>l:=by
 have ok:∀l' r,l'≠[]→(∀w∈l',w∈G7)→U7 r.head?=true→pNames (ee l'++r)= .ok l' r:=fun l' r hn h hr=>by
  induction l' with
  |nil=>exact absurd rfl hn
  |cons w l=>
   show(dm (.nm w::(ee l++r))).bind _=_;refine ER (ny (h w (.head _)) ..) ?_;exact LO l [w] _ r (fun v hv=>h v (.tail _ hv)) hr (by refine ER (length_append ..) (ER (dT ..) ?_);lia)
 refine⟨fun r hr=>ok l r dG h hr,fun q hq hn=>?_⟩;obtain⟨l',rfl,p⟩:=vj hq;by_cases e:l'=[]
 ·subst e;exact .err
 ·have:=ok l' [] e (fun w hw=>h w (p.subset hw)) rfl;rw[append_nil]at this;rw[this];exact .ok rfl _
end
noncomputable def jr(l:Ls):List Item:=l.map fun w=>⟨[w],false,[]⟩
theorem RX:∀l:Ls,ee l=bT (l.map fun w=>([w],none)):=by
 intro rv;induction rv with
 |nil=>exact rfl
 |cons w l ih=>exact congrArg (Tk.nm w:: ·) (ih)
theorem LP(k:Nat):∀l:Ls,eL k (l.map fun w=>([w],none))=jr l:=by
 intro rv;induction rv with
 |nil=>exact rfl
 |cons w l ih=>exact congrArg (_:: ·) (ih)
theorem Cq:∀(l:List IT) (last over:Bool),(∀x∈l,x.2=none)→iH last over l=true:=by
 intro rv;induction rv with
 |nil=>exact fun o o o=>rfl
 |cons x l ih=>
  intro last over h;show(!((over || (last&&!x.2.isSome))&&x.2.isSome)&&iH x.2.isSome _ l)=true;refine ER (ih _ _ fun y hy=>h y (.tail _ hy)) (ER (h x (.head _)) ?_);simp
theorem GG{l:Ls}(dG:l≠[])(h:∀w∈l,w∈G7){r:Lk}(hr:LJ r.head?=true):gc (ee l++r)= .ok (jr l) r:=by
 rw[RX,wD (by simpa using dG) (fun x hx=>?_) (Cq _ _ _ fun x hx=>?_) r hr,LP]
 ·obtain⟨w,hw,rfl⟩:=mem_map.mp hx;exact⟨cons_ne_nil _ _,nodup_cons.mpr ⟨not_mem_nil,List.nodup_nil⟩,fun v hv=>by rw[mem_singleton.mp hv];exact h w hw⟩
 ·obtain⟨w,hw,rfl⟩:=mem_map.mp hx;rfl
theorem LQ(l:Ls):(jr l).any (·.on)=false:=by
 rw[any_eq_false];intro x hx;obtain⟨w,_,rfl⟩:=mem_map.mp hx;exact Bool.false_ne_true
theorem qx(l:Ls):u7 (jr l)=l:=by
 unfold u7 jr;rw[map_map];exact map_id l
theorem qy(l:Ls):d9 (jr l)=aq l:=congrArg aq (qx l)
theorem Iv(r:Lk):∀l:Ls,g6 r l.length (ee l++r)= .ok () r:=by
 intro rv;induction rv with
 |nil=>exact rfl
 |cons w l ih=>exact(if_neg (nt (vg (by simp) _))).trans (ih)
def nD(k:Kw)(l:Ls)(r:Lk):PR (Str×P):=if decide (k.str= "sub")then tM (jr l) r else wC (jr l) r
theorem wF{k:Kw}{l:Ls}(dG:l≠[])(h:∀w∈l,w∈G7){r:Lk}(hr:LJ r.head?=true):
  lu (.kw k::(ee l++r))=(nD k l r).bind fun x r2=>(bO (.sg .semi) r2).bind fun U r3=>.ok (x,[]) r3:=by
 show(gc (ee l++r)).bind _=_;rw[GG dG h hr];show(rowOf k.str (jr l) (ee l++r) r).bind _=_;unfold rowOf;refine ER (if_neg (nt (LQ l))) (ER ((ER (length_append ..) (ER (dT ..) (ER (Nat.add_sub_cancel ..) rfl))):(ee l++r).length - r.length=l.length) (ER (Iv r l) ?_));show((nD k l r).bind _).bind _=_;rw[iD];rfl
theorem tail_nil(k:Kw)(l:Ls):nD k l []= .err []:=by
 unfold nD;refine iT (fun _=>?_) fun _=>?_
 ·unfold tM;rw[if_neg (by refine ER (show jC (.kw .eV) []=false from rfl ..) (ER (Bool.and_false ..) ?_);exact Bool.false_ne_true)];rfl
 ·unfold wC;refine iT (fun _=>?_) fun _=>?_<;>rfl
theorem nE{s:Bool}{g:Option Tk→Bool}{k:Kw}{l:Ls}{u:Lk}{x:Str×P}(dG:l≠[])(hg:∀w∈l,w∈G7)(hu:LJ u.head?=true)(hg1:g none=true)(hg2:g (some (.sg .semi))=true)(h:Rd s g (nD k l) u fun U=>x):
  Rd false lz lu (.kw k::(ee l++(u++[.sg .semi]))) fun U=>(x,[]):=by
 have hd:∀r,LJ (u++Tk.sg .semi::r).head?=true:=fun r=>by induction u<;>first|rfl|exact hu
 have R:Rd false lz (fun r=>(nD k l r).bind fun x r2=>(bO (.sg .semi) r2).bind fun U r3=>.ok (x,[]) r3) (u++[.sg .semi]) fun U=>(x,([]:List eQ)):=
  h.then (Gz.cons hg1 hg2) (fun n=>(n7 (.sg .semi)).map (f:=fun U=>(x,([]:List eQ)))) fun a=>.err
 refine⟨fun r hr=>?_,fun q hq hn=>?_⟩
 ·show lu (.kw k::(ee l++(u++[.sg .semi])++r))=_;refine ER (append_assoc ..) (ER (wF dG hg (by rw[append_assoc];exact hd r) ..) ?_);exact R.acc r hr
 ·rcases bS hq with rfl|⟨q1,rfl,h1⟩
  ·exact .err
  ·rcases pre_app h1 with ⟨h2,_⟩|⟨q2,rfl,h2⟩
   ·obtain⟨l',rfl,p⟩:=vj h2;by_cases e:l'=[]
    ·subst e;exact .err
    ·have:=wF (k:=k) (r:=[]) e (fun w hw=>hg w (p.subset hw)) rfl;rw[append_nil,tail_nil]at this;rw[this];exact .err
   ·rw[wF dG hg (Gy h2 rfl (hd []))];exact R.cut q2 h2 fun e=>hn (ER e rfl)
noncomputable abbrev vo(k:Str)(l:Lp):Str×P:=(k,.tup l)
theorem Vd{α:Type}{c:Bool}{a b:α}{r:Lk}:(if c then PR.ok a r else .ok b r)= .ok (if c then a else b) r:=by induction c<;>rfl
theorem Iw{c:Tk}{r u:Lk}(hr:r=[]∨r.head?=u.head?)(h:jC c u=false):jC c r=false:=by
 rcases hr with rfl|hr
 ·rfl
 ·unfold jC at h ⊢;refine ER hr ?_;exact h
section
variable {a b:Str}{l g r:Ls}{w:yq}
def Xr(a:Str)(r:Ls):Str×P:=if wB (aq r)then("single",.tup [.str a,.str (r.headD "")])else("multiple",.tup [.str a,.tup (aq r)])
theorem tail_sub{l:Ls}{r:Lk}:nD .sub l r=tM (jr l) r:=rfl
theorem OT{l:Ls}{r:Lk}(h:jC (.kw .eV) r=false):nD .sub l r=(bO (.kw .Ca) r).bind fun U r=>if decide (((aq l).length:Int) > 1)then(dm r).bind fun g r=>.ok (vo "ligature" [.tup (aq l),.str g]) r
  else if jC (.kw .null) r then .ok (vo "multiple" [.str (l.headD ""),.tup []]) r.tail
  else(pNames r).bind fun ns r=>if wB (aq ns)then .ok (vo "single" [.str (l.headD ""),.str (ns.headD "")]) r else .ok (vo "multiple" [.str (l.headD ""),.tup (aq ns)]) r:=by
 show tM (jr l) r=_;unfold tM;exact ER (h ..) (ER (Bool.and_false ..) (ER (if_neg Bool.false_ne_true ..) (ER (qy ..) (ER (qx ..) rfl))))
theorem JR(hr:∀w∈r,w∈G7):Rd true U7 (nD .sub [a]) (.kw .Ca::iI r) fun U=>Xr a r:=by
 refine Rd.RT (p:=fun q=>(bO (.kw .Ca) q).bind fun U r=>if jC (.kw .null) r then .ok (vo "multiple" [.str a,.tup []]) r.tail
  else(pNames r).bind fun ns r=>PR.ok (Xr a ns) r) (t:=.kw .Ca::iI r) ?_ (cons_ne_nil _ _) fun q hq=>?_
 ·refine(n7 (s:=false) (.kw .Ca)).then (u:=iI r) Gz.any (fun U=>?_) fun U=>.err;unfold iI;refine iT (fun _=>?_) fun _=>?_
  ·rename_i e;rw[isEmpty_iff.mp e];exact .one (fun U U=>if_pos (i7 _ _)) .err
  ·rename_i e;have dG:r≠[]:=fun z=>e (by rw[z];rfl);refine Rd.RT ((OS dG hr).map (f:=Xr a)) (by induction r<;>first|exact absurd rfl dG|exact cons_ne_nil _ _) fun q hq=>if_neg (nt (Iw hq ?_));induction r with
   |nil=>rfl
   |cons=>exact vg (by simp) _
 ·refine ER (OT (Iw hq (vg (by decide) _))) ?_
  congr 1
  funext _ r
  rw[if_neg (by simp[aq])]
  congr 2
  funext ns r
  exact Vd
theorem OU(hl:2≤l.length)(hb:b∈G7):Rd false lz (nD .sub l) [.kw .Ca,.nm b] fun U=>vo "ligature" [.tup (aq l),.str b]:=by
 refine Rd.RT (p:=fun q=>(bO (.kw .Ca) q).bind fun U r=>(dm r).bind fun g r=>.ok (vo "ligature" [.tup (aq l),.str g]) r) ?_ (cons_ne_nil _ _) fun q hq=>?_
 ·exact(n7 (s:=false) (.kw .Ca)).then (u:=[.nm b]) Gz.any (fun U=>(OL hb).map (f:=fun g=>vo "ligature" [.tup (aq l),.str g])) fun U=>.err
 ·refine ER (OT (Iw hq (vg (by decide) _))) ?_
  congr 1
  funext _ r
  rw[if_pos (decide_eq_true (by rw[bc];omega))]
theorem OV(hg:dZ g):Rd false lz (nD .sub [a]) (.kw .eV:: .sg .lb::(ee g++[.sg .rb])) fun U=>vo "alternate" [.str a,.tup (aq g)]:=by
 have R:Rd false lz (fun r=>(bO (.sg .lb) r).bind fun U r=>(qn r).bind fun g r=>.ok (vo "alternate" [.str a,.tup (aq g)]) r) (.sg .lb::(ee g++[.sg .rb])) fun U=>vo "alternate" [.str a,.tup (aq g)]:=
  (n7 (s:=false) (.sg .lb)).then (k:=fun U r=>(qn r).bind fun g r=>.ok (vo "alternate" [.str a,.tup (aq g)]) r) (u:=ee g++[.sg .rb]) Gz.any (fun U=>(DP hg).map (f:=fun g=>vo "alternate" [.str a,.tup (aq g)])) fun U=>.err
 have e:∀q,nD .sub [a] (.kw .eV::q)=(bO (.sg .lb) q).bind fun U r=>(qn r).bind fun g r=>.ok (vo "alternate" [.str a,.tup (aq g)]) r:=fun q=>by
  rw[tail_sub];unfold tM;refine ER (qy ..) (ER (DS ..) (ER (i7 ..) (ER (qx ..) ?_)));rfl
 refine⟨fun r hr=>(e _).trans (R.acc r hr),fun q hq hn=>?_⟩;rcases bS hq with rfl|⟨q',rfl,h⟩
 ·exact tail_nil _ _▸ .err
 ·refine ER (e ..) ?_;exact R.cut q' h fun z=>hn (ER z rfl)
def Zq(l:Ls)(w:yq):Str×P:=(if wB (aq l)then "adjust" else "pair",.tup (aq l++[.tup (eW w.l)]))
theorem GH(hl:l.length≤2)(hw:xY w):Rd true lz (nD .pos l) (cK w) fun U=>Zq l w:=
 ((OR hw).map (f:=fun v=>(if wB (aq l)then("adjust" :Str)else "pair",P.tup (aq l++[.tup (eW v)])))).congr fun r=>by
  show wC (jr l) r=_;unfold wC;exact ER (qy ..) (ER (if_neg fun z=>by have:=of_decide_eq_true z;rw[bc]at this;omega ..) rfl)
end
noncomputable def fH(back:List (Ls))(ins:List (Ls×Ls))(ahead:List (Ls)):List IT:=back.map (fun g=>(g,none))++(ins.map (fun x=>(x.1,some x.2))++ahead.map (fun g=>(g,none)))
noncomputable def kR(pos:Bool):Kw:=if pos then .pos else .sub
def d7:LR→Kw
 | .ia .. =>.pos
 | .pair .. =>.pos
 | .chain p _ _ _=>kR p
 |_=>.sub
def i8:LR→Lk
 | .single a _=>ee [a]
 | .du a _=>ee [a]
 | .b6 a _=>ee [a]
 | .dK l _=>ee l
 | .ia a _=>ee [a]
 | .pair a b _=>ee [a,b]
 | .chain _ back ins ahead=>bT (fH back ins ahead)
def jF:LR→Lk
 | .single _ b=>.kw .Ca::iI [b]
 | .du _ l=>.kw .Ca::iI l
 | .b6 _ l=>.kw .eV:: .sg .lb::(ee l++[.sg .rb])
 | .dK _ b=>[.kw .Ca,.nm b]
 | .ia _ w=>cK w
 | .pair _ _ w=>cK w
 | .chain .. =>[]
def bF(x:LR):Lk:=.kw (d7 x)::(i8 x++(jF x++[.sg .semi]))
noncomputable def kindS:LR→Str
 | .single .. => "single" | .du .. => "multiple" | .b6 .. => "alternate" | .dK .. => "ligature" | .ia .. => "adjust" | .pair .. => "pair" | .chain .. => "chain"
def tupS(g:Ls):P:=.tup (aq g)
noncomputable def ff:Nat→List (Ls×Ls)→List (Int×Str)
 |_,[]=>[]
 |k,x::l=>x.2.map (fun n=>((k:Int),n))++ff (k+1) l
def wG:LR→P
 | .single a b=>.tup [.str a,.str b]
 | .du a l=>.tup [.str a,tupS l]
 | .b6 a l=>.tup [.str a,tupS l]
 | .dK l b=>.tup [tupS l,.str b]
 | .ia a w=>.tup [.str a,.tup (eW w.l)]
 | .pair a b w=>.tup [.str a,.str b,.tup (eW w.l)]
 | .chain p back ins ahead=>.tup [.str (kR p).str,.tup (back.map tupS),.tup (ins.map fun x=>tupS x.1),.tup (ahead.map tupS),.tup ((ff 0 ins).map lj)]
def bw(x:LR):Str×P:=(kindS x,wG x)
def eX:LR→Prop
 | .single a b=>a∈G7∧b∈G7
 | .du a l=>a∈G7∧(∀w∈l,w∈G7)∧l.length≠1
 | .b6 a l=>a∈G7∧dZ l
 | .dK l b=>(∀w∈l,w∈G7)∧2≤l.length∧b∈G7
 | .ia a w=>a∈G7∧xY w
 | .pair a b w=>a∈G7∧b∈G7∧xY w
 | .chain _ back ins ahead=>(∀g∈back,dZ g)∧(∀x∈ins,dZ x.1∧∀n∈x.2,o7 n=true)∧(∀g∈ahead,dZ g)∧ins≠[]
def An(k:Nat):LR→List eQ
 | .chain _ back ins ahead=>(eL (k+1) (fH back ins ahead)).flatMap (·.lk)
 |_=>[]
noncomputable def cY:LR→Bool
 | .chain .. =>true
 |_=>false
theorem in1{a:Str}(h:a∈G7):∀w∈[a],w∈G7:=fun w hw=>by rw[mem_singleton.mp hw];exact h
theorem ZP{a b:Str}(h:a∈G7)(h':b∈G7):∀w∈[a,b],w∈G7:=fun w hw=>(mem_cons.mp hw).elim (fun e=>e▸h) (in1 h' w)
theorem GI(w:yq):LJ (cK w).head?=true:=by unfold cK;refine iT (fun _=>?_) fun _=>?_<;>rfl
theorem OW{x:LR}(h:eX x)(hc:cY x=false):Rd false lz lu (bF x) fun U=>(bw x,[]):=by
 induction x with
 |single a b=>exact nE (cons_ne_nil _ _) (in1 h.1) rfl rfl rfl (JR (in1 h.2))
 |du a l=>
  have:Xr a l=bw (.du a l):=by unfold Xr;refine ER (DS ..) (ER (decide_eq_false h.2.2 ..) ?_);rfl
  exact this▸nE (cons_ne_nil _ _) (in1 h.1) rfl rfl rfl (JR h.2.1)
 |b6 a l=>exact nE (cons_ne_nil _ _) (in1 h.1) rfl rfl rfl (OV h.2)
 |dK l b=>exact nE (by rintro rfl;exact absurd h.2.1 (by decide)) h.1 rfl rfl rfl (OU h.2.1 h.2.2)
 |ia a w=>exact nE (cons_ne_nil _ _) (in1 h.1) (GI w) rfl rfl (GH (bl rfl) h.2)
 |pair a b w=>exact nE (cons_ne_nil _ _) (ZP h.1 h.2.1) (GI w) rfl rfl (GH (bl rfl) h.2.2)
 |chain=>exact Bool.noConfusion hc
theorem OX(ahead:List (Ls)):∀(ins:List (Ls×Ls)) (last:Bool),iH last false (ins.map (fun x=>(x.1,some x.2))++ahead.map (fun g=>(g,none)))=true:=by
 intro rv;induction rv with
 |nil=>exact fun last=>Cq _ _ _ fun x hx=>by obtain⟨g,_,rfl⟩:=mem_map.mp hx;rfl
 |cons x ins ih=>
  intro last;show(!((false || (last&&!true))&&true)&&iH true (false || (last&&!true)) (ins.map (fun x=>(x.1,some x.2))++ahead.map (fun g=>(g,none))))=true;refine ER (Bool.not_true ..) (ER (Bool.and_false ..) (ER (Bool.or_false ..) (ER ((ih true) ..) ?_)));rfl
theorem Ao(ins:List (Ls×Ls))(ahead:List (Ls)):∀back:List (Ls),iH false false (fH back ins ahead)=true:=by
 intro rv;induction rv with
 |nil=>exact OX ahead ins false
 |cons _ back ih=>exact ih
theorem GJ{back:List (Ls)}{ins:List (Ls×Ls)}{ahead:List (Ls)}{p:Bool}(h:eX (.chain p back ins ahead)):∀x∈fH back ins ahead,dZ x.1:=fun x hx=>by
 obtain⟨h1,h2,h3,_⟩:=h;rcases mem_append.mp hx with hx|hx
 ·obtain⟨g,hg,rfl⟩:=mem_map.mp hx;exact h1 g hg
 ·rcases mem_append.mp hx with hx|hx
  ·obtain⟨g,hg,rfl⟩:=mem_map.mp hx;exact(h2 g hg).1
  ·obtain⟨g,hg,rfl⟩:=mem_map.mp hx;exact h3 g hg
theorem qz(a b:List IT):bT (a++b)=bT a++bT b:=flatMap_append
theorem GK(k:Nat):∀(a b:List IT),eL k (a++b)=eL ((bT b).length+k) a++eL k b:=by
 intro rv;induction rv with
 |nil=>exact fun b=>rfl
 |cons x a ih=>
  intro b;show JP ((bT (a++b)).length+k) x::eL k (a++b)=JP ((bT a).length+((bT b).length+k)) x::(_++_);exact ER (ih b ..) (ER (qz ..) (ER (length_append ..) (ER (add_assoc ..) rfl)))
theorem Cr:∀(a b:List Item) (k:Nat),bq k (a++b)=bq k a++bq (k+a.length) b:=by
 intro rv;induction rv with
 |nil=>exact fun b k=>rfl
 |cons x a ih=>
  intro b k;dsimp only[cons_append,bq,length_cons];refine ER (ih b (k+1) ..) (ER (add_right_comm k 1 ..) (ER (add_assoc k ..) ?_));split<;>rfl
theorem Cs:∀(l:List Item) (k:Nat),(∀x∈l,x.on=false)→bq k l=[]:=by
 intro rv;induction rv with
 |nil=>exact fun o o=>rfl
 |cons x l ih=>
  intro k h;unfold bq;rw[if_neg (nt (h x (.head _)))];exact ih (k+1) fun y hy=>h y (.tail _ hy)
theorem OY:∀(l:List Item) (k:Nat),(∀x∈l,x.on=true)→bq k l=List.range' k l.length:=by
 intro rv;induction rv with
 |nil=>exact fun o o=>rfl
 |cons x l ih=>
  intro k h;unfold bq;refine ER (if_pos (h x (.head _))) (ER (ih (k+1) fun y hy=>h y (.tail _ hy)) ?_);rfl
theorem RY(k:Nat):∀(l:List IT),Om (eL k l)=l.map fun x=>tupS x.1:=by
 intro rv;induction rv with
 |nil=>exact rfl
 |cons x l ih=>
  have:(JP ((bT l).length+k) x).gl=x.1:=by obtain⟨g,m⟩:=x;induction m<;>rfl
  show P.tup (aq (JP ((bT l).length+k) x).gl)::Om (eL k l)=_;refine ER this (ER ih ?_);rfl
theorem GL(k:Nat):∀(l:List IT),(eL k l).length=l.length:=by
 intro rv;induction rv with
 |nil=>exact rfl
 |cons _ l ih=>exact congrArg (· +1) (ih)
theorem DT{b:Bool}(k:Nat):∀(l:List IT),(∀x∈l,x.2.isSome=b)→∀y∈eL k l,y.on=b:=by
 intro rv;induction rv with
 |nil=>intros;contradiction
 |cons x l ih=>
  intro h y hy;rcases mem_cons.mp hy with rfl|hy
  ·rw[DQ];exact h x (.head _)
  ·exact ih (fun z hz=>h z (.tail _ hz)) y hy
theorem DU{n:Str}(h:o7 n=true):wy n=n:=by
 obtain⟨_,_,_,_,_,l⟩:=qi h;exact if_pos l
theorem OZ(c:Int)(k:Nat):∀ls:Ls,(∀n∈ls,o7 n=true)→(U9 k ls).map (fun u=>(c,wy u.1))=ls.map fun n=>(c,n):=by
 intro rv;induction rv with
 |nil=>exact fun o=>rfl
 |cons n ls ih=>
  intro h;show(c,wy n)::_=(c,n)::_;exact ER (DU (h n (.head _))) (ER (ih fun m hm=>h m (.tail _ hm)) rfl)
theorem O0{pre:List Item}{x:Item}{post:List Item}:Af (pre++x::post) pre.length=x.lk:=by simp[Af]
theorem O2{its A:List Item}{b k:Nat}:∀(ins:List (Ls×Ls)) (pre:List Item) (j:Nat),its=pre++(eL k (ins.map fun x=>(x.1,some x.2))++A)→pre.length=b+j→(∀x∈ins,∀n∈x.2,o7 n=true)→iF its b (List.range' (b+j) ins.length)=ff j ins:=by
 intro rv;induction rv with
 |nil=>
  exact fun _ _ _ _ _=>rfl
 |cons x l ih=>
  intro pre j e hp hn;show(Af its (b+j)).map (fun u=>(((b+j:Nat):Int) - (b:Int),wy u.1))++iF its b (List.range' (b+(j+1)) l.length)=_;refine ER (ih (pre++[JP ((bT (l.map fun x=>((x.1,some x.2):IT))).length+k) (x.1,some x.2)]) (j+1) (e.trans (List.append_cons ..)) (by refine ER length_append (ER hp ?_);rfl) fun y hy=>hn y (.tail _ hy)) (EL hp (ER e ?_));show(Af (pre++_::_) pre.length).map _++_=_;refine ER O0 (ER hp ?_);have ei:((b+j:Nat):Int) - (b:Int)=(j:Int):=by lia
  refine ER ei ?_;exact congrArg (· ++_) (OZ _ _ _ (hn x (.head _)))
theorem getLast_range(b n:Nat):(List.range' b (n+1)).getLastD 0=b+n:=by
 rw[List.getLastD_eq_getLast?,List.getLast?_range'];simp
theorem O3{its:List Item}:∀(bX pre:List Item),its=pre++bX→(∀it∈bX,it.on=false→it.lk=[])→dY its (bq pre.length bX)=bX.flatMap (·.lk):=by
 intro rv;induction rv with
 |nil=>
  exact fun _ _ _=>rfl
 |cons x bX ih=>
  intro pre e h;have ih:=ih (pre++[x]) (by rw[e];simp) fun y hy=>h y (.tail _ hy);rw[length_append]at ih;unfold bq;refine ER flatMap_cons (EL ih ?_);generalize o:x.on=gg;induction gg with
  |true=>
   refine ER (if_pos rfl) ?_;show Af its pre.length++_=_;refine ER e (ER O0 ?_);rfl
  |false=>refine ER (if_neg Bool.false_ne_true) (ER (h x (.head _) o) ?_);rfl
theorem Ve(k:Nat):∀(l:List IT),∀it∈eL k l,it.on=false→it.lk=[]:=by
 intro rv;induction rv with
 |nil=>intros;contradiction
 |cons x l ih=>
  intro it h ho;rcases mem_cons.mp h with rfl|h
  ·obtain⟨g,m⟩:=x;induction m with
   |none=>rfl
   |some ls=>contradiction
  ·exact ih it h ho
theorem LU{p:Bool}{back:List (Ls)}{ins:List (Ls×Ls)}{ahead:List (Ls)}(h:eX (.chain p back ins ahead))(k:Nat):
  iG (kR p).str (eL k (fH back ins ahead))=wG (.chain p back ins ahead)∧(eL k (fH back ins ahead)).any (·.on)=true:=by
 obtain⟨_,hi,_,dG⟩:=h;have e0:eL k (fH back ins ahead)=_:=(GK k _ _).trans (congrArg (_++ ·) (GK k _ _));have hg:=RY k (fH back ins ahead);rw[e0]at hg ⊢;generalize hB:eL _ (back.map fun g=>((g,none):IT))=B at hg ⊢;have ha:=O2 (its:=B++(eL ((bT (ahead.map fun g=>((g,none):IT))).length+k) (ins.map fun x=>((x.1,some x.2):IT))++eL k (ahead.map fun g=>((g,none):IT)))) (b:=B.length) ins B 0 rfl rfl fun x hx=>(hi x hx).2;rw[Nat.add_zero]at ha;generalize hI:eL ((bT (ahead.map fun g=>((g,none):IT))).length+k) (ins.map fun x=>((x.1,some x.2):IT))=I at hg ha ⊢;generalize hA:eL k (ahead.map fun g=>((g,none):IT))=A at hg ha ⊢;have bl:B.length=back.length:=by refine EL (hB ..) (ER (GL ..) ?_);exact length_map _
 have il:I.length=ins.length:=by refine EL (hI ..) (ER (GL ..) ?_);exact length_map _
 have bo:∀x∈B,x.on=false:=by rw[←hB];exact DT _ _ fun x hx=>by obtain⟨g,_,rfl⟩:=mem_map.mp hx;rfl
 have io:∀x∈I,x.on=true:=by refine EL hI ?_;exact DT _ _ fun x hx=>by obtain⟨g,_,rfl⟩:=mem_map.mp hx;rfl
 have ao:∀x∈A,x.on=false:=by rw[←hA];exact DT _ _ fun x hx=>by obtain⟨g,_,rfl⟩:=mem_map.mp hx;rfl
 have hm:marks (B++(I++A))=List.range' B.length ins.length:=by
  unfold marks;refine ER (Cr ..) (ER (Cr ..) (ER (Cs B 0 bo ..) (ER (Cs A _ ao ..) (ER (OY I _ io ..) (ER (il ..) (ER (append_nil ..) (ER (zero_add ..) ?_)))))));rfl
 obtain⟨n,hn⟩:∃n,ins.length=n+1:=⟨ins.length - 1,by have:=List.length_pos_iff.mpr dG;grind only⟩;have h0:n5 (B++(I++A))=B.length:=by unfold n5;refine ER hm (ER hn ?_);rfl
 constructor
 ·unfold iG;refine ER h0 (ER ((by unfold DH;exact ER (hm ..) (ER (hn ..) (ER (getLast_range ..) rfl))):DH (B++(I++A))=B.length+n) (ER hm (ER hg (ER ha (ER bl ?_)))));have e:(fH back ins ahead).map (fun x=>tupS x.1)=back.map tupS++(ins.map (fun x=>tupS x.1)++ahead.map tupS):=by simp[fH,Function.comp_def]
  have t1:(back.map tupS++(ins.map (fun x=>tupS x.1)++ahead.map tupS)).take back.length=back.map tupS:=take_left' (length_map _);have t2:(back.map tupS++(ins.map (fun x=>tupS x.1)++ahead.map tupS)).drop back.length=ins.map (fun x=>tupS x.1)++ahead.map tupS:=List.drop_left' (length_map _);have t3:(back.map tupS++(ins.map (fun x=>tupS x.1)++ahead.map tupS)).drop (back.length+n+1)=ahead.map tupS:=by refine EL (append_assoc ..) ?_;exact List.drop_left' (by refine ER (length_append ..) (ER (length_map ..) (ER (length_map ..) (ER (hn ..) ?_)));rfl)
  have t4:(ins.map (fun x=>tupS x.1)++ahead.map tupS).take (back.length+n+1 - back.length)=ins.map (fun x=>tupS x.1):=take_left' (by refine ER (length_map ..) (ER (hn ..) ?_);lia);refine ER e (ER t1 (ER t2 (ER t3 (ER t4 ?_))));rfl
 ·refine ER List.any_append (ER List.any_append ?_);have:I.any (·.on)=true:=by
   induction I with
   |nil=>rw[hn]at il;contradiction
   |cons x I=>refine ER any_cons (ER (io x (.head _)) ?_);rfl
  exact ER (this ..) (ER (Bool.true_or ..) (ER (Bool.or_true ..) rfl))
theorem DV{x:LR}(h:eX x)(r:Lk):lu (bF x++r)= .ok (bw x,An r.length x) r:=by
 generalize c:cY x=gg;induction gg with
 |false=>
  have:An r.length x=[]:=by induction x<;>first|rfl|contradiction
  refine ER this ?_;exact(OW h c).acc r rfl
 |true=>
  induction x with
  |chain p back ins ahead=>
   obtain⟨c1,c2⟩:=LU h (Tk.sg .semi::r).length;have dG:fH back ins ahead≠[]:=fun e=>by
    have:=(List.append_eq_nil_iff.mp (List.append_eq_nil_iff.mp e).2).1
    exact h.2.2.2 (List.map_eq_nil_iff.mp this)
   show(gc (bT (fH back ins ahead)++([]++[Tk.sg .semi])++r)).bind _=_;refine ER (append_assoc ..) ?_;show(gc (bT (fH back ins ahead)++Tk.sg .semi::r)).bind _=_;refine ER (wD dG (GJ h) (Ao _ _ _) (Tk.sg .semi::r) rfl) ?_;show(rowOf (kR p).str (eL _ (fH back ins ahead)) _ _).bind _=_;unfold rowOf;refine ER (if_pos c2) (ER c1 ?_);have:=O3 (its:=eL (r.length+1) (fH back ins ahead)) _ [] rfl (Ve _ _);exact(congrArg (·.bind fun U r3=>PR.ok (bw (.chain p back ins ahead),dY (eL (r.length+1) (fH back ins ahead)) (marks (eL (r.length+1) (fH back ins ahead)))) r3) (vh (.sg .semi) r)).trans (congrArg (fun u=>PR.ok (bw (.chain p back ins ahead),u) r) this)
  |_=>exact Bool.noConfusion c
noncomputable def l9:Lk→Lk
 |[]=>[]
 |t::r=>if decide (t= .sg .lb)then t::r else l9 r
noncomputable def jG(q:Lk):Bool:=decide (Tk.sg .q∉q)&&(decide (Tk.kw .eV∉q)&&(decide (Tk.sg .lb∈q)&&decide (q.count (.sg .lb)=q.count (.sg .rb))))
def O4(q:Lk):Lk:=if jG q then l9 q else []
theorem jN{q:Lk}(h:Tk.sg .lb∉q∨Tk.kw .eV∈q∨Am q):jG q=false:=by
 refine Bool.eq_false_iff.mpr fun z=>?_;obtain⟨h1,z⟩:=and_eq_true_iff.mp z;obtain⟨h2,z⟩:=and_eq_true_iff.mp z;obtain⟨h3,h4⟩:=and_eq_true_iff.mp z;rcases h with h|h|h|h
 ·exact h (of_decide_eq_true h3)
 ·exact of_decide_eq_true h2 h
 ·exact of_decide_eq_true h1 h
 ·exact h (of_decide_eq_true h4)
theorem rj{q:Lk}(h:jG q=false):O4 q=[]:=if_neg (nt h)
def Last(q:Lk):Prop:=q.getLast?=some (.sg .lb)
theorem Aq{a b:Lk}(ha:¬Last a)(hb:¬Last b):¬Last (a++b):=fun z=>by
 unfold Last at z hb;rw[List.getLast?_append]at z;cases e:b.getLast? with
 |none=>rw[e]at z;exact ha z
 |some d=>rw[e]at z hb;exact hb z
theorem DW{q:Lk}(h:Tk.sg .lb∉q):¬Last q:=fun z=>h (List.mem_of_getLast? z)
theorem O5:∀l:List IT,¬Last (bT l):=by
 intro rv;induction rv with
 |nil=>exact DW fun h=>by cases h
 |cons xx l ih=>
  obtain⟨g,m⟩:=xx;refine Aq (Aq ?_ (DW ?_)) (ih)
  ·unfold cJ;refine iT (fun _=>?_) fun _=>?_
   ·exact DW (Iq rfl)
   ·exact fun z=>by have:=(List.getLast?_concat (l:=Tk.sg .lb::ee g) (a:=.sg .rb)).symm.trans z;contradiction
  ·induction m with
   |none=>exact fun h=>(not_mem_nil h).elim
   |some ls=>exact fun h=>(mem_cons.mp h).elim (fun e=>absurd e (by decide)) fun h=>by rcases Ir h with h|h<;>contradiction
theorem DX:∀r:Lk,g6 [] r.length r=if decide (Tk.sg .lb∈r)then .err (l9 r)else .ok () []:=by
 intro rv;induction rv with
 |nil=>exact rfl
 |cons t r ih=>
  show(if jC (.sg .lb) (t::r)then PR.err (t::r)else g6 [] r.length r)=_;by_cases h:t= .sg .lb
  ·subst h;rfl
  ·refine ER (if_neg (nt (vg h r))) (ER ih ?_);have e:l9 (t::r)=l9 r:=if_neg fun z=>h (of_decide_eq_true z);refine ER e ?_;have:decide (Tk.sg .lb∈t::r)=decide (Tk.sg .lb∈r):=decide_eq_decide.mpr (by simp[Ne.symm h]);exact ER this rfl
theorem DY{c:Tk}{l:List IT}(h:c∈bT l):c.isNm=true∨c= .sg .lb∨c= .sg .rb∨c= .kw .lookup∨(c= .sg .q∧∃x∈l,x.2.isSome=true):=by
 obtain⟨⟨g,m⟩,hx,h⟩:=mem_flatMap.mp h;rcases mem_append.mp h with h|h
 ·rcases mem_set h with h|h|h
  ·exact .inl h
  ·exact .inr (.inl h)
  ·exact .inr (.inr (.inl h))
 ·induction m with
  |none=>exact nomatch h
  |some ls=>
   rcases mem_cons.mp h with h|h
   ·exact .inr (.inr (.inr (.inr ⟨h,_,hx,rfl⟩)))
   ·rcases Ir h with h|h
    ·exact .inl h
    ·exact .inr (.inr (.inr (.inl h)))
theorem RZ(k:Nat):∀l:List IT,(eL k l).any (·.on)=l.any (·.2.isSome):=by
 intro rv;induction rv with
 |nil=>exact rfl
 |cons x l ih=>
  show((JP _ x).on || (eL k l).any (·.on))=_;refine ER (DQ ..) (ER (ih ..) ?_);rfl
theorem Tu{l:List IT}:Tk.sg .q∈bT l↔l.any (·.2.isSome)=true:=by
 refine⟨fun h=>?_,fun h=>?_⟩
 ·rcases DY h with h|h|h|h|⟨_,x,hx,h⟩
  ·contradiction
  ·contradiction
  ·contradiction
  ·contradiction
  ·exact any_eq_true.mpr ⟨x,hx,h⟩
 ·obtain⟨⟨g,m⟩,hx,h⟩:=any_eq_true.mp h;induction m with
  |none=>contradiction
  |some ls=>exact mem_flatMap.mpr ⟨_,hx,mem_append_right _ (.head _)⟩
theorem LV{l:List IT}{k:Kw}{q:Lk}(hk:k≠ .eV)(nP:∀x∈l,dZ x.1)(hf:iH false false l=true)(hq:q <+:bT l):lu (.kw k::q)= .err (O4 (.kw k::q))∧(jG (.kw k::q)=true→¬Last (.kw k::q)):=by
 have cl:(Tk.kw k::q).count (.sg .lb)=q.count (.sg .lb):=List.count_cons_of_ne (by simp);have cr:(Tk.kw k::q).count (.sg .rb)=q.count (.sg .rb):=List.count_cons_of_ne (by simp);rcases LK nP hf hq with ⟨l',rfl,e⟩|⟨b,e⟩
 ·refine⟨?_,fun U=>Aq (a:=[.kw k]) (fun z=>by cases z) (O5 l')⟩;rcases e with rfl|e
  ·refine ER (rj (jN (.inl (by intro h;rcases mem_cons.mp h with h|h<;>cases h)))) ?_;rfl
  ·show(gc (bT l')).bind _=_;refine ER e ?_;show(rowOf k.str (eL 0 l') (bT l') []).bind _=_;unfold rowOf;refine ER (RZ ..) ?_;generalize m:l'.any (·.2.isSome)=gg;induction gg with
   |true=>refine ER (if_pos rfl) (ER (rj (jN (.inr (.inr (.inl (.tail _ (Tu.mpr m))))))) ?_);rfl
   |false=>
    have h2:Tk.kw .eV∉bT l':=fun h=>by rcases DY h with h|h|h|h|⟨h,_⟩<;>contradiction
    refine ER (if_neg Bool.false_ne_true) ?_;show((g6 [] (bT l').length (bT l')).bind _).bind _=_;refine ER (DX ..) ?_;by_cases h3:Tk.sg .lb∈bT l'
    ·have:jG (.kw k::bT l')=true:=by
      unfold jG;refine ER (cl ..) (ER (cr ..) (ER (JQ ..) (ER (decide_eq_true rfl ..) (ER (decide_eq_true (List.mem_cons_of_mem _ h3) ..) (ER (decide_eq_true (p:=Tk.kw .eV∉_) (fun h=>(mem_cons.mp h).elim (fun e=>hk (Tk.kw.inj e).symm) h2) ..) (ER (decide_eq_true (p:=Tk.sg .q∉_) fun h=>(mem_cons.mp h).elim (fun e=>Tk.noConfusion e) (fun h=>by rw[Tu.mp h]at m;contradiction:Tk.sg .q∉bT l') ..) ?_))))));rfl
     refine ER (if_pos (decide_eq_true h3)) ?_;exact congrArg PR.err (if_pos this).symm
    ·refine ER (if_neg fun z=>h3 (of_decide_eq_true z)) (ER (rj (q:=.kw k::bT l') (jN (.inl fun h=>(mem_cons.mp h).elim (fun e=>Tk.noConfusion e) h3))) ?_);show((if decide (k.str= "sub")then tM (eL 0 l') []else wC (eL 0 l') []).bind _).bind _=_;have s:tM (eL 0 l') []= .err []:=by unfold tM;refine ER (show jC (.kw .eV) []=false from rfl ..) (ER (Bool.and_false ..) (ER (if_neg Bool.false_ne_true ..) ?_));rfl
     have p:wC (eL 0 l') []= .err []:=by unfold wC;refine iT (fun _=>?_) fun _=>?_<;>rfl
     refine ER (s ..) (ER (p ..) (ER (ite_self ..) ?_));rfl
 ·have no:jG (.kw k::q)=false:=jN (.inr (.inr (b.imp (List.mem_cons_of_mem _) (by refine ER cl (ER cr ?_);exact id))));refine⟨?_,fun z=>absurd z (nt no)⟩;show(gc q).bind _=_;refine ER e (ER (rj no) ?_);rfl
noncomputable def O6:LR→Bool
 | .b6 .. =>true
 |_=>false
theorem gr{f:Tk→Bool}(h:∀w,f (.nm w)=true)(l:Ls):(ee l).all f=true:=all_eq_true.mpr fun c hc=>by obtain⟨w,_,rfl⟩:=mem_map.mp hc;exact h w
theorem rk{f:Tk→Bool}{x:LR}(hn:∀w,f (.nm w)=true)(hu:∀w,f (.nu w)=true)(hp:([.kw .Ca,.kw .null,.kw .eV,.sg .lt,.sg .gt]:Lk).all f=true)(hs:(cY x || O6 x)=true→([.sg .lb,.sg .rb,.kw .lookup,.sg .q]:Lk).all f=true):(i8 x++jF x).all f=true:=by
 simp only[all_cons,all_nil,Bool.and_true,and_eq_true]at hp hs;obtain⟨p1,p2,p3,p4,p5⟩:=hp;have r:∀l,(iI l).all f=true:=fun l=>by
  unfold iI;refine iT (fun _=>?_) fun _=>?_
  ·simp only[all_cons,all_nil,p2];rfl
  ·exact gr hn l
 have w:∀w,(cK w).all f=true:=fun w=>by
  unfold cK;refine iT (fun _=>?_) fun _=>?_
  ·simp only[vn,all_cons,all_nil,hu];rfl
  ·simp only[yq.l,map_cons,map_nil,vn,all_cons,all_append,all_nil,hu,p4,p5];rfl
 refine ER all_append ?_;induction x with
 |chain p back ins ahead=>
  obtain⟨s1,s2,s3,s4⟩:=hs rfl;refine and_eq_true_iff.mpr ⟨all_eq_true.mpr fun c hc=>?_,rfl⟩;rcases DY hc with h|h|h|h|⟨h,_⟩
  ·induction c<;>first|exact hn _|exact Bool.noConfusion h
  ·refine ER h ?_;exact s1
  ·refine ER h ?_;exact s2
  ·refine ER h ?_;exact s3
  ·refine ER h ?_;exact s4
 |b6 a l=>
  obtain⟨s1,s2,s3,s4⟩:=hs rfl;simp only[i8,jF,all_cons,all_append,all_nil,gr hn,p3,s1,s2];rfl
 |single a b=>simp only[i8,jF,all_cons,gr hn,p1,r];rfl
 |du a l=>simp only[i8,jF,all_cons,gr hn,p1,r];rfl
 |dK l b=>simp only[i8,jF,all_cons,all_nil,gr hn,p1,hn];rfl
 |ia a w'=>simp only[i8,jF,gr hn,w];rfl
 |pair a b w'=>simp only[i8,jF,gr hn,w];rfl
theorem Iz(x:LR):d7 x= .sub∨d7 x= .pos:=by
 induction x with
 |chain p=>cases p;exact .inl rfl;exact .inr rfl
 |_=>first|exact .inl rfl|exact .inr rfl
theorem R0{x:LR}(h:eX x){q:Lk}(hq:q <+:bF x)(hn:q≠bF x):lu q= .err (O4 q)∧(jG q=true→¬Last q):=by
 rcases bS hq with rfl|⟨q1,rfl,h1⟩
 ·exact⟨rfl,fun z=>Bool.noConfusion z⟩
 have h2:q1 <+:i8 x++jF x:=kQ (s:=Tk.sg .semi) (by refine ER (append_assoc ..) ?_;exact h1) fun e=>hn (by refine ER (e ..) (ER (append_assoc ..) ?_);rfl);have plain:cY x=false→(Tk.sg .lb∉q1∨Tk.kw .eV∈q1)→lu (.kw (d7 x)::q1)= .err (O4 (.kw (d7 x)::q1))∧(jG (.kw (d7 x)::q1)=true→¬Last (.kw (d7 x)::q1)):=fun hc hb=>by
  have:=(OW h hc).cut _ hq hn
  have no:jG (.kw (d7 x)::q1)=false:=jN (hb.imp (fun z h=>(mem_cons.mp h).elim (fun e=>Tk.noConfusion e) z) fun h=>.inl (.tail _ h));refine⟨?_,fun z=>absurd z (nt no)⟩;refine ER (rj no) ?_;revert this;generalize lu (.kw (d7 x)::q1)=z;intro hz;induction hz with
  |err=>rfl
  |ok z=>contradiction
 generalize hc:cY x=gg;induction gg with
 |true=>
  induction x with
  |chain p back ins ahead=>exact LV (by induction p<;>exact fun e=>by cases e) (GJ h) (Ao _ _ _) (by have:i8 (.chain p back ins ahead)++[]=bT (fH back ins ahead):=append_nil _;exact this▸h2)
  |_=>exact Bool.noConfusion hc
 |false=>
  refine plain hc ?_;generalize ha:O6 x=gg;induction gg with
  |true=>
   induction x with
   |b6 a l=>
    rcases bS h2 with rfl|⟨q2,rfl,h3⟩
    ·exact .inl (fun h=>nomatch h)
    ·rcases bS h3 with rfl|⟨q3,rfl,h4⟩
     ·exact .inl fun h=>(mem_cons.mp h).elim (fun e=>Tk.noConfusion e) fun h=>nomatch h
     ·exact .inr (.tail _ (.head _))
   |_=>exact Bool.noConfusion ha
  |false=>exact .inl fun z=>absurd (all_eq_true.mp (rk (f:=fun c=> !decide (c= .sg .lb)) (x:=x) (fun U=>rfl) (fun U=>rfl) rfl (by refine ER hc (ER ha ?_);exact fun z=>Bool.noConfusion z)) _ (h2.subset z)) (by decide)
structure LL where
 name:Str
 flag:Int
 rows:List LR
structure FL where
 tag:Str
 bk:Str
 aC:Str
 dw:Ls
def LL.lb(l:LL):LB:=⟨l.name,l.flag,l.rows.map bw⟩
def aR(rows:List LR):Lk:=rows.flatMap bF
def fg(i:Int):Lk:=if decide (i > 0)then [.kw .flag,vn i]else []
def c7(l:LL):Lk:=.nm l.name::(fg l.flag++[.sg .lc])
def gF(l:LL):Lk:=c7 l++(aR l.rows++[.sg .rc])
def wH(l:LL):Lk:=.kw .lookup::gF l
noncomputable def dQ(k:Kw)(d w:Str):Lk:=if decide (w=d)then []else [.kw k,.nm w]
def Ar(f:FL):Lk:=.nm f.tag::(dQ .bk "DFLT" f.bk++(dQ .aC "dflt" f.aC++ .sg .lc::(ee f.dw++[.sg .rc])))
def jt(f:FL):Lk:=.kw .gp::Ar f
def bz(l:List LL):Lk:=l.flatMap wH
def bI(l:List FL):Lk:=l.flatMap jt
def n8(i:Int):Prop:=Q9 (rO i)=true∧(rO i).length≤6∧wx (rO i)=i∧0≤i∧i≤65535
noncomputable def my:List (Str×P)→List LR→Prop
 |_,[]=>True
 |acc,x::l=>cj acc (bw x)=true∧my (acc++[bw x]) l
structure nF (l:LL):Prop where
 name:o7 l.name=true
 flag:n8 l.flag
 ne:l.rows≠[]
 rows:∀x∈l.rows,eX x
 R4:my [] l.rows
structure LW (f:FL):Prop where
 tag:f.tag.length≤4
 bk:f.bk.length≤4
 aC:f.aC.length≤4
 ne:f.dw≠[]
 dw:∀n∈f.dw,o7 n=true
noncomputable def gm(k:Nat):List LR→List eQ
 |[]=>[]
 |x::l=>An ((aR l).length+k) x++gm k l
noncomputable def oO(k:Nat):Ls→List eQ
 |[]=>[]
 |n::l=>(n,l.length+1+k)::oO k l
def FL.fr(k:Nat)(f:FL):FR:=⟨f.tag,f.bk,f.aC,oO (1+k) f.dw⟩
noncomputable def pg(k:Nat):List FL→List FR
 |[]=>[]
 |f::fs=>f.fr ((bI fs).length+k)::pg k fs
noncomputable def iJ(k:Nat):List LL→List eQ
 |[]=>[]
 |l::ls=>gm (1+((bz ls).length+k)) l.rows++iJ k ls
noncomputable def mz(k:Nat):List FL→List eQ
 |[]=>[]
 |f::fs=>oO (1+((bI fs).length+k)) f.dw++mz k fs
section
theorem O7(x:LR)(r:Lk):i6 (.kw (d7 x)::r)=true:=by
 rcases Iz x with e|e<;>refine ER e ?_<;>rfl
theorem DZ:∀(rows:List LR) (N:Nat) (acc:List (Str×P)) (us:List eQ) (r:Lk),(∀x∈rows,eX x)→my acc rows→kO (rows.length+N) acc us (aR rows++r)=kO N (acc++rows.map bw) (us++gm r.length rows) r:=by
 intro rv;induction rv with
 |nil=>exact fun N acc us r o o=>by refine ER (length_nil ..) (ER (zero_add ..) (ER (map_nil ..) (ER (append_nil ..) (ER (show gm r.length []=[] from rfl ..) (ER (append_nil ..) ?_)))));rfl
 |cons x rows ih=>
  intro N acc us r h hc;show kO (rows.length+1+N) acc us (bF x++aR rows++r)=_;refine ER (append_assoc ..) (ER (add_right_comm ..) ?_);show(if i6 (.kw (d7 x)::_)then(lu (bF x++(aR rows++r))).bind _ else _)=_;refine ER (if_pos (O7 x _) ..) (ER (DV (h x (.head _)) ..) ?_);show(if cj acc (bw x)then PR.ok () (aR rows++r)else PR.err (bF x++(aR rows++r)):PR Unit).bind _=_;rw[if_pos hc.1];show kO _ _ _ _=_;refine ER ((ih N (acc++[bw x]) (us++An (aR rows++r).length x) r (fun y hy=>h y (.tail _ hy)) hc.2) ..) (ER (append_assoc ..) (ER (append_assoc ..) (ER (length_append ..) ?_)));rfl
theorem wI:∀rows:List LR,rows.length≤(aR rows).length:=by
 intro rv;induction rv with
 |nil=>exact le_refl _
 |cons x l ih=>
  have:=ih
  show l.length+1≤(bF x++aR l).length;rw[length_append];show _≤(_+1)+_;grind only
def O8(r:Lk):PR (Str×Int):=(qm r).bind fun name r=>(Cj r).bind fun flag r=>(bO (.sg .lc) r).bind fun U r=>.ok (name,flag) r
def Tv(x:Str×Int)(r:Lk):PR (LB×List eQ):=(kO (r.length+1) [] [] r).bind fun y r=>if y.1.isEmpty then .err r else(bO (.sg .rc) r).bind fun U r=>.ok (⟨x.1,x.2,y.1⟩,y.2) r
theorem n9(r:Lk):gq r=(O8 r).bind Tv:=by
 unfold gq O8 Tv;rw[iD]
 congr 1
 funext name r
 rw[iD]
 congr 1
 funext flag r
 rw[iD];rfl
theorem O9{c:Tk}{r:Lk}(h:Ip c r.head?=true):¬jC c r=true:=nt (DO h)
theorem R5{i:Int}(h:n8 i):Rd true (Ip (.kw .flag)) Cj (fg i) fun U=>i:=by
 unfold fg;refine iT (fun _=>?_) fun _=>?_
 ·refine⟨fun r U=>(if_pos (i7 _ _)).trans ?_,fun q hq hn=>?_⟩
  ·obtain⟨_,l,v,h1,h2⟩:=h;show(if Xh (vn i::r)&&(!decide (((rO i).length:Int) > 6)&&(decide (0≤wx (rO i))&&decide (wx (rO i)≤65535)))then PR.ok (wx (rO i)) r else _)=_;refine ER v (ER (decide_eq_false (by omega)) (ER (decide_eq_true h1) (ER (decide_eq_true h2) ?_)));rfl
  ·rcases bS hq with rfl|⟨q,rfl,h1⟩
   ·exact .ok rfl _
   ·rcases bS h1 with rfl|⟨q,rfl,h2⟩
    ·exact .err
    ·rw[prefix_nil.mp h2]at hn;exact absurd rfl hn
 ·rename_i h0;have:i=0:=by have:=h.2.2.2.1;have:¬i > 0:=fun z=>h0 (decide_eq_true z);omega
  subst this;exact⟨fun r hr=>if_neg (O9 hr),fun q hq hn=>absurd (prefix_nil.mp hq) hn⟩
theorem Tw{k:Kw}{d w:Str}(h:w.length≤4):Rd true (Ip (.kw k)) (Mu (.kw k) d) (dQ k d w) fun U=>w:=by
 unfold dQ;refine iT (fun _=>?_) fun _=>?_
 ·rename_i e;refine ER (of_decide_eq_true e) ?_;exact⟨fun r hr=>if_neg (O9 hr),fun q hq hn=>absurd (prefix_nil.mp hq) hn⟩
 ·refine⟨fun r U=>(if_pos (i7 _ _)).trans (OM h r),fun q hq hn=>?_⟩;rcases bS hq with rfl|⟨q,rfl,h1⟩
  ·exact .ok rfl _
  rcases bS h1 with rfl|⟨q,rfl,h2⟩
  ·have e:Mu (.kw k) d [.kw k]=Dz []:=if_pos (i7 _ _);exact e▸ .err
  ·rw[prefix_nil.mp h2]at hn;exact absurd rfl hn
theorem vp{l:LL}(h:n8 l.flag):Rd false lz O8 (c7 l) fun U=>(l.name,l.flag):=
 (RI (s:=false) l.name).then (k:=fun name r=>(Cj r).bind fun flag r=>(bO (.sg .lc) r).bind fun U r=>.ok (name,flag) r) (u:=fg l.flag++[.sg .lc]) Gz.any (fun U=>
  (R5 h).then (k:=fun flag r=>(bO (.sg .lc) r).bind fun U r=>.ok (l.name,flag) r) (Gz.cons rfl rfl) (fun U=>(n7 (.sg .lc)).map (f:=fun U=>(l.name,l.flag))) fun U=>.err) fun U=>.err
theorem Pa{l:LL}(h:nF l)(r:Lk):gq (gF l++r)= .ok (l.lb,gm (1+r.length) l.rows) r:=by
 refine ER (n9 ..) (ER (((by unfold gF;refine ER (append_assoc ..) (ER (append_assoc ..) ?_);rfl):gF l++r=c7 l++(aR l.rows++ .sg .rc::r)) ..) (ER ((vp h.flag).acc _ rfl ..) ?_));show(kO ((aR l.rows++ .sg .rc::r).length+1) [] [] (aR l.rows++ .sg .rc::r)).bind _=_;have le:=wI l.rows;obtain⟨N,hN⟩:∃N,(aR l.rows++Tk.sg .rc::r).length+1=l.rows.length+(N+1):=⟨(aR l.rows++Tk.sg .rc::r).length - l.rows.length,by refine ER length_append ?_;lia⟩;refine ER hN (ER (DZ l.rows _ [] [] _ h.rows h.R4) ?_);show(if i6 (.sg .rc::r)then _ else PR.ok _ _).bind _=_;rw[if_neg (show ¬i6 (.sg .rc::r)=true from fun z=>Bool.noConfusion z)];show(if (l.rows.map bw).isEmpty then _ else(bO (.sg .rc) (.sg .rc::r)).bind _)=_;refine ER (if_neg (by rw[isEmpty_iff];exact fun z=>h.ne (List.map_eq_nil_iff.mp z)) ..) (ER (vh ..) (ER (add_comm 1 ..) ?_));rfl
theorem Pb(l:Ls)(N:Nat)(us:List eQ)(r:Lk)(hr:U7 r.head?=true)(hN:l.length<N):jE N us (ee l++r)= .ok (us++oO r.length l) r:=by
 induction l generalizing us N with
 |nil=>induction N with
  |zero=>exact(not_lt_zero _ hN).elim
  |succ N=>
   refine ER (show oO r.length []=[] from rfl ..) (ER (append_nil ..) ?_);refine if_neg (nt (show EM r=false from ?_));induction r with
   |nil=>rfl
   |cons c r=>induction c<;>first|rfl|contradiction
 |cons n l ih=>induction N with
  |zero=>exact(not_lt_zero _ hN).elim
  |succ N=>
   show jE N (us++[(n,(ee l++r).length+1)]) (ee l++r)=_;refine ER (ih N _ (lt_of_succ_lt_succ hN) ..) (ER (append_assoc ..) (ER (length_append ..) (ER (dT ..) (ER (add_right_comm ..) ?_))));rfl
theorem R6(l:Ls):Rd true U7 (fun r=>jE (r.length+1) [] r) (ee l) fun k=>oO k l:=by
 have ok:∀l r,U7 r.head?=true→jE ((ee l++r).length+1) [] (ee l++r)= .ok (oO r.length l) r:=fun l r hr=>Pb l _ [] r hr (by refine ER (length_append ..) (ER (dT ..) ?_);lia);refine⟨ok l,fun q hq hn=>?_⟩;obtain⟨l',rfl,p⟩:=vj hq;have:=ok l' [] rfl;rw[append_nil]at this;show Ends true (jE _ [] _);rw[this];exact .ok rfl _
theorem JS{f:FL}(h:LW f):Rd false lz ng (Ar f) fun k=>f.fr k:=by
 have o:∀{k:Kw} {d w:Str} {g:Option Tk→Bool} {u:Lk},g none=true→g (some (.kw k))=true→g u.head?=true→u≠[]→Gz g lz (dQ k d w++u):=fun {k d w g u} h0 h1 h2 h3=>by
  unfold dQ;refine iT (fun _=>?_) fun _=>?_
  ·induction u with
   |nil=>exact absurd rfl h3
   |cons c u=>exact .cons h0 h2
  ·exact .cons h0 h1
 refine(U8 (s:=false) h.tag).then (k:=fun tag r=>(Mu (.kw .bk) "DFLT" r).bind fun sc r=>(Mu (.kw .aC) "dflt" r).bind fun la r=>(bO (.sg .lc) r).bind fun U r=>(jE (r.length+1) [] r).bind fun us r=>if us.isEmpty then .err r else(bO (.sg .rc) r).bind fun U r=>.ok (FR.mk tag sc la us) r)
  (u:=dQ .bk "DFLT" f.bk++(dQ .aC "dflt" f.aC++ .sg .lc::(ee f.dw++[.sg .rc]))) Gz.any (fun U=>?_) fun U=>.err
 refine(Tw h.bk).then (k:=fun sc r=>(Mu (.kw .aC) "dflt" r).bind fun la r=>(bO (.sg .lc) r).bind fun U r=>(jE (r.length+1) [] r).bind fun us r=>if us.isEmpty then .err r else(bO (.sg .rc) r).bind fun U r=>.ok (FR.mk f.tag sc la us) r)
  (o rfl rfl rfl (cons_ne_nil _ _)) (fun U=>?_) fun U=>.err
 refine(Tw h.aC).then (k:=fun la r=>(bO (.sg .lc) r).bind fun U r=>(jE (r.length+1) [] r).bind fun us r=>if us.isEmpty then .err r else(bO (.sg .rc) r).bind fun U r=>.ok (FR.mk f.tag f.bk la us) r)
  (.cons rfl rfl) (fun U=>?_) fun U=>.err
 refine(n7 (s:=false) (.sg .lc)).then (k:=fun U r=>(jE (r.length+1) [] r).bind fun us r=>if us.isEmpty then .err r else(bO (.sg .rc) r).bind fun U r=>.ok (FR.mk f.tag f.bk f.aC us) r) (u:=ee f.dw++[.sg .rc]) Gz.any (fun U=>?_) fun U=>.err;refine(R6 f.dw).bind (k:=fun us r=>if us.isEmpty then .err r else(bO (.sg .rc) r).bind fun U r=>.ok (FR.mk f.tag f.bk f.aC us) r) (u:=[.sg .rc]) (.cons rfl rfl) (fun r U=>?_) (fun n q hq hn=>?_) fun us=>?_
 ·have:(oO (1+r.length) f.dw).isEmpty=false:=by
   generalize e:f.dw=gg;induction gg with
   |nil=>exact absurd e h.ne
   |cons=>rfl
  show(if (oO (1+r.length) f.dw).isEmpty then _ else(bO (.sg .rc) (.sg .rc::r)).bind _)=_;refine ER (this ..) (ER (if_neg Bool.false_ne_true ..) (ER (vh ..) ?_));rfl
 ·rcases bS hq with rfl|⟨q,rfl,h1⟩
  ·show Ends false (if _ then _ else _);refine iT (fun _=>?_) fun _=>?_<;>exact .err
  ·replace hn:=(prefix_nil.mp h1)▸hn;exact absurd rfl hn
 ·show Ends false (if _ then _ else _);refine iT (fun _=>?_) fun _=>?_<;>exact .err
theorem oj{N:Nat}{L:List LB}{F:List FR}{us:List eQ}{r:Lk}:bD (N+1) L F us (.kw .lookup::r)=if decide (jo r∈names L)then .err r else(gq r).bind fun x r'=>bD N (L++[x.1]) F (us++x.2) r':=
 (if_neg fun z=>Bool.noConfusion z).trans (if_pos (i7 _ _))
theorem JT{N:Nat}{L:List LB}{F:List FR}{us:List eQ}{r:Lk}:bD (N+1) L F us (.kw .gp::r)=(ng r).bind fun x r'=>bD N L (F++[x]) (us++x.uses) r':=
 (if_neg fun z=>Bool.noConfusion z).trans ((if_neg (nt (vg (by decide) _))).trans (by rw[vh];rfl))
theorem Vf:∀(aY:List LL) (N:Nat) (L:List LB) (F:List FR) (us:List eQ) (r:Lk),(∀l∈aY,nF l)→(names L++aY.map (·.name)).Nodup→bD (aY.length+N) L F us (bz aY++r)=bD N (L++aY.map LL.lb) F (us++iJ r.length aY) r:=by
 intro rv;induction rv with
 |nil=>exact fun N L F us r o o=>by refine ER (length_nil ..) (ER (zero_add ..) (ER (map_nil ..) (ER (append_nil ..) (ER (show iJ r.length []=[] from rfl ..) (ER (append_nil ..) ?_)))));rfl
 |cons l aY ih=>
  intro N L F us r h hn;have e1:names (L++[l.lb])=names L++[l.name]:=map_append;have hnot:¬l.name∈names L:=fun hm=>(nodup_append.mp hn).2.2 _ hm _ (.head _) rfl;show bD (aY.length+1+N) L F us (wH l++bz aY++r)=_;refine ER (append_assoc ..) (ER (add_right_comm ..) ?_);show bD (aY.length+N+1) L F us (.kw .lookup::(gF l++(bz aY++r)))=_;refine ER (oj ..) (ER (if_neg (fun z=>hnot (of_decide_eq_true z:jo (gF l++(bz aY++r))∈names L)) ..) (ER (Pa (h l (.head _)) ..) ?_));show bD _ _ _ _ _=_;refine ER ((ih N (L++[l.lb]) F (us++gm (1+(bz aY++r).length) l.rows) r (fun y hy=>h y (.tail _ hy)) (by refine ER (e1 ..) (ER (append_assoc ..) ?_);exact hn)) ..) (ER (append_assoc ..) (ER (append_assoc ..) (ER (length_append ..) ?_)));rfl
theorem Vg:∀(fs:List FL) (N:Nat) (L:List LB) (F:List FR) (us:List eQ) (r:Lk),(∀f∈fs,LW f)→bD (fs.length+N) L F us (bI fs++r)=bD N L (F++pg r.length fs) (us++mz r.length fs) r:=by
 intro rv;induction rv with
 |nil=>exact fun N L F us r o=>by refine ER (length_nil ..) (ER (zero_add ..) (ER (show pg r.length []=[] from rfl ..) (ER (append_nil ..) (ER (show mz r.length []=[] from rfl ..) (ER (append_nil ..) ?_)))));rfl
 |cons f fs ih=>
  intro N L F us r h;show bD (fs.length+1+N) L F us (jt f++bI fs++r)=_;refine ER (append_assoc ..) (ER (add_right_comm ..) ?_);show bD (fs.length+N+1) L F us (.kw .gp::(Ar f++(bI fs++r)))=_;rw[JT];rw[(JS (h f (.head _))).acc (bI fs++r) rfl];show bD _ _ _ _ _=_;refine ER ((ih N L (F++[f.fr (bI fs++r).length]) (us++(f.fr (bI fs++r).length).uses) r (fun y hy=>h y (.tail _ hy))) ..) (ER (append_assoc ..) (ER (append_assoc ..) (ER (length_append ..) ?_)));rfl
end
noncomputable def tO(t:Tk):Bool:=decide (t= .kw .sub) || decide (t= .kw .pos)
noncomputable def bP:Lk→Lk
 |[]=>[]
 |t::r=>if (bP r).isEmpty then(if tO t then t::r else [])else bP r
def cutAt(q:Lk):Lk:=if decide (Tk.sg .semi∈bP q)then []else O4 (bP q)
def As(l:Lk):Prop:=∀t∈l,tO t=false
theorem fV(t:Tk)(r:Lk):bP (t::r)=if (bP r).isEmpty then(if tO t then t::r else [])else bP r:=rfl
theorem xZ{b:Lk}(h:As b):∀(a:Lk),bP (a++b)=if (bP a).isEmpty then []else bP a++b:=by
 intro rv;induction rv with
 |nil=>
  show bP b=[];induction b with
  |nil=>rfl
  |cons t b ih=>
   refine ER (fV ..) (ER (ih fun x hx=>h x (.tail _ hx) ..) (ER (h t (.head _) ..) ?_));rfl
 |cons t a ih=>
  refine ER (cons_append ..) (ER (fV ..) (ER (fV ..) (ER (ih ..) ?_)));cases bP a with
  |nil=>cases tO t<;>rfl
  |cons c l=>rfl
theorem x6{t:Tk}{b:Lk}(ht:tO t=true)(h:As b):∀(a:Lk),bP (a++t::b)=t::b:=by
 intro rv;induction rv with
 |nil=>
  have:bP b=[]:=xZ h [];refine ER (nil_append ..) (ER (fV ..) (ER (this ..) (ER (ht ..) ?_)));rfl
 |cons s a ih=>
  refine ER (cons_append ..) (ER (fV ..) (ER (ih ..) ?_));rfl
def NS(q:Lk):Prop:=bP q=[]∨Tk.sg .semi∈bP q
theorem Au{a b:Lk}(h:NS a)(hb:As b):NS (a++b):=by
 unfold NS;refine ER (xZ hb ..) ?_;refine iT (fun _=>?_) fun _=>?_
 ·exact .inl rfl
 ·rename_i e;exact .inr (mem_append_left _ (h.resolve_left fun z=>e (by refine ER z ?_;rfl)))
def Pc(q:Lk):Prop:=Tk.sg .semi∉bP q→jG (bP q)=true→¬Last q
theorem D0{q:Lk}(h:NS q):Pc q:=fun h1 h2=>h.elim (fun e=>absurd h2 (by refine ER e ?_;exact Bool.false_ne_true)) fun e=>absurd e h1
theorem IA{q:Lk}(h:NS q):cutAt q=[]:=by
 unfold cutAt;rcases h with h|h
 ·refine ER h ?_;rfl
 ·rw[if_pos (decide_eq_true h)]
theorem vq{l:Lk}(h:l.all (fun t=> !tO t)=true):As l:=fun t ht=>nb (all_eq_true.mp h t ht)
theorem GN{q l:Lk}(h:As l)(p:q <+:l):As q:=fun t ht=>h t (p.subset ht)
theorem JU(x:LR):tO (.kw (d7 x))=true:=by
 rcases Iz x with e|e<;>refine ER e ?_<;>rfl
theorem GO(x:LR):As (i8 x++(jF x++[.sg .semi])):=vq (by
 refine EL (append_assoc ..) (ER (all_append ..) (ER (rk (fun U=>rfl) (fun U=>rfl) rfl fun U=>rfl ..) ?_));rfl)
theorem JV:∀(rows:List LR) {a:Lk},NS a→NS (a++aR rows):=by
 intro rv;induction rv with
 |nil=>exact fun {a} h=>(append_nil a).symm▸h
 |cons x rows ih=>
  intro a h;show NS (a++(bF x++aR rows));refine EL (append_assoc ..) ?_;refine ih (.inr ?_);refine ER (show a++bF x=a++ .kw (d7 x)::_ from rfl ..) (ER (x6 (JU x) (GO x) ..) ?_);exact .tail _ (mem_append_right _ (mem_append_right _ (.head _)))
theorem wJ(l:LL):As (.kw .lookup::c7 l):=vq (by unfold c7 fg;refine iT (fun _=>?_) fun _=>?_<;>rfl)
theorem GP(f:FL):As (jt f):=vq (by
 have o:∀{k d w},(Tk.kw k≠ .kw .sub∧Tk.kw k≠ .kw .pos)→(dQ k d w).all (fun t=> !tO t)=true:=fun {k d w} h=>by
  unfold dQ;refine iT (fun _=>?_) fun _=>?_
  ·rfl
  ·simp[tO,h]
 show(true&&(true&&(dQ _ _ _++(dQ _ _ _++Tk.sg .lc::(ee f.dw++[Tk.sg .rc]))).all _))=true;rw[all_append,all_append,o (by decide),o (by decide),all_cons,all_append,gr fun U=>rfl];rfl)
theorem Av{α:Type}{f:α→Lk}{q:Lk}{l:List α}(h:q <+:l.flatMap f):∃l1 l2 q1,l=l1++l2∧q=l1.flatMap f++q1∧(q1=[]∨∃x l3,l2=x::l3∧q1 <+:f x∧q1≠[]∧q1≠f x):=by
 induction l generalizing q with
 |nil=>exact⟨[],[],[],rfl,prefix_nil.mp h,.inl rfl⟩
 |cons x l ih=>
  rcases pre_app (show q <+:f x++l.flatMap f from h)with ⟨h1,h2⟩|⟨q',rfl,h1⟩
  ·by_cases hq:q=[]
   ·exact⟨[],x::l,[],rfl,hq,.inl rfl⟩
   ·exact⟨[],x::l,q,rfl,rfl,.inr ⟨x,l,rfl,h1,hq,h2⟩⟩
  ·obtain⟨l1,l2,q1,rfl,rfl,h3⟩:=ih h1;exact⟨x::l1,l2,q1,rfl,(append_assoc ..).symm,h3⟩
theorem IB:∀(r1 r2:List LR) (acc:List (Str×P)),my acc (r1++r2)→my acc r1:=by
 intro rv;induction rv with
 |nil=>exact fun o o o=>trivial
 |cons _ r1 ih=>exact fun r2 o h=>⟨h.1,ih r2 _ h.2⟩
theorem Xu{α:Type}{r:PR α}(h:Ends false r):r= .err []:=by
 induction h with
 |err=>rfl
 |ok z=>exact Bool.noConfusion z
theorem Pd{l:LL}(h:nF l){q:Lk}(hq:q <+:gF l)(hn:q≠gF l){a:Lk}(ha:NS a):gq q= .err (cutAt (a++ .kw .lookup::q))∧Pc (a++ .kw .lookup::q):=by
 have hd:=vp h.flag
 refine ER (n9 ..) ?_;rcases pre_app hq with ⟨h1,h2⟩|⟨q',rfl,h1⟩
 ·have ns:=Au ha (GN (wJ l) (List.cons_prefix_cons.mpr ⟨rfl,h1⟩));exact⟨by refine ER (Xu (hd.cut q h1 h2)) (ER (IA ns) ?_);rfl,D0 ns⟩
 ·have h2:q' <+:l.rows.flatMap bF:=kQ h1 fun e=>hn (by refine ER e ?_;rfl);obtain⟨r1,r2,q3,e,rfl,h3⟩:=Av h2;have k1:∀x∈r1,eX x:=fun x hx=>h.rows x (e▸mem_append_left _ hx);have k2:my [] r1:=IB r1 r2 [] (e▸h.R4);have le:=wI r1;have ns:NS (a++ .kw .lookup::c7 l++aR r1):=JV r1 (Au ha (wJ l));obtain⟨N,hN⟩:∃N,(aR r1++q3).length+1=r1.length+(N+1):=⟨(aR r1++q3).length - r1.length,by refine ER length_append ?_;lia⟩;have go:gq (c7 l++(aR r1++q3))=(kO (N+1) ([]++r1.map bw) ([]++gm q3.length r1) q3).bind fun y r=>if y.1.isEmpty then .err r else(bO (.sg .rc) r).bind fun U r=>.ok (⟨l.name,l.flag,y.1⟩,y.2) r:=by refine ER (n9 ..) (ER (hd.acc _ rfl ..) (EL (DZ r1 _ [] [] q3 k1 k2 ..) (EL (hN ..) ?_)));rfl
  refine EL (n9 ..) ?_;show gq (c7 l++(aR r1++q3))= .err (cutAt (a++ .kw .lookup::(c7 l++(aR r1++q3))))∧Pc (a++ .kw .lookup::(c7 l++(aR r1++q3)));refine ER ((by simp):a++ .kw .lookup::(c7 l++(aR r1++q3))=a++ .kw .lookup::c7 l++aR r1++q3) (ER go ?_);rcases h3 with rfl|⟨x,r3,e2,h4,h5,h6⟩
  ·refine ER (append_nil ..) (ER (IA ns ..) ?_);refine⟨?_,D0 ns⟩;show(if _ then _ else _)=_;refine iT (fun _=>?_) fun _=>?_<;>rfl
  ·obtain⟨b,rfl⟩:∃b,q3= .kw (d7 x)::b:=by
    rcases bS h4 with z|⟨b,z,_⟩
    ·exact absurd z h5
    ·exact⟨b,z⟩
   have hb:b <+:i8 x++jF x:=kQ (s:=Tk.sg .semi) (by refine ER (append_assoc ..) ?_;exact(List.cons_prefix_cons.mp h4).2) fun e=>h6 (by refine ER (e ..) (ER (append_assoc ..) ?_);rfl);have nsp:As b:=GN (GO x) (by refine EL (append_assoc ..) ?_;exact hb.trans (prefix_append _ _));have nosemi:Tk.sg .semi∉Tk.kw (d7 x)::b:=fun z=>(mem_cons.mp z).elim (fun e=>Tk.noConfusion e) fun z=>absurd (all_eq_true.mp (rk (f:=fun c=> !decide (c= .sg .semi)) (x:=x) (fun U=>rfl) (fun U=>rfl) rfl fun U=>rfl) _ (hb.subset z)) (by decide);obtain⟨c1,c2⟩:=R0 (h.rows x (by refine ER e (ER e2 ?_);exact mem_append_right _ (.head _))) h4 h6;have lr:=x6 (JU x) nsp (a++ .kw .lookup::c7 l++aR r1);refine⟨?_,fun U o z=>c2 (lr▸o) ?_⟩
   ·show(if i6 (.kw (d7 x)::b)then(lu (.kw (d7 x)::b)).bind _ else _).bind _=_;refine ER (if_pos (O7 x b)) (ER c1 ?_);unfold cutAt;refine ER lr (ER (if_neg fun z=>nosemi (of_decide_eq_true z)) ?_);rfl
   ·unfold Last at z ⊢;rw[List.getLast?_append]at z;cases e:(Tk.kw (d7 x)::b).getLast? with
    |none=>cases List.getLast?_eq_none_iff.mp e
    |some d=>rw[e]at z;exact z
def JW(p:PR ((List LB×List FR)×List eQ)):Except Nat (List LB×List FR):=match p with
 | .err r=>.error r.length
 | .ok x _=>match cW x.1.1 x.2 with
  |some n=>.error n
  |none=>.ok x.1
theorem qA{α:Type}{f:α→Lk}(h:∀x,1≤(f x).length):∀l:List α,l.length≤(l.flatMap f).length:=by
 intro rv;induction rv with
 |nil=>exact le_refl _
 |cons x l ih=>
  have a:=ih
  have b:=h x
  refine ER flatMap_cons (ER length_append (ER length_cons ?_));lia
theorem nG{aY:List LL}{fs:List FL}(h1:∀l∈aY,nF l)(h2:∀f∈fs,LW f)(hn:(aY.map (·.name)).Nodup)(r:Lk):
  ∃N,r.length≤N∧dD (bz aY++(bI fs++r))=JW (bD (N+1) (aY.map LL.lb) (pg r.length fs) (iJ (bI fs++r).length aY++mz r.length fs) r):=by
 have l1:=qA (f:=wH) (fun U=>succ_pos _) aY
 have l2:=qA (f:=jt) (fun U=>succ_pos _) fs
 obtain⟨N,hN⟩:∃N,(bz aY++(bI fs++r)).length+1=aY.length+(fs.length+(N+1)):=⟨(bz aY++(bI fs++r)).length - aY.length - fs.length,by
  unfold bz bI;refine ER length_append (ER length_append ?_);grind only⟩
 refine⟨N,?_,?_⟩
 ·unfold bz bI at hN;rw[length_append,length_append]at hN;grind only
 ·show JW (bD _ [] [] [] _)=_;refine ER hN (ER (Vf aY _ [] [] [] _ h1 hn) (ER (Vg fs _ _ _ _ _ h2) ?_));rfl
theorem gO{aY:List LL}{fs:List FL}(h1:∀l∈aY,nF l)(h2:∀f∈fs,LW f)(hn:(aY.map (·.name)).Nodup){r e:Lk}(hf:∀N L F us,names L=aY.map (·.name)→r.length≤N→bD (N+1) L F us r= .err e):dD (bz aY++(bI fs++r))= .error e.length:=by
 obtain⟨N,hN,e1⟩:=nG h1 h2 hn r;refine ER e1 (ER (hf N _ _ _ (by unfold names;refine ER map_map ?_;rfl) hN) ?_);rfl
structure D3 (aY:List LL) (fs:List FL):Prop where
 l:∀x∈aY,nF x
 f:∀x∈fs,LW x
 nd:(aY.map (·.name)).Nodup
theorem Pe{n:Str}(h:o7 n=true):n≠ "" :=fT (t:=.nm n) h
theorem Pf{x:LR}:Tk.sg .rc∉bF x:=fun z=>by
 have:=all_eq_true.mp (rk (f:=fun c=> !decide (c= .sg .rc)) (x:=x) (fun U=>rfl) (fun U=>rfl) rfl fun U=>rfl)
 rcases mem_cons.mp z with z|z
 ·contradiction
 ·rw[←append_assoc]at z;rcases mem_append.mp z with z|z
  ·exact absurd (this _ z) (by decide)
  ·cases mem_singleton.mp z
theorem R7{l:LL}:Tk.sg .rc∉Tk.kw .lookup::(c7 l++aR l.rows):=fun z=>by
 rcases mem_cons.mp z with z|z
 ·contradiction
 ·rcases mem_append.mp z with z|z
  ·unfold c7 fg at z;split at z
   ·simp[vn]at z
   ·simp at z
  ·obtain⟨x,_,z⟩:=mem_flatMap.mp z;exact Pf z
theorem JX{f:FL}:∃b,jt f=b++[.sg .rc]∧Tk.sg .rc∉b:=by
 refine⟨.kw .gp:: .nm f.tag::(dQ .bk "DFLT" f.bk++(dQ .aC "dflt" f.aC++ .sg .lc::ee f.dw)),by simp[jt,Ar],fun z=>?_⟩;have o:∀{k d w},Tk.sg .rc∉dQ k d w:=fun {k d w} z=>by unfold dQ at z;split at z<;>simp at z
 rcases mem_cons.mp z with z|z
 ·contradiction
 rcases mem_cons.mp z with z|z
 ·contradiction
 rcases mem_append.mp z with z|z
 ·exact o z
 rcases mem_append.mp z with z|z
 ·exact o z
 rcases mem_cons.mp z with z|z
 ·contradiction
 ·exact Iq rfl z
theorem GQ{a q:Lk}{c:Tk}(h:c∉q)(hn:q≠[]):(a++q).getLast?≠some c:=fun z=>by
 rw[List.getLast?_append]at z;cases e:q.getLast? with
 |none=>exact hn (List.getLast?_eq_none_iff.mp e)
 |some d=>rw[e]at z;obtain rfl:=Option.some.inj z;exact h (List.mem_of_getLast? e)
theorem Pg{aY:List LL}{fs:List FL}(h:D3 aY fs){q:Lk}(hq:q <+:bz aY++bI fs):
  (∃l1 l2 f1 f2,aY=l1++l2∧fs=f1++f2∧q=bz l1++bI f1∧(f1=[]∨l2=[]))∨(dD q= .error (cutAt q).length∧q.getLast?≠some (.sg .rc)∧Pc q):=by
 have nd:=h.nd
 have lns:∀(l:List LL) {a:Lk},NS a→NS (a++bz l):=fun l=>by
  induction l with
  |nil=>intro a h;exact(append_nil a).symm▸h
  |cons x l ih=>
   intro a h;have:a++bz (x::l)=a++ .kw .lookup::c7 x++aR x.rows++[.sg .rc]++bz l:=by simp[bz,wH,gF]
   refine ER this ?_;exact ih (Au (JV _ (Au h (wJ x))) (vq rfl))
 rcases pre_app hq with ⟨h1,_⟩|⟨q',rfl,h1⟩
 ·obtain⟨l1,l2,q1,rfl,rfl,h2⟩:=Av h1;rcases h2 with rfl|⟨l,l3,rfl,h3,h4,h5⟩
  ·exact .inl ⟨l1,l2,[],fs,rfl,rfl,rfl,.inl rfl⟩
  ·right
   have k1:∀x∈l1,nF x:=fun x hx=>h.l x (mem_append_left _ hx);have k2:nF l:=h.l l (mem_append_right _ (.head _));rw[map_append,map_cons,nodup_append]at nd;rcases bS h3 with z|⟨q,rfl,h6⟩
   ·exact absurd z h4
   obtain⟨c1,c2⟩:=Pd k2 h6 (fun e=>h5 (by refine ER e ?_;rfl):q≠gF l) (lns l1 (a:=[]) (.inl rfl));refine⟨?_,GQ (fun z=>R7 ((kQ (b:=.kw .lookup::(c7 l++aR l.rows)) (by refine ER (cons_append ..) (ER (append_assoc ..) ?_);exact h3) fun e=>h5 (by refine ER (e ..) (ER (cons_append ..) (ER (append_assoc ..) ?_));rfl)).subset z)) h4,c2⟩;refine gO (aY:=l1) (fs:=[]) k1 (fun U h=>(not_mem_nil h).elim) nd.1 fun N L F us hL U=>?_;show bD (N+1) L F us (.kw .lookup::q)=_;rw[oj,c1,if_neg fun z=>?_]
   ·rfl
   ·have z:=of_decide_eq_true z;rw[hL]at z;induction q with
    |nil=>
     obtain⟨x,hx,e⟩:=mem_map.mp z;exact Pe (k1 x hx).name e
    |cons c q=>
     have e:c= .nm l.name:=by obtain⟨t,e⟩:=h6;exact(List.cons.inj e).1
     subst e;exact nd.2.2 _ z _ (.head _) rfl
 ·obtain⟨f1,f2,q1,rfl,rfl,h2⟩:=Av h1;rcases h2 with rfl|⟨f,f3,rfl,h3,h4,h5⟩
  ·exact .inl ⟨aY,[],f1,f2,(append_nil _).symm,rfl,by refine ER (append_nil ..) ?_;rfl,.inr rfl⟩
  ·right
   rcases bS h3 with z|⟨q,rfl,h6⟩
   ·exact absurd z h4
   obtain⟨b,eb,hb⟩:=JX (f:=f);have Qm:As (f1.flatMap jt++Tk.kw .gp::q):=fun t ht=>by
    rcases mem_append.mp ht with ht|ht
    ·obtain⟨g,_,ht⟩:=mem_flatMap.mp ht;exact GP g t ht
    ·exact GP f t (h3.subset ht)
   have ns:NS (bz aY++(f1.flatMap jt++Tk.kw .gp::q)):=Au (lns aY (a:=[]) (.inl rfl)) Qm;refine⟨?_,?_,D0 ns⟩
   ·refine ER (IA ns) ?_;refine gO h.l (fun x hx=>h.f x (mem_append_left _ hx)) nd fun N L F us U U=>?_;refine ER JT (ER (Xu ((JS (h.f f (mem_append_right _ (.head _)))).cut q h6 fun e=>h5 (by refine ER e ?_;rfl))) ?_);rfl
   ·refine EL (append_assoc ..) ?_;exact GQ (fun z=>hb ((kQ (eb▸h3) (eb▸h5)).subset z)) h4
def wL(ts:Lk):Lp:=aq (ts.map Tk.str)
def wP(ts:Lk):P:=.list (wL ts)
theorem cL(a b:Lk):wL (a++b)=wL a++wL b:=by simp only[wL,aq,map_append]
theorem tP(l:Ls):wL (ee l)=aq l:=by unfold wL ee;rw[map_map];exact congrArg aq (map_id l)
theorem fc(ts:Lk):(wL ts).length=ts.length:=by unfold wL;rw[bc,length_map]
section
variable {α:Type}{σ:LM}{E:ME}{Q:MQ V}{a b t:Lp}
theorem eN(ht:t.length≤100000)(h:a++b <+:t):jR .Add (.list a) (.list b) (.list (a++b)):=
 add_list (by rw[←length_append];exact le_trans (le_trans h.length_le ht) (bl rfl))
theorem add_same(ht:(a++b).length≤100000):jR .Add (.list a) (.list b) (.list (a++b)):=eN ht (prefix_refl _)
theorem Xv{c:Lp}:a <+:a++c:=prefix_append _ _
theorem vt{τ:Type}{nK:α→P}{tk:α→Lp}{tg:A5}{b:ai→M Out}{all:Lp}{L:Lp→τ→ai}{l0:List α}{Q:MQ Out}(step:∀acc o x (K:MQ Out),x∈l0→(acc++tk x).length≤100000→(∀o,K (.next (L (acc++tk x) o)) σ)→∃jd,xr tg (nK x) (L acc o)=some jd∧b jd σ K E)(l:List α):
  ∀acc o,(∀x∈l,x∈l0)→(acc++l.flatMap tk).length≤100000→(∀o,Q (.next (L (acc++l.flatMap tk) o)) σ)→bU all none tg b (l.map nK) (L acc o) σ Q E:=by
 induction l with
 |nil=>exact fun acc o U U q=>⟨aA,by have:=q o;rwa [List.flatMap_nil,append_nil]at this⟩
 |cons x l ih=>
  intro acc o hl hn q;rw[flatMap_cons,←append_assoc]at hn q;obtain⟨jd,e,h⟩:=step acc o x (cB (bU all none tg b (l.map nK)) Q E) (hl x (.head _)) (le_trans (prefix_append _ _).length_le hn) fun o=>ih (acc++tk x) o (fun y hy=>hl y (.tail _ hy)) hn q;exact .mk aA jd e h
theorem Ct{g:Ls}(hl:g.length≤50000)(q:Q (.p (wP (cJ g))) σ):Run eU [.p (tupS g),.p (.bool false)] σ Q E:=by
 have lim:(aq g).length≤bL:=by rw[bc];exact le_trans hl (bl rfl)
 have len:([P.str "["]++aq g++[P.str "]"]).length≤100000:=by simp[bc];lia
 unfold wP cJ at q;refine⟨dC.pp (jL lim) (aF.pp (ip rfl rfl (bl rfl)) (aT.mk (fun e=>aT.mk (fun U=>dC.pp (jX lim) (dc ?_)) fun x=>nomatch x) fun e=>aT.mk (fun x=>nomatch x) fun U=>
  az.p1 (dC.pp (jX lim) (aU.pp (eN len Xv) (az.p1 (aU.pp (add_same len) (dc ?_)))))))⟩
 ·have:g.length=1:=of_decide_eq_true ((DS g).symm.trans e);rw[if_pos this,tP]at q;exact q
 ·have:¬g.length=1:=of_decide_eq_false ((DS g).symm.trans e);rw[if_neg this]at q;rw[show Tk.sg .lb::(ee g++[Tk.sg .rb])=[Tk.sg .lb]++ee g++[Tk.sg .rb] from rfl,cL,cL,tP]at q;exact q
theorem Cu{i:Int}(h:xX i):small i=true:=by
 obtain⟨_,_,_,h1,h2⟩:=h;simp only[small,and_eq_true,decide_eq_true_eq];omega
theorem IC{i:Int}(h:n8 i):small i=true:=by
 obtain⟨_,_,_,h1,h2⟩:=h;simp only[small,and_eq_true,decide_eq_true_eq];omega
def strOf:P→P
 | .int i=>.str (rO i)
 |_=>.none
theorem Ph(l:List Int):((eW l).filter fun U=>true).map strOf=wL (l.map vn):=by
 rw[filter_eq_self.mpr fun U U=>rfl];unfold eW wL aq;rw[map_map,map_map,map_map];rfl
theorem GR(w:yq):Hz (.tup [.int w.a,.int w.b,.int w.d]) (.tup [.int 0,.int 0,.int 0])=Iu w:=by exact(congrArg (fun b=>_&&(_&&b)) (Bool.and_true _)).trans rfl
theorem GS{w:yq}(h:xY w)(q:Q (.p (wP (cK w))) σ):Run gT [.p (.tup (eW w.l)),.p (.bool false)] σ Q E:=by
 unfold wP cK at q;refine⟨aW.pp (aO (k:=0) rfl (zero_le _)) (aW.pp (aO (k:=1) rfl (by decide)) (aW.pp (aO (k:=3) rfl (by decide)) (az.p3 (az.mk _ _ (.cons (.p _) (.cons (.p _) (.cons (.p _) .nil))) (bl rfl)
  (aF.pp (ip rfl rfl (bl rfl)) (aT.mk (fun e=>aT.mk (fun U=>aW.pp (aO (k:=2) rfl (by decide)) (dC.pp (str_int (Cu (h w.c (by simp[yq.l])))) (az.p1 (dc ?_)))) fun x=>nomatch x) fun e=>aT.mk (fun x=>nomatch x) fun U=>?_))))))⟩
 ·rw[if_pos ((GR w).symm.trans e)]at q;exact q
 ·rw[(GR w).symm.trans e,if_neg Bool.false_ne_true]at q;refine az.p1 (.mk _ (.tup _) (bl rfl) ⟨comp_map (g:=fun U=>true) (f:=strOf) (base:=[]) (fun U U=>rfl) (fun U=>rfl) aA _ [] [] (.inl rfl) (bl rfl) (fun U U U q=>q) (fun x hx U K q=>?_) ?_⟩)
  ·obtain⟨i,hi,rfl⟩:=mem_map.mp hx;exact dC.pp (str_int (Cu (h i hi))) q
  ·rw[nil_append,Ph];exact aU.pp (add_same (bl rfl)) (az.p1 (aU.pp (add_same (bl rfl)) (dc q)))
end
theorem eq_int{a b:Int}:cD .Eq (.int a) (.int b) (decide (a=b)):=(show Hz (.int a) (.int b)=decide (a=b) from rfl)▸ip rfl rfl (bl rfl)
theorem bQ{α:Type}(l:List (Nat×α))(n:Nat)(v:α):bW (bx l n v) n=some v:=(qM ..).trans (if_pos rfl)
theorem iO{α:Type}(l:List (Nat×α)){n m:Nat}(v:α)(h:n≠m):bW (bx l n v) m=bW l m:=(qM ..).trans (if_neg h)
theorem R8:∀(ins:List (Ls×Ls)) (j:Nat),∀x∈ff j ins,(j:Int)≤x.1:=by
 intro rv;induction rv with
 |nil=>intros;contradiction
 |cons y ins ih=>
  intro j x h;rcases mem_append.mp h with h|h
  ·obtain⟨n,_,rfl⟩:=mem_map.mp h;exact le_refl _
  ·have:=ih (j+1) x h;omega
noncomputable def Aw(k:Nat)(x:Int×Str):Lp:=if decide (x.1=(k:Int))then [.str "lookup",.str x.2]else []
theorem GU{k:Nat}{l:List (Int×Str)}(h:∀x∈l,x.1≠(k:Int)):l.flatMap (Aw k)=[]:=
 List.flatMap_eq_nil_iff.mpr fun x hx=>if_neg fun z=>h x hx (of_decide_eq_true z)
theorem R9(k:Nat):∀ns:Ls,(ns.map fun n=>((k:Int),n)).flatMap (Aw k)=wL (pj ns):=by
 intro rv;induction rv with
 |nil=>exact rfl
 |cons n ns ih=>
  rw[map_cons,flatMap_cons,ih,show Aw k ((k:Int),n)=[.str "lookup",.str n] from if_pos (decide_eq_true rfl)];rfl
theorem Sa:∀(pre bX:List (Ls×Ls)) (x:Ls×Ls) (j:Nat),(ff j (pre++x::bX)).flatMap (Aw (j+pre.length))=wL (pj x.2):=by
 intro rv;induction rv with
 |nil=>
  intro bX x j;show(_++ff (j+1) bX).flatMap (Aw j)=_;rw[flatMap_append,R9,GU fun y hy=>by have:=R8 bX (j+1) y hy;omega,append_nil]
 |cons y pre ih=>
  intro bX x j;have ih:=ih bX x (j+1);show(_++ff (j+1) (pre++x::bX)).flatMap (Aw (j+(pre.length+1)))=_;rw[add_assoc,add_comm 1]at ih;rw[flatMap_append,ih,GU fun z hz=>by obtain⟨n,_,rfl⟩:=mem_map.mp hz;show(j:Int)≠_;omega];rfl
section
variable {σ:LM}{E:ME}{k0:Nat}
noncomputable def Ax(r kd pt:P)(acc:Lp)(t:ai):ai:=(27,.p r)::(69,.p (.bool false))::(7,.p kd)::(8,.p pt)::(33,.p (.list acc))::t
theorem Cv{r kd pt:P}{all:Lp}{Q:MQ Out}(l:List (Ls))(acc:Lp)(t:ai)(hl:∀g∈l,g.length≤50000)(hn:(acc++l.flatMap fun g=>wL (cJ g)).length≤100000)(q:∀t,Q (.next (Ax r kd pt (acc++l.flatMap fun g=>wL (cJ g)) t)) σ):
  bU all none (.one 37) (lT k0) (l.map tupS) (Ax r kd pt acc t) σ Q E:=by
 refine vt (L:=Ax r kd pt) (tk:=fun g=>wL (cJ g)) (fun acc t g K hg hn q=>⟨Ax r kd pt acc (bx t 37 (.p (tupS g))),rfl,?_⟩) l acc t (fun U h=>h) hn q;show(bW (bx t 37 (V.p (tupS g))) 37).elim _ _;rw[bQ];exact Ct (hl g hg) (aU.pp (add_same hn) (q _))
theorem LX{r kd pt:P}{all:Lp}{Q:MQ Out}{k:Nat}(l:List (Int×Str))(acc:Lp)(t:ai)(h43:bW t 43=some (.p (.int (k:Int))))(hn:(acc++l.flatMap (Aw k)).length≤100000)(q:∀t,Q (.next (Ax r kd pt (acc++l.flatMap (Aw k)) t)) σ):
  bU all none (.many [70,4]) (lU k0) (l.map lj) (Ax r kd pt acc t) σ Q E:=by
 refine vt (τ:={t:ai // bW t 43=some (.p (.int (k:Int)))}) (L:=fun acc o=>Ax r kd pt acc o.1) (tk:=Aw k) (fun acc hh=>hh.casesOn fun t h x K U hn q=>⟨Ax r kd pt acc (bx (bx t 70 (.p (.int x.1))) 4 (.p (.str x.2))),rfl,?_⟩) l acc ⟨t,h43⟩ (fun U h=>h) hn fun o=>q _;have g43:bW (bx (bx t 70 (V.p (.int x.1))) 4 (.p (.str x.2))) 43=some (.p (.int (k:Int))):=(iO _ _ (by decide)).trans ((iO _ _ (by decide)).trans h);have g70:bW (bx (bx t 70 (V.p (.int x.1))) 4 (.p (.str x.2))) 70=some (.p (.int x.1)):=(iO _ _ (by decide)).trans (bQ ..);have g4:bW (bx (bx t 70 (V.p (.int x.1))) 4 (.p (.str x.2))) 4=some (.p (.str x.2)):=bQ ..;generalize bx (bx t 70 (V.p (.int x.1))) 4 (.p (.str x.2))=t' at g43 g70 g4 ⊢;show(bW t' 70).elim _ _;rw[g70];show(bW t' 43).elim _ _;rw[g43];have q:=q ⟨t',g43⟩;unfold Aw at q hn;refine aF.pp eq_int (aT.mk (fun e=>?_) fun e=>?_)
 ·rw[if_pos e]at q hn;show(bW t' 4).elim _ _;rw[g4];exact az.p2 (aU.pp (add_same hn) q)
 ·rw[if_neg (nt e)]at q hn;exact az.p0 (aU.pp (add_same hn) q)
def wK(x:Ls×Ls):Lk:=Cn (x.1,some x.2)
theorem Pj{r kd p0 p1 p2 p3:P}{all:Lp}{ins:List (Ls×Ls)}{Q:MQ Out}(hal:(ff 0 ins).length≤50000)(hg:∀x∈ins,x.1.length≤50000)(bX:List (Ls×Ls)):∀(pre:List (Ls×Ls)) (acc:Lp) (t:ai),ins=pre++bX→(acc++bX.flatMap fun x=>wL (wK x)).length≤100000→
  (∀t,Q (.next (Ax r kd (.tup [p0,p1,p2,p3,.tup ((ff 0 ins).map lj)]) (acc++bX.flatMap fun x=>wL (wK x)) t)) σ)→
  bU all none (.many [43,37]) (lV k0) (A7 pre.length (bX.map fun x=>tupS x.1)) (Ax r kd (.tup [p0,p1,p2,p3,.tup ((ff 0 ins).map lj)]) acc t) σ Q E:=by
 induction bX with
 |nil=>exact fun pre acc t U U q=>⟨aA,by have:=q t;rwa [List.flatMap_nil,append_nil]at this⟩
 |cons x bX ih=>
  intro pre acc t e hn q;have e1:acc++(x::bX).flatMap (fun x=>wL (wK x))=acc++wL (cJ x.1)++[P.str "'"]++wL (pj x.2)++bX.flatMap fun x=>wL (wK x):=by
   rw[flatMap_cons,←append_assoc];show acc++wL (cJ x.1++([.sg .q]++pj x.2))++_=_;rw[cL,cL,←append_assoc,←append_assoc];rfl
  rw[e1]at hn q;refine .mk aA (Ax r kd _ acc (bx (bx t 43 (.p (.int (pre.length:Int)))) 37 (.p (tupS x.1)))) rfl ?_;show(bW (bx (bx t 43 (V.p (.int (pre.length:Int)))) 37 (V.p (tupS x.1))) 37).elim _ _;rw[bQ];have p1:=prefix_append (acc++wL (cJ x.1)++[P.str "'"]++wL (pj x.2)) (bX.flatMap fun x=>wL (wK x));have p2:=(prefix_append (acc++wL (cJ x.1)++[P.str "'"]) (wL (pj x.2))).trans p1;have hk:(ff 0 ins).flatMap (Aw pre.length)=wL (pj x.2):=by rw[e];have:=Sa pre bX x 0;rwa [zero_add]at this
  refine Ct (hg x (by rw[e];exact mem_append_right _ (.head _))) (aU.pp (eN hn ((prefix_append _ _).trans p2)) (az.p1 (aU.pp (eN hn p2)
   (aW.pp (aO (k:=4) rfl (by decide)) (.mk _ (.tup _) (by simp only[length_map,bL];lia) ⟨LX (k:=pre.length) (ff 0 ins) _ _ ((iO _ _ (by decide)).trans (bQ ..)) (by rw[hk];exact le_trans p1.length_le hn) fun t'=>?_⟩)))))
  rw[hk];have:=ih (pre++[x]) (acc++wL (cJ x.1)++[P.str "'"]++wL (pj x.2)) t' (by rw[e,append_assoc];rfl) hn q;rw[length_append]at this;exact this
end
theorem i9{a b:Str}(h:a≠b):cD .Eq (.str a) (.str b) false:=decide_eq_false h▸b7 a b
theorem tQ(a:Str):cD .Eq (.str a) (.str a) true:=(decide_eq_true rfl:decide (a=a)=true)▸b7 a a
section
variable {σ:LM}{E:ME}{Q:MQ V}{r kd pt:P}{left right:Lp}
theorem Br{l:Lp}{x:P}:b8 (.tup (l++[x])) (-1) x:=item_tup (j:=l.length) rfl ((DE (k:=1) (succ_pos _) (by simp)).trans (by simp)) (by simp)
theorem Pk{l:Lp}{x:P}(hl:l.length≤1000):jW (.tup (l++[x])) none (some (-1)) (.tup l):=by
 have e:jJ (l++[x]).length (l++[x]) none (some (-1))=l:=by
  show((l++[x]).drop 0).take (clipAt (l++[x]).length (-1) - 0)=l;have:clipAt (l++[x]).length (-1)=l.length:=by refine ER length_append (ER length_singleton ?_);unfold clipAt;refine ER (if_pos (by decide)) ?_;lia
  refine ER this ?_;exact take_left
 have:=CS (lo:=none) (hi:=some (-1)) ((by rw[length_append];exact le_trans (succ_le_succ hl) (bl rfl)):(l++[x]).length≤bL)
 rwa [e]at this
noncomputable def Ay(l:Lp):Lp:=match l with
 |[]=>[.str "NULL"]
 |l=>l
theorem wM(ht:([P.str "sub"]++left++[P.str "by"]++Ay right++[P.str ";"]).length≤100000)(q:Q (.p (.list ([P.str "sub"]++left++[P.str "by"]++Ay right++[P.str ";"]))) σ):
  kg σ.length [(27,.p r),(69,.p (.bool false)),(7,.p kd),(8,.p pt),(18,.p (.list left)),(47,.p (.list right))] σ (fun o ah=>cz σ.length ah o Q) (back σ.length E):=by
 have p1:=prefix_append ([P.str "sub"]++left++[P.str "by"]++Ay right) [P.str ";"]
 have p2:=(prefix_append ([P.str "sub"]++left++[P.str "by"]) (Ay right)).trans p1
 refine az.p1 (aU.pp (eN ht ((prefix_append ([P.str "sub"]++left) [P.str "by"]).trans p2)) (az.p1 (aU.pp (eN ht p2) (az.p0 ?_))));have fin:∀{l},l=Ay right→aU .Add σ (.p (.list ([P.str "sub"]++left++[P.str "by"]))) (.p (.list l)) (fun b ah=>aw σ.length [cP (.str ";")] [(27,.p r),(69,.p (.bool false)),(7,.p kd),(8,.p pt),(18,.p (.list left)),(47,.p (.list right))] ah (fun a ah=>aU .Add ah b a (fun v ah=>cB ak (fun o ah=>cz σ.length ah o Q) (back σ.length E) (.ret v) ah)) (back σ.length E)):=fun {l} e=>by rw[e];exact aU.pp (eN ht p1) (az.p1 (aU.pp (add_same ht) (dc q)))
 induction right with
 |nil=>exact aF.pp (sJ rfl rfl (bl rfl)) (aT.mk (fun e=>Bool.noConfusion e) fun U=>az.p1 (fin rfl))
 |cons c l=>exact aF.pp mK (aT.mk (fun U=>fin rfl) fun e=>nomatch e)
theorem Az{k:Str}{ps:Lp}(hq:kh σ.length [(27,.p r),(69,.p (.bool false)),(7,.p (.str k)),(8,.p (.tup ps))] σ (fun o ah=>cz σ.length ah o Q) (back σ.length E))(h1:k≠ "chain")(h2:k≠ "adjust")(h3:k≠ "pair")(h4:k≠ "alternate"):
  ki σ.length [(27,.p r),(69,.p (.bool false)),(7,.p (.str k)),(8,.p (.tup ps))] σ (fun o ah=>cz σ.length ah o Q) (back σ.length E):=
 aF.pp (i9 h2) (aT.mk (fun e=>Bool.noConfusion e) fun U=>aF.pp (i9 h3) (aT.mk (fun e=>Bool.noConfusion e) fun U=>aF.pp (i9 h4) (aT.mk (fun e=>nomatch e) fun U=>hq)))
theorem words_pos{k0:Nat}{l:Ls}{w:yq}{K:MQ Out}(hl:l.length≤1000)(hw:xY w)(q:K (.ret (.p (wP (.kw .pos::(ee l++(cK w++[.sg .semi])))))) σ):
  lW k0 [(27,.p r),(69,.p (.bool false)),(7,.p kd),(8,.p (.tup (aq l++[.tup (eW w.l)])))] σ K E:=by
 have e:wL (.kw .pos::(ee l++(cK w++[.sg .semi])))=[P.str "pos"]++aq l++wL (cK w)++[P.str ";"]:=by refine ER (show Tk.kw .pos::(ee l++(cK w++[.sg .semi]))=[Tk.kw .pos]++(ee l++(cK w++[Tk.sg .semi])) from rfl ..) (ER (cL ..) (ER (cL ..) (ER (cL ..) (ER (tP ..) (EL (append_assoc ..) (EL (append_assoc ..) ?_))))));rfl
 unfold wP at q;rw[e]at q;have wl:(cK w).length≤6:=by unfold cK;refine iT (fun _=>?_) fun _=>?_<;>exact bl rfl
 have ht:([P.str "pos"]++aq l++wL (cK w)++[P.str ";"]).length≤100000:=by simp only[length_append,fc,bc,length_singleton];lia
 have p1:=prefix_append ([P.str "pos"]++aq l++wL (cK w)) [P.str ";"]
 have lim:(aq l).length≤1000:=by rw[bc];exact hl
 exact az.p1 (jK.mk _ _ _ _ rfl rfl rfl (Pk lim) (dC.pp (jX (le_trans lim (bl rfl))) (aU.pp (eN ht ((prefix_append ([P.str "pos"]++aq l) (wL (cK w))).trans p1)) (aW.pp Br (GS hw (aU.pp (eN ht p1) (az.p1 (aU.pp (add_same ht) q))))))))
theorem GV:∀l:List (Ls),wL (bT (l.map fun g=>(g,none)))=l.flatMap fun g=>wL (cJ g):=by
 intro rv;induction rv with
 |nil=>exact rfl
 |cons g l ih=>
  show wL (cJ g++[]++bT (l.map fun g=>(g,none)))=_;refine ER (append_nil ..) (ER (cL ..) (ER (ih ..) ?_));rfl
theorem Sb:∀l:List (Ls×Ls),wL (bT (l.map fun x=>(x.1,some x.2)))=l.flatMap fun x=>wL (wK x):=by
 intro rv;induction rv with
 |nil=>exact rfl
 |cons x l ih=>
  show wL (Cn (x.1,some x.2)++bT (l.map fun x=>(x.1,some x.2)))=_;refine ER (cL ..) (ER (ih ..) ?_);rfl
theorem Pn:∀(ins:List (Ls×Ls)) (j:Nat),(ff j ins).length≤(ins.flatMap fun x=>wL (wK x)).length:=by
 intro rv;induction rv with
 |nil=>exact fun o=>le_refl _
 |cons x ins ih=>
  intro j;have:=ih (j+1);have u:(wK x).length=(cJ x.1).length+(2 * x.2.length+1):=by
   show(cJ x.1++ .sg .q::pj x.2).length=_;exact ER (length_append ..) (ER (length_cons ..) (ER (yO ..) rfl))
  rw[flatMap_cons,length_append,fc,u];show(_++ff (j+1) ins).length≤_;refine ER (length_append ..) (ER (length_map ..) ?_);lia
theorem nH{α β:Type}{f:α→List β}{l:List α}{x:α}(h:x∈l):(f x).length≤(l.flatMap f).length:=by
 obtain⟨a,b,rfl⟩:=List.append_of_mem h;refine ER flatMap_append (ER flatMap_cons (ER length_append (ER length_append ?_)));lia
theorem ID(g:Ls):g.length≤(wL (cJ g)).length:=by
 rw[fc];unfold cJ;refine iT (fun _=>?_) fun _=>?_
 ·rw[dT];exact le_refl _
 ·simp[dT];lia
theorem rm{α β:Type}{f:α→List β}{l:List α}(h:∀x∈l,1≤(f x).length):l.length≤(l.flatMap f).length:=by
 induction l with
 |nil=>exact le_refl _
 |cons x l ih=>
  have a:=h x (.head _)
  have b:=ih fun y hy=>h y (.tail _ hy)
  refine ER flatMap_cons (ER length_append (ER length_cons ?_));grind only
theorem dZ.pos{g:Ls}(h:dZ g):1≤(wL (cJ g)).length:=le_trans (List.length_pos_iff.mpr h.ne) (ID g)
theorem AB:(∀k∈(["single","multiple","ligature","alternate","adjust","pair"]:Ls),k≠ "chain")∧(∀k∈(["single","multiple","ligature","alternate","pair"]:Ls),k≠ "adjust")∧(∀k∈(["single","multiple","ligature","alternate"]:Ls),k≠ "pair")∧(∀k∈(["single","multiple","ligature"]:Ls),k≠ "alternate")∧(∀k∈(["single","multiple"]:Ls),k≠ "ligature")∧∀k∈(["single","ligature"]:Ls),k≠ "multiple" :=by decide+kernel
theorem LZ{x:LR}(h:eX x)(hl:(bF x).length≤40000)(q:Q (.p (wP (bF x))) σ):Run jg [.p (fG (bw x)),.p (.bool false)] σ Q E:=by
 have len:(wL (bF x)).length≤100000:=by refine ER (fc ..) ?_;exact le_trans hl (bl rfl)
 obtain⟨nc,na,np,nt,nl,nm⟩:=AB;refine⟨.mk _ _ rfl rfl ?_⟩;induction x with
 |single a b=>exact aF.pp (i9 (nc _ (.head _))) (aT.mk (fun e=>nomatch e) fun U=>Az (aF.pp (i9 (nl _ (.head _))) (aT.mk (fun e=>nomatch e) fun U=>aW.pp (aO (k:=0) rfl (zero_le _)) (az.mk _ _ (.cons (.p _) .nil) (bl rfl)
   (aF.pp (i9 (nm _ (.head _))) (aT.mk (fun e=>nomatch e) fun U=>aW.pp (aO (k:=1) rfl (by decide)) (az.p1 (wM (bl rfl) q))))))) (nc _ (.head _)) (na _ (.head _)) (np _ (.head _)) (nt _ (.head _)))
 |du a l=>
  have e:wL (bF (.du a l))=[P.str "sub"]++[P.str a]++[P.str "by"]++Ay (aq l)++[P.str ";"]:=by
   cases l with
   |nil=>rfl
   |cons w l=>
    have:=cL (ee (w::l)) [.sg .semi]
    rw[tP]at this;exact congrArg (P.str "sub" ::P.str a::P.str "by" :: ·) this
  have lim:(aq l).length≤bL:=by
   replace len:=e▸len
   simp only[length_append,length_singleton]at len;have:(aq l).length≤(Ay (aq l)).length:=by cases l<;>first|exact zero_le _|exact le_refl _
   exact le_trans this (le_trans (by lia) (bl rfl:100000≤bL))
  unfold wP at q;rw[e]at q len;exact aF.pp (i9 (nc _ (.tail _ (.head _)))) (aT.mk (fun e=>nomatch e) fun U=>Az (aF.pp (i9 (nl _ (.tail _ (.head _)))) (aT.mk (fun e=>nomatch e) fun U=>aW.pp (aO (k:=0) rfl (zero_le _)) (az.mk _ _ (.cons (.p _) .nil) (bl rfl)
   (aF.pp (tQ _) (aT.mk (fun U=>aW.pp (aO (k:=1) rfl (by decide)) (dC.pp (jX lim) (wM len q))) fun e=>Bool.noConfusion e))))) (nc _ (.tail _ (.head _))) (na _ (.tail _ (.head _))) (np _ (.tail _ (.head _))) (nt _ (.tail _ (.head _))))
 |dK l b=>
  have e:wL (bF (.dK l b))=[P.str "sub"]++aq l++[P.str "by"]++[P.str b]++[P.str ";"]:=by
   have:=cL (ee l) [.kw .Ca,.nm b,.sg .semi]
   rw[tP]at this;refine(congrArg (P.str "sub" :: ·) this).trans ?_;show P.str "sub" ::(aq l++[P.str "by",.str b,.str ";"])=_;simp
  have lim:(aq l).length≤bL:=by
   rw[e]at len;simp only[length_append,length_singleton]at len;exact le_trans (by lia) (bl rfl:100000≤bL)
  unfold wP at q;rw[e]at q len;exact aF.pp (i9 (nc _ (.tail _ (.tail _ (.head _))))) (aT.mk (fun e=>nomatch e) fun U=>Az (aF.pp (tQ _) (aT.mk (fun U=>aW.pp (aO (k:=0) rfl (zero_le _)) (dC.pp (jX lim)
   (aF.pp (i9 (nm _ (.tail _ (.head _)))) (aT.mk (fun e=>nomatch e) fun U=>aW.pp (aO (k:=1) rfl (by decide)) (az.p1 (wM len q)))))) fun e=>Bool.noConfusion e)) (nc _ (.tail _ (.tail _ (.head _)))) (na _ (.tail _ (.tail _ (.head _)))) (np _ (.tail _ (.tail _ (.head _)))) (nt _ (.tail _ (.tail _ (.head _)))))
 |b6 a l=>
  have e:wL (bF (.b6 a l))=[P.str "sub",.str a,.str "from",.str "["]++aq l++[P.str "]",.str ";"]:=by
   have:=cL (ee l) [.sg .rb,.sg .semi]
   rw[tP]at this;refine Eq.trans ?_ (congrArg (P.str "sub" ::P.str a::P.str "from" ::P.str "[" :: ·) this);show wL (.kw .sub:: .nm a:: .kw .eV:: .sg .lb::(ee l++[.sg .rb]++[.sg .semi]))=_;refine ER (append_assoc ..) ?_;rfl
  have lim:(aq l).length≤bL:=by
   rw[e]at len;simp only[length_append]at len;exact le_trans (by grind only) (bl rfl:100000≤bL)
  unfold wP at q;rw[e]at q len;exact aF.pp (i9 (nc _ (.tail _ (.tail _ (.tail _ (.head _)))))) (aT.mk (fun e=>nomatch e) fun U=>aF.pp (i9 (na _ (.tail _ (.tail _ (.tail _ (.head _)))))) (aT.mk (fun e=>Bool.noConfusion e) fun U=>aF.pp (i9 (np _ (.tail _ (.tail _ (.tail _ (.head _)))))) (aT.mk (fun e=>Bool.noConfusion e) fun U=>aF.pp (tQ _) (aT.mk (fun U=>
   aW.pp (aO (k:=0) rfl (zero_le _)) (az.p4 (aW.pp (aO (k:=1) rfl (by decide)) (dC.pp (jX lim) (aU.pp (eN len Xv) (az.p2 (aU.pp (add_same len) (dc q)))))))) fun e=>nomatch e))))
 |ia a w=>exact aF.pp (i9 (nc _ (.tail _ (.tail _ (.tail _ (.tail _ (.head _))))))) (aT.mk (fun e=>nomatch e) fun U=>aF.pp (tQ _) (aT.mk (fun U=>aT.mk (fun U=>words_pos (l:=[a]) (bl rfl) h.2 (dc q)) fun e=>Bool.noConfusion e) fun e=>Bool.noConfusion e))
 |pair a b w=>exact aF.pp (i9 (nc _ (.tail _ (.tail _ (.tail _ (.tail _ (.tail _ (.head _)))))))) (aT.mk (fun e=>nomatch e) fun U=>aF.pp (i9 (na _ (.tail _ (.tail _ (.tail _ (.tail _ (.head _))))))) (aT.mk (fun e=>Bool.noConfusion e) fun U=>aF.pp (tQ _) (aT.mk (fun U=>words_pos (l:=[a,b]) (bl rfl) h.2.2 (dc q)) fun e=>Bool.noConfusion e)))
 |chain p back ins ahead=>
  obtain⟨h1,h2,h3,h4⟩:=h;have e:wL (bF (.chain p back ins ahead))=[P.str (kR p).str]++back.flatMap (fun g=>wL (cJ g))++ins.flatMap (fun x=>wL (wK x))++ahead.flatMap (fun g=>wL (cJ g))++[P.str ";"]:=by
   show wL ([Tk.kw (kR p)]++(bT (fH back ins ahead)++[Tk.sg .semi]))=_;show _;refine ER (qz ..) (ER (qz ..) (ER (cL ..) (ER (cL ..) (ER (cL ..) (ER (cL ..) (ER (GV ..) (ER (GV ..) (ER (Sb ..) (EL (append_assoc ..) (EL (append_assoc ..) (EL (append_assoc ..) ?_)))))))))));rfl
  unfold wP at q;rw[e]at q len;have p1:=prefix_append ([P.str (kR p).str]++back.flatMap (fun g=>wL (cJ g))++ins.flatMap (fun x=>wL (wK x))++ahead.flatMap (fun g=>wL (cJ g))) [P.str ";"];have p2:=(prefix_append ([P.str (kR p).str]++back.flatMap (fun g=>wL (cJ g))++ins.flatMap (fun x=>wL (wK x))) _).trans p1;have p3:=(prefix_append ([P.str (kR p).str]++back.flatMap (fun g=>wL (cJ g))) _).trans p2;have yo:=hl;replace yo:=(e ..)▸(fc ..).symm▸yo;simp only[length_append]at yo;have b0:=rm (f:=fun g=>wL (cJ g)) fun g hg=>(h1 g hg).pos;have b1:=rm (f:=fun x=>wL (wK x)) (l:=ins) fun x U=>by rw[fc];show 1≤(cJ x.1++ .sg .q::pj x.2).length;refine ER length_append (ER length_cons ?_);lia
  have b2:=rm (f:=fun g=>wL (cJ g)) fun g hg=>(h3 g hg).pos
  have b3:=Pn ins 0
  have gb:∀{l:List (Ls)} {g},g∈l→(l.flatMap fun g=>wL (cJ g)).length≤50000→g.length≤50000:=fun hg h=>le_trans (ID _) (le_trans (nH (f:=fun g=>wL (cJ g)) hg) h);have gi:∀x∈ins,x.1.length≤50000:=fun x hx=>le_trans (ID _) (le_trans (by refine ER (fc ..) (ER (fc ..) ?_);show _≤(cJ x.1++ .sg .q::pj x.2).length;rw[length_append];exact le_add_right _ _) (le_trans (nH (f:=fun x=>wL (wK x)) hx) (by omega)));refine aF.pp (tQ _) (aT.mk (fun U=>aW.pp (aO (k:=0) rfl (zero_le _)) (az.p1 (aW.pp (aO (k:=1) rfl (by decide)) (.mk _ (.tup _) (by simp only[length_map,bL];omega)
   ⟨Cv (k0:=σ.length) back _ [] (fun g hg=>gb hg (by omega)) (le_trans p3.length_le len) fun t=>aW.pp (aO (k:=2) rfl (by decide)) (.mk _ (.inr rfl) (by simp only[length_map,bL];grind only)
    ⟨Pj (p0:=.str (kR p).str) (p1:=.tup (back.map tupS)) (p2:=.tup (ins.map fun x=>tupS x.1)) (p3:=.tup (ahead.map tupS)) (by grind only) gi ins [] _ t rfl (le_trans p2.length_le len) fun t=>aW.pp (aO (k:=3) rfl (by decide)) (.mk _ (.tup _) (by simp only[length_map,bL];lia)
     ⟨Cv (k0:=σ.length) ahead _ t (fun g hg=>gb hg (by omega)) (le_trans p1.length_le len) fun t=>az.p1 (aU.pp (add_same len) (dc q))⟩)⟩)⟩)))) fun e=>Bool.noConfusion e)
end
section
variable {σ:LM}{E:ME}{Q:MQ V}
def FL.p(f:FL):P:=.tup [.str f.tag,.str f.bk,.str f.aC,tupS f.dw]
def LL.p(l:LL):P:=.tup [.str l.name,.int l.flag,.tup (l.rows.map fun x=>fG (bw x))]
def mf(aY:List LL)(fs:List FL):P:=.tup [.tup (aY.map LL.p),.tup (fs.map FL.p)]
theorem D4{α:Type}{f:α→Lk}:∀l:List α,wL (l.flatMap f)=l.flatMap fun x=>wL (f x):=by
 intro rv;induction rv with
 |nil=>exact rfl
 |cons x l ih=>exact ER (flatMap_cons ..) (ER (cL ..) (ER (ih ..) (ER (flatMap_cons ..) rfl)))
theorem IE{l:LL}(h:∀x∈l.rows,eX x)(hf:n8 l.flag)(hl:(wH l).length≤40000)(q:Q (.p (wP (wH l))) σ):Run gz [.p l.p,.p (.bool false)] σ Q E:=by
 have e:wL (wH l)=[P.str "lookup",.str l.name]++wL (fg l.flag)++[P.str "{"]++l.rows.flatMap (fun x=>wL (bF x))++[P.str "}"]:=by
  show wL ([.kw .lookup,.nm l.name]++(fg l.flag++[.sg .lc])++(aR l.rows++[.sg .rc]))=_;refine EL (append_assoc ..) (EL (append_assoc ..) (ER (cL ..) (ER (cL ..) (ER (cL ..) (ER (cL ..) ?_)))));unfold aR;refine ER (D4 ..) ?_;rfl
 have len:(wL (wH l)).length≤100000:=by rw[fc];exact le_trans hl (bl rfl)
 have yo:=hl
 rw[←fc,e]at yo;simp only[length_append]at yo;unfold wP at q;rw[e]at q len;have p1:=prefix_append ([P.str "lookup",.str l.name]++wL (fg l.flag)++[P.str "{"]++l.rows.flatMap (fun x=>wL (bF x))) [P.str "}"];have p2:=(prefix_append ([P.str "lookup",.str l.name]++wL (fg l.flag)++[P.str "{"]) _).trans p1;have rl:∀x∈l.rows,(bF x).length≤40000:=fun x hx=>by refine EL (fc ..) ?_;exact le_trans (nH (f:=fun x=>wL (bF x)) hx) (by grind only)
 have r1:=rm (f:=fun x=>wL (bF x)) (l:=l.rows) fun x U=>by rw[fc];exact succ_pos _
 have rest:fz σ.length [(71,.p l.p),(69,.p (.bool false)),(4,.p (.str l.name)),(5,.p (.int l.flag)),(6,.p (.tup (l.rows.map fun x=>fG (bw x)))),(33,.p (.list ([P.str "lookup",.str l.name]++wL (fg l.flag)++[P.str "{"])))] σ (fun o ah=>cz σ.length ah o Q) (back σ.length E):=
  .mk _ (.tup _) (by simp only[length_map,bL];grind only) ⟨vt (τ:=ai) (L:=fun acc t=>(71,.p l.p)::(69,.p (.bool false))::(4,.p (.str l.name))::(5,.p (.int l.flag))::(6,.p (.tup (l.rows.map fun x=>fG (bw x))))::(33,.p (.list acc))::t) (tk:=fun x=>wL (bF x))
   (fun acc t x K hx hn q=>⟨_,rfl,by
    show(bW (bx t 27 (V.p (fG (bw x)))) 27).elim _ _;refine ER (bQ ..) ?_;exact LZ (h x hx) (rl x hx) (aU.pp (add_same hn) (q _))⟩) l.rows _ [] (fun U h=>h) (le_trans p1.length_le len) fun o=>az.p1 (aU.pp (add_same len) (dc q))⟩
 have head:∀{fl:Lp},fl=wL (fg l.flag)→aU .Add σ (.p (.list [.str "lookup",.str l.name])) (.p (.list fl)) (fun b ah=>aw σ.length [cP (.str "{")] [(71,.p l.p),(69,.p (.bool false)),(4,.p (.str l.name)),(5,.p (.int l.flag)),(6,.p (.tup (l.rows.map fun x=>fG (bw x))))] ah (fun c ah=>aU .Add ah b c (fun v ah=>fz σ.length [(71,.p l.p),(69,.p (.bool false)),(4,.p (.str l.name)),(5,.p (.int l.flag)),(6,.p (.tup (l.rows.map fun x=>fG (bw x)))),(33,v)] ah (fun o ah=>cz σ.length ah o Q) (back σ.length E))) (back σ.length E)):=fun {fl} e=>by rw[e];exact aU.pp (eN len ((prefix_append ([P.str "lookup",.str l.name]++wL (fg l.flag)) [P.str "{"]).trans p2)) (az.p1 (aU.pp (eN len p2) rest))
 refine⟨.mk _ _ rfl rfl (az.p2 (aF.pp cmp_gt (aT.mk (fun e=>aT.mk (fun U=>dC.pp (str_int (IC hf)) (az.p2 (head ?_))) fun x=>nomatch x) fun e=>aT.mk (fun x=>nomatch x) fun U=>az.p0 (head ?_))))⟩
 ·unfold fg;refine ER (if_pos e) ?_;rfl
 ·unfold fg;refine ER (if_neg (nt e)) ?_;rfl
theorem IF{f:FL}(hl:(jt f).length≤40000)(q:Q (.p (wP (jt f))) σ):Run f6 [.p f.p,.p (.bool false)] σ Q E:=by
 have e:wL (jt f)=[P.str "feature",.str f.tag]++wL (dQ .bk "DFLT" f.bk)++wL (dQ .aC "dflt" f.aC)++[P.str "{"]++aq f.dw++[P.str "}"]:=by
  show wL ([.kw .gp,.nm f.tag]++(dQ .bk "DFLT" f.bk++(dQ .aC "dflt" f.aC++([.sg .lc]++(ee f.dw++[.sg .rc])))))=_;refine EL (append_assoc ..) (EL (append_assoc ..) (EL (append_assoc ..) (EL (append_assoc ..) (ER (cL ..) (ER (cL ..) (ER (cL ..) (ER (cL ..) (ER (cL ..) (ER (tP ..) ?_)))))))));rfl
 have len:(wL (jt f)).length≤100000:=by rw[fc];exact le_trans hl (bl rfl)
 unfold wP at q;rw[e]at q len;have p1:=prefix_append ([P.str "feature",.str f.tag]++wL (dQ .bk "DFLT" f.bk)++wL (dQ .aC "dflt" f.aC)++[P.str "{"]++aq f.dw) [P.str "}"];have p2:=(prefix_append ([P.str "feature",.str f.tag]++wL (dQ .bk "DFLT" f.bk)++wL (dQ .aC "dflt" f.aC)++[P.str "{"]) (aq f.dw)).trans p1;have p3:=(prefix_append ([P.str "feature",.str f.tag]++wL (dQ .bk "DFLT" f.bk)++wL (dQ .aC "dflt" f.aC)) [P.str "{"]).trans p2;have p4:=(prefix_append ([P.str "feature",.str f.tag]++wL (dQ .bk "DFLT" f.bk)) (wL (dQ .aC "dflt" f.aC))).trans p3;have lim:(aq f.dw).length≤bL:=by
  simp only[length_append]at len;exact le_trans (by lia) (bl rfl:100000≤bL)
 have opt:∀{k d w},wL (dQ k d w)=if !decide (w=d)then [P.str k.str,.str w]else []:=fun {k d w}=>by unfold dQ;cases decide (w=d)<;>rfl
 have last:∀{l:Lp},l=[P.str "feature",.str f.tag]++wL (dQ .bk "DFLT" f.bk)++wL (dQ .aC "dflt" f.aC)→ie σ.length [(72,.p f.p),(69,.p (.bool false)),(9,.p (.str f.tag)),(10,.p (.str f.bk)),(11,.p (.str f.aC)),(66,.p (tupS f.dw)),(33,.p (.list l))] σ (fun o ah=>cz σ.length ah o Q) (back σ.length E):=fun {l} e=>by refine ER e ?_;exact az.p1 (aU.pp (eN len p2) (dC.pp (jX lim) (aU.pp (eN len p1) (az.p1 (aU.pp (add_same len) (dc q))))))
 have mid:∀{l:Lp},l=[P.str "feature",.str f.tag]++wL (dQ .bk "DFLT" f.bk)→ig σ.length [(72,.p f.p),(69,.p (.bool false)),(9,.p (.str f.tag)),(10,.p (.str f.bk)),(11,.p (.str f.aC)),(66,.p (tupS f.dw)),(33,.p (.list l))] σ (fun o ah=>cz σ.length ah o Q) (back σ.length E):=fun {l} e=>by
  subst e;refine aF.pp (eY _ _) (aT.mk (fun e=>aT.mk (fun U=>az.p2 (aU.pp (eN (t:=_++[P.str "language",.str f.aC]) (le_trans (by refine ER (show [P.str "language",.str f.aC]=wL (dQ .aC "dflt" f.aC) from ((opt (k:=.aC)).trans (if_pos e)).symm) ?_;exact p3.length_le) len) (prefix_refl _)) (last ?_))) fun x=>nomatch x) fun e=>aT.mk (fun x=>nomatch x) fun U=>last ?_)
  ·refine ER (opt (k:=.aC)) (ER (if_pos e) ?_);rfl
  ·exact ER (opt (k:=.aC) ..) (ER (if_neg (nt e) ..) (ER (append_nil ..) rfl))
 refine⟨.mk _ _ rfl rfl (az.p2 (aF.pp (eY _ _) (aT.mk (fun e=>aT.mk (fun U=>az.p2 (aU.pp (add_same (bl rfl)) (mid ?_))) fun x=>nomatch x) fun e=>aT.mk (fun x=>nomatch x) fun U=>mid ?_)))⟩
 ·refine ER (opt (k:=.bk)) (ER (if_pos e) ?_);rfl
 ·exact ER (opt (k:=.bk) ..) (ER (if_neg (nt e) ..) (ER (append_nil ..) rfl))
theorem L4{aY:List LL}{fs:List FL}(h:∀l∈aY,(∀x∈l.rows,eX x)∧n8 l.flag)(hl:(bz aY++bI fs).length≤40000)(q:Q (.p (wP (bz aY++bI fs))) σ):Run gM [.p (mf aY fs),.p (.bool false)] σ Q E:=by
 have e:wL (bz aY++bI fs)=[]++aY.flatMap (fun l=>wL (wH l))++fs.flatMap (fun f=>wL (jt f)):=by unfold bz bI;refine ER (cL ..) (ER (D4 ..) (ER (D4 ..) ?_));rfl
 have len:(wL (bz aY++bI fs)).length≤40000:=by rw[fc];exact hl
 unfold wP at q;rw[e]at q len;have yo:=len;simp only[length_append]at yo;have r1:=rm (f:=fun x=>wL (wH x)) (l:=aY) fun x U=>by rw[fc];exact succ_pos _
 have r2:=rm (f:=fun x=>wL (jt x)) (l:=fs) fun x U=>by rw[fc];exact succ_pos _
 have k1:∀x∈aY,(wH x).length≤40000:=fun x hx=>by rw[←fc];exact le_trans (nH (f:=fun x=>wL (wH x)) hx) (by omega)
 have k2:∀x∈fs,(jt x).length≤40000:=fun x hx=>by rw[←fc];exact le_trans (nH (f:=fun x=>wL (jt x)) hx) (by omega)
 have big:=le_trans len (bl rfl:40000≤100000)
 refine⟨az.p0 (aW.pp (aO (k:=0) rfl (zero_le _)) (.mk _ (.tup _) (by simp only[length_map,bL];omega) ⟨vt (τ:=ai) (L:=fun acc t=>(51,.p (mf aY fs))::(69,.p (.bool false))::(33,.p (.list acc))::t) (tk:=fun x=>wL (wH x))
   (fun acc t x K hx hn q=>⟨_,rfl,?_⟩) aY [] [] (fun U h=>h) (le_trans (prefix_append ([]++aY.flatMap (fun l=>wL (wH l))) (fs.flatMap fun f=>wL (jt f))).length_le big) fun t=>aW.pp (aO (k:=1) rfl (by decide)) (.mk _ (.tup _) (by simp only[length_map,bL];omega) ⟨vt (τ:=ai) (L:=fun acc t=>(51,.p (mf aY fs))::(69,.p (.bool false))::(33,.p (.list acc))::t) (tk:=fun x=>wL (jt x))
    (fun acc t x K hx hn q=>⟨_,rfl,?_⟩) fs _ t (fun U h=>h) big fun t=>dc q⟩)⟩))⟩
 ·show(bW (bx t 71 (V.p x.p)) 71).elim _ _;refine ER (bQ ..) ?_;exact IE (h x hx).1 (h x hx).2 (k1 x hx) (aU.pp (add_same hn) (q _))
 ·show(bW (bx t 72 (V.p x.p)) 72).elim _ _;refine ER (bQ ..) ?_;exact IF (k2 x hx) (aU.pp (add_same hn) (q _))
end
noncomputable def yr(cs:List Int)(nI rest:Int):MO:=.list [.list (cs.map P.int),.int nI,.int rest]
inductive Vh (σ:LM) (k:Nat):Prop
 |mk (cs:List Int) (nI rest:Int) (get:σ[0]?=some (yr cs nI rest)) (cS:cs.length≤63) (lo:0≤nI) (hi:nI≤(k:Int)) (re:0≤rest)
structure PW (aj:LM) (k:Nat) (σ:LM):Prop where
 ext:Ext [0] aj σ
 VX:Vh σ k
 lt:0<aj.length
section
variable {σ ah aj:LM}{k m n:Nat}{o:MO}{E:ME}{Q:MQ V}
theorem Vh.le(h:Vh σ k)(hm:k≤m):Vh σ m:=by
 obtain⟨cs,s,r,a,b,c,d,e⟩:=h;exact⟨cs,s,r,a,b,c,Int.le_trans d (Int.ofNat_le.mpr hm),e⟩
theorem Vh.get(h:Vh σ k)(e:ah[0]?=σ[0]?):Vh ah k:=by
 obtain⟨cs,s,r,a,b,c,d,f⟩:=h;exact⟨cs,s,r,e.trans a,b,c,d,f⟩
theorem PW.le(w:PW aj k σ)(h:k≤m):PW aj m σ:=⟨w.ext,w.VX.le h,w.lt⟩
theorem PW.start(w:PW aj k σ):PW σ k σ:=⟨.refl _ _,w.VX,lt_of_lt_of_le w.lt w.ext.1⟩
theorem PW.push(w:PW aj k σ):PW aj k (σ++[o]):=⟨w.ext.push,w.VX.get (getElem?_append_left (lt_of_lt_of_le w.lt w.ext.1)),w.lt⟩
theorem PW.set(w:PW aj k σ)(h:aj.length≤n):PW aj k (σ.set n o):=⟨w.ext.set h,w.VX.get (getElem?_set_ne (ne_of_gt (lt_of_lt_of_le w.lt h))),w.lt⟩
theorem PW.done(a:PW aj n σ)(w:PW σ k ah)(h:k≤m):bC [0] σ (ah.take σ.length)∧PW aj m (ah.take σ.length):=
 ⟨w.ext.take,a.ext.same w.ext.take,(w.VX.le h).get (by rw[getElem?_take,if_pos w.lt]),a.lt⟩
theorem PW.keep(w:PW aj k σ)(s:bC [0] σ ah)(h:aj.length≤n){x:MO}(e:σ[n]?=some x):ah[n]?=some x:=s.get e (yp (ne_of_gt (lt_of_lt_of_le w.lt h)))
theorem Cw{a b:Int}(h:0<b):0≤Int.fmod a b:=by rw[Int.fmod_eq_emod_of_nonneg a (le_of_lt h)];exact Int.emod_nonneg _ (Int.ne_of_gt h)
theorem Cx{a b:Int}(h:0<b):Int.fmod a b<b:=by rw[Int.fmod_eq_emod_of_nonneg a (le_of_lt h)];exact Int.emod_lt_of_pos _ h
theorem Tz{a b:Int}(ha:0≤a)(h:0<b):0≤Int.fdiv a b:=by rw[Int.fdiv_eq_ediv_of_nonneg a (le_of_lt h)];exact Int.ediv_nonneg ha (le_of_lt h)
theorem sm{i:Int}(h0:0≤i)(h1:i<18446744073709551616):small i=true:=by simp only[small,and_eq_true,decide_eq_true_eq];omega
theorem Xw{a s:Int}(ha:0≤a)(hs:0≤s)(ha2:a<2147483629)(hs2:s≤1000000):small (a * (2 * s+3011)+701 * s * s+37)=true:=by
 have h1:0≤a * (2 * s+3011):=Int.mul_nonneg ha (by omega);have h2:a * (2 * s+3011)≤2147483629 * (2 * s+3011):=Int.mul_le_mul_of_nonneg_right (by omega) (by omega);have h3:0≤701 * s * s:=Int.mul_nonneg (by omega) hs;have h4:701 * s * s≤701 * s * 1000000:=Int.mul_le_mul_of_nonneg_left hs2 (by omega);exact sm (by omega) (by omega)
theorem Po{l:Lp}{i:Int}(h0:0≤i)(h1:i<(l.length:Int))(hl:l.length≤1000000):∃x,x∈l∧b8 (.list l) i x:=by
 have hk:i.toNat<l.length:=by simp+arith [*]
 refine⟨l[i.toNat],List.getElem_mem hk,?_⟩;have:=cE (l:=l) (List.getElem?_eq_getElem hk) (by omega)
 rwa [Int.toNat_of_nonneg h0]at this
theorem kT(w:PW aj k σ)(hk:k≤100000)(hm:0<m)(hm2:m≤1000000)(q:∀j ah,j<m→bC [0] σ ah→PW aj (k+1) ah→Q (.p (.int (j:Int))) ah):Run aK [.ref 0,.p (.int (m:Int))] σ Q E:=by
 obtain⟨cs,nI,rest,g,cS,lo,hi,re⟩:=w.VX;have hl:0<σ.length:=lt_of_lt_of_le w.lt w.ext.1;have hM:(0:Int)<(m:Int):=ofNat_lt.mpr hm;have sM:small (m:Int)=true:=sm (le_of_lt hM) (by omega);have fin:∀{i s r:Int},0≤i→i<m→0≤s→s≤((k+1:Nat):Int)→0≤r→cz σ.length (σ.set 0 (yr cs s r)) (.ret (.p (.int i))) Q:=fun {i s r} a b c d e=>by
  have hs:bC [0] σ (σ.set 0 (yr cs s r)):=.set (.head _);have:=q i.toNat _ (by simp+arith [*]) hs ⟨w.ext.same hs,⟨cs,s,r,get_set hl,cS,c,d,e⟩,w.lt⟩;rw[Int.toNat_of_nonneg a]at this;exact Gb (by refine EL hs.1 (ER take_length ?_);exact this)
 refine⟨aW.mk _ _ _ (aB g) rfl (cE (k:=2) rfl (by decide)) (aF.pp cmp_gt (aT.mk (fun e=>?_) fun e=>?_))⟩
 ·have e:=of_decide_eq_true e;exact aW.mk _ _ _ (aB g) rfl (cE (k:=2) rfl (by decide)) (dC.pp int_int (aU.pp (jS hM) (aW.mk _ _ _ (aB g) rfl (cE (k:=2) rfl (by decide)) (dC.pp int_int (aU.pp (yU hM sM)
   (BZ.mk _ _ _ _ rfl rfl rfl g rfl (fin (s:=nI) (r:=Int.fdiv rest m) (Cw hM) (Cx hM) lo (by omega) (Tz re hM))))))))
 ·have g1:(σ.set 0 (yr cs (nI+1) rest))[0]?=some (yr cs (nI+1) rest):=get_set hl;have fin1:∀{i r:Int},0≤i→i<m→0≤r→cz σ.length ((σ.set 0 (yr cs (nI+1) rest)).set 0 (yr cs (nI+1) r)) (.ret (.p (.int i))) Q:=fun a b c=>by refine ER (List.set_set ..) ?_;exact fin a b (by omega) (by simp+arith [*]) c
  have lim:(cs.map P.int).length≤bL:=by refine ER (length_map ..) ?_;exact le_trans cS (bl rfl)
  have b4:∀cell:Int,uN σ.length [(53,.ref 0),(54,.p (.int (m:Int))),(43,.p (.int nI)),(56,.p (.int cell))] (σ.set 0 (yr cs (nI+1) rest)) (fun o ah=>cz σ.length ah o Q) (back σ.length E):=fun cell=>by
   have z1:=Cw (a:=cell) (b:=2147483587) (by decide)
   have z2:=Cx (a:=cell) (b:=2147483587) (by decide)
   have y1:=Cw (a:=(Int.fmod cell 2147483587+60037 * nI+6007) ^ (5:Int).toNat) (b:=2147483629) (by decide)
   have y2:=Cx (a:=(Int.fmod cell 2147483587+60037 * nI+6007) ^ (5:Int).toNat) (b:=2147483629) (by decide)
   exact dC.pp int_int (aU.pp (jS (by decide)) (aU.pp (mul_int (.inl rfl)) (aU.pp add_int (aU.pp add_int (aU.pp (pow_int (b:=5) (by decide) (by decide) (sm (by omega) (by omega):small (Int.fmod cell 2147483587+60037 * nI+6007)=true)) (dC.pp int_int (aU.pp (jS (b:=2147483629) (by decide))
    (aU.pp (mul_int (.inl rfl)) (aU.pp add_int (aU.pp (mul_int (.inl (sm y1 (by omega)))) (aU.pp (mul_int (.inl rfl)) (aU.pp (mul_int (.inr (sm lo (by omega)))) (aU.pp add_int (aU.pp add_int
     (aU.pp (pow_int (b:=3) (by decide) (by decide) (Xw y1 lo y2 (by omega))) (dC.pp int_int (aU.pp (jS (b:=2147483579) (by decide)) (aU.pp (yU (b:=32) (by decide) rfl) (dC.pp int_int (aU.pp (jS hM) (fin (s:=nI+1) (r:=rest) (Cw hM) (Cx hM) (by omega) (by simp+arith [*]) re)))))))))))))))))))))
  have b5:∀cell:Int,uO σ.length [(53,.ref 0),(54,.p (.int (m:Int))),(43,.p (.int nI)),(56,.p (.int cell))] (σ.set 0 (yr cs (nI+1) rest)) (fun o ah=>cz σ.length ah o Q) (back σ.length E):=fun cell=>
   aW.mk _ _ _ (aB g1) rfl (cE (k:=0) rfl (by decide)) (dC.pp (len_list lim) (aF.pp nM (aT.mk (fun U=>dC.pp Ji (aU.pp (pow_int (by decide) (by decide) rfl) (aF.pp vW (aT.mk (fun e=>
    dC.pp Ji (aU.pp (pow_int (by decide) (by decide) rfl) (aU.pp sub_int (dC.pp int_int (aU.pp (yU hM sM) (BZ.mk _ _ _ _ rfl rfl rfl g1 rfl (dC.pp int_int (aU.pp (jS hM) (fin1 (Cw hM) (Cx hM) (Tz (by have:=of_decide_eq_true e;exact Int.sub_nonneg_of_le this) hM)))))))))) fun U=>b4 cell)))) fun U=>aT.mk (fun x=>Bool.noConfusion x) fun U=>b4 cell)))
  refine aW.mk _ _ _ (aB g) rfl (cE (k:=1) rfl (by decide)) (aU.pp add_int (BZ.mk _ _ _ _ rfl rfl rfl g rfl (aW.mk _ _ _ (aB g1) rfl (cE (k:=0) rfl (by decide)) (az.p0 ?_))));cases cs with
  |nil=>exact aF.pp (sJ rfl rfl (bl rfl)) (aT.mk (fun x=>Bool.noConfusion x) fun U=>b5 0)
  |cons c cs=>
   have hb:(0:Int)<(((c::cs).map P.int).length:Int):=ofNat_lt.mpr (succ_pos _);obtain⟨x,hx,ok⟩:=Po (l:=(c::cs).map P.int) (Cw (a:=nI) hb) (Cx hb) (le_trans (by refine ER (length_map ..) ?_;exact cS) (bl rfl));obtain⟨cell,_,rfl⟩:=mem_map.mp hx;exact aF.pp mK (aT.mk (fun U=>aW.mk _ _ _ (aB g1) rfl (cE (k:=0) rfl (by decide)) (dC.pp int_int (aW.mk _ _ _ (aB g1) rfl (cE (k:=0) rfl (by decide)) (dC.pp (len_list lim) (aU.pp (jS hb) (aW.pp ok (b5 cell))))))) fun x=>Bool.noConfusion x)
end
structure AD (n:Nat) (g:Ls):Prop where
 ok:dZ g
 len:g.length≤n
section
variable {σ ah aj:LM}{k m n:Nat}{E:ME}{Q:MQ V}
theorem IG(a:Nat){b c:Nat}(h:(b.ble c)=true):a+b≤a+c:=add_le_add_left (Nat.le_of_ble_eq_true h) a
theorem PW.give{x:P}(a:PW aj n σ)(w:PW σ k ah)(h:k≤m)(q:∀bj,bC [0] σ bj→PW aj m bj→Q (.p x) bj):cz σ.length ah (.ret (.p x)) Q:=Gb (q _ (a.done w h).1 (a.done w h).2)
theorem vv{l:Lp}(w:PW aj k σ)(hk:k≤100000)(hl:l.length≤100)(h0:0<l.length)(hm:m=l.length)(q:∀x ah,x∈l→bC [0] σ ah→PW aj (k+1) ah→Q (.p x) ah):Run aK [.ref 0,.p (.int (m:Int))] σ (fun i ah=>aW ah (.p (.list l)) i b8 Q) E:=by
 subst hm;exact kT w hk h0 (le_trans hl (bl rfl)) fun j ah hj s w'=>aW.pp (cE (List.getElem?_eq_getElem hj) (by lia)) (q _ ah (List.getElem_mem hj) s w')
theorem om(w:PW aj k σ)(hk:k≤100000)(q:∀g ah,g∈G7→bC [0] σ ah→PW aj (k+1) ah→Q (.p (.str g)) ah):Run c5 [.ref 0] σ Q E:=
 ⟨dC.pp (len_list (bl rfl)) (vv (m:=7) w.start hk (bl rfl) (succ_pos _) rfl fun x fU hx s w1=>by
  obtain⟨g,hg,rfl⟩:=mem_map.mp (show x∈G7.map P.str from hx);exact w.give w1 (le_refl _) fun bj=>q g bj hg)⟩
theorem L5{k0:Nat}{m:Int}{all:Lp}{Q:MQ Out}(c:Nat):∀(a:Int) (k:Nat) (f:Ls) (t:ai) (ah:LM),(t=[]∨∃u v,t=[(43,u),(23,v)])→PW σ k ah→k+c≤100000→f.length+c≤n→n≤10→ah[σ.length]?=some (.list (aq f))→f.Nodup→(∀w∈f,w∈G7)→(f=[]→0<c)→
  (∀g t bj,AD n g→PW σ (k+c) bj→bj[σ.length]?=some (.list (aq g))→Q (.next ((53,.ref 0)::(59,.p (.int 1))::(60,.p (.int m))::(33,.ref σ.length)::t)) bj)→
  bU all none (.one 43) (eG k0) (gj a c) ((53,.ref 0)::(59,.p (.int 1))::(60,.p (.int m))::(33,.ref σ.length)::t) ah Q E:=by
 induction c with
 |zero=>exact fun a k f t ah ht w hk hl hn g nd g7 dG q=>⟨aA,q f t ah ⟨⟨fun e=>absurd (dG e) (lt_irrefl _),nd,g7⟩,hl⟩ w g⟩
 |succ c ih=>
  intro a k f t ah ht w hk hl hn g nd g7 dG q;have go:eG k0 [(53,.ref 0),(59,.p (.int 1)),(60,.p (.int m)),(33,.ref σ.length),(43,.p (.int a))] ah (cB (bU all none (.one 43) (eG k0) (gj (a+1) c)) Q E) E∧∀v,eG k0 [(53,.ref 0),(59,.p (.int 1)),(60,.p (.int m)),(33,.ref σ.length),(43,.p (.int a)),(23,v)] ah (cB (bU all none (.one 43) (eG k0) (gj (a+1) c)) Q E) E:=by
   have st:∀x fU,x∈G7→bC [0] ah fU→PW σ (k+1) fU→(ae (dP (au (aQ .NotIn (aa 23) (aa 33))) (uX k0) ak) ak) [(53,.ref 0),(59,.p (.int 1)),(60,.p (.int m)),(33,.ref σ.length),(43,.p (.int a)),(23,.p (.str x))] fU (cB (bU all none (.one 43) (eG k0) (gj (a+1) c)) Q E) E:=fun x fU hx s w1=>by
    have g1:=w.keep s (le_refl _) g
    have q':∀g t bj,AD n g→PW σ (k+1+c) bj→bj[σ.length]?=some (.list (aq g))→Q (.next ((53,.ref 0)::(59,.p (.int 1))::(60,.p (.int m))::(33,.ref σ.length)::t)) bj:=fun g t bj h w=>q g t bj h ((add_right_comm k 1 c:k+1+c=k+c+1)▸w);refine aF.mk _ _ _ rfl (aB g1) (Dy f x) (aT.mk (fun e=>⟨.append _ (aB g1),.append _ _ _ rfl rfl g1 (by simp only[aq,length_map,bL];lia) ?_⟩) fun e=>?_)
    ·have e:x∉f:=of_decide_eq_false (nb e);exact ih (a+1) (k+1) (f++[x]) [(43,_),(23,_)] _ (.inr ⟨_,_,rfl⟩) (w1.set (le_refl _)) (by omega) (by refine ER length_append (ER length_singleton ?_);omega) hn (by rw[fE g1,aq,aq,map_append];rfl) (nodup_append.mpr ⟨nd,nodup_cons.mpr ⟨not_mem_nil,List.nodup_nil⟩,fun u hu v hv e'=>e (by refine EL (mem_singleton.mp hv) (EL e' ?_);exact hu)⟩) (fun v hv=>(mem_append.mp hv).elim (g7 v) fun h=>by rw[mem_singleton.mp h];exact hx) (fun e=>absurd e (by simp)) q'
    ·exact ih (a+1) (k+1) f [(43,_),(23,_)] _ (.inr ⟨_,_,rfl⟩) w1 (by omega) (by omega) hn g1 nd g7 (fun e'=>by subst e';exact absurd (Cg e) (by simp)) q'
   exact⟨om w (by omega) st,fun v=>om w (by omega) st⟩
  rcases ht with rfl|⟨u,v,rfl⟩
  ·exact .mk aA _ rfl go.1
  ·exact .mk aA _ rfl (go.2 v)
theorem TA(w:PW aj k σ)(hk:k≤50000)(h0:0<m)(hm:m≤3)(q:∀g ah,AD m g→bC [0] σ ah→PW aj (k+4) ah→Q (.p (tupS g)) ah):Run gy [.ref 0,.p (.int 1),.p (.int (m:Int))] σ Q E:=by
 refine⟨az.p0 (kT w.start.push (le_trans hk (bl rfl)) h0 (le_trans (by assumption) (bl rfl)) fun j fU hj s w1=>aU.pp add_int (.mk _ rfl (cg (k:=1+j) (by omega)) (by simp only[bL];omega) ⟨?_⟩))⟩;show bU _ none (.one 43) _ (gj 0 ((1:Int)+(j:Int)).toNat) _ _ _ _;refine ER ((by simp+arith [*]):((1:Int)+(j:Int)).toNat=1+j) ?_;refine L5 (n:=m) (1+j) 0 (k+1) [] [] fU (.inl rfl) w1 (by lia) (by rw[length_nil];omega) (by lia) (s.get ba (yp (ne_of_gt w.start.lt))) .nil (fun U h=>(not_mem_nil h).elim) (fun U=>by lia) fun g t σ2 hg w2 g2=>?_;exact dC.mk _ _ (aB g2) (tuple_list (by rw[bc];exact le_trans hg.len (le_trans hm (bl rfl)))) (w.give w2 (by omega) fun bj=>q g bj hg)
theorem rn{α:Type}{nK:α→P}{D:α→Prop}{cost k0:Nat}{elt:CV}{base:ai}{all:Lp}{Q:MQ (Lp)}(hb:∀v x:V,bx (base++[(43,v)]) 43 x=base++[(43,x)])(hb0:∀x:V,bx base 43 x=base++[(43,x)])
  (step:∀(a:Int) k σ (K:MQ V),PW aj k σ→k≤20000→(∀x ah,D x→bC [0] σ ah→PW aj (k+cost) ah→K (.p (nK x)) ah)→elt (base++[(43,.p (.int a))]) σ K E) (n:Nat):
  ∀(a:Int) (k:Nat) (acc:List α) (t:ai) (σ:LM),(t=[]∨∃v,t=[(43,v)])→PW aj k σ→k+n * cost≤20000→acc.length+n≤100→(∀x∈acc,D x)→
  (∀(l:List α) ah,l.length=acc.length+n→(∀x∈l,D x)→bC [0] σ ah→PW aj (k+n * cost) ah→Q (l.map nK) ah)→cQ k0 all none (.one 43) bV elt (gj a n) (base++t) (acc.map nK) σ Q E:=by
 induction n with
 |zero=>exact fun a k acc t σ ht w hk hl ha q=>⟨aA,q acc σ rfl ha (.refl ..) (by refine ER (zero_mul ..) ?_;exact w)⟩
 |succ n ih=>
  intro a k acc t σ ht w hk hl ha q;have e:k+(n+1) * cost=k+cost+n * cost:=ER (Nat.succ_mul ..) (ER (add_comm (n * cost) ..) (ER (add_assoc ..) rfl));rw[e]at hk q;have go:elt (base++[(43,.p (.int a))]) σ (fun v ah=>Fe k0 ah v (acc.map nK).length fun y ah=>cQ k0 all none (.one 43) bV elt (gj (a+1) n) (base++[(43,.p (.int a))]) (acc.map nK++[y]) ah Q E) E:=
   step a k σ _ w (by grind only) fun x fU hx s w1=>.mk _ _ (.one (.p _)) (by rw[length_map];simp only[bL];omega) (by
    have:=ih (a+1) (k+cost) (acc++[x]) [(43,.p (.int a))] fU (.inr ⟨_,rfl⟩) w1 hk (by refine ER length_append (ER length_singleton ?_);omega) (fun y hy=>(mem_append.mp hy).elim (ha y) fun h=>by refine ER (mem_singleton.mp h) ?_;exact hx) fun l σ2 hl' hd s2 w2=>q l σ2 (by refine ER hl' (ER length_append (ER length_singleton ?_));lia) hd (s.trans s2) w2
    rwa [map_append]at this)
  refine .mk aA (base++[(43,.p (.int a))]) ?_ (aT.mk (fun U=>go) fun x=>Bool.noConfusion x);rcases ht with rfl|⟨v,rfl⟩
  ·exact congrArg some ((congrArg (bx · 43 _) (append_nil base)).trans (hb0 _))
  ·exact congrArg some (hb _ _)
end
theorem vy:∀i∈([0,10, -20,32767, -32768,1, -5,300]:List Int),xX i:=by unfold xX;decide+kernel
noncomputable def D5:LR→Ls
 | .chain _ _ ins _=>ins.flatMap (·.2)
 |_=>[]
structure mC (names:Ls) (x:LR):Prop where
 ok:eX x
 len:(bF x).length≤60
 use:∀n∈D5 x,n∈names
structure II (names:Ls) (back:List (Ls)) (ins:List (Ls×Ls)) (ahead:List (Ls)):Prop where
 sb:∀g∈back,AD 2 g
 si:∀x∈ins,AD 2 x.1∧x.2.length≤2∧∀n∈x.2,n∈names
 sa:∀g∈ahead,AD 2 g
 nb:back.length≤2
 ni:ins.length≤2
 ne:ins≠[]
 na:ahead.length≤1
theorem vz{α β:Type}{f:α→List β}{c:Nat}:∀(l:List α),(∀x∈l,(f x).length≤c)→(l.flatMap f).length≤l.length * c:=by
 intro rv;induction rv with
 |nil=>exact fun o=>zero_le _
 |cons x l ih=>
  intro h;have a:=h x (.head _);have b:=ih fun y hy=>h y (.tail _ hy);refine ER (flatMap_cons ..) (ER (length_append ..) (ER (length_cons ..) (ER (Nat.succ_mul ..) ?_)));omega
theorem AD.tk{n:Nat}{g:Ls}(h:AD n g):(cJ g).length≤n+2:=by
 have:=h.len
 unfold cJ;refine iT (fun _=>?_) fun _=>?_
 ·rw[dT];simp+arith [*]
 ·simp[dT];omega
theorem II.row{names:Ls}{p:Bool}{back:List (Ls)}{ins:List (Ls×Ls)}{ahead:List (Ls)}(h:II names back ins ahead)(hn:∀n∈names,o7 n=true):mC names (.chain p back ins ahead) where
 ok:=⟨fun g hg=>(h.sb g hg).ok,fun x hx=>⟨(h.si x hx).1.ok,fun n hm=>hn n ((h.si x hx).2.2 n hm)⟩,fun g hg=>(h.sa g hg).ok,h.ne⟩
 len:=by
  have e:∀{l:List (Ls)},(∀g∈l,AD 2 g)→(bT (l.map fun g=>((g,none):IT))).length≤l.length * 4:=fun {l} h=>by
   have:=vz (f:=Cn) (c:=4) (l.map fun g=>((g,none):IT)) fun x hx=>by
    obtain⟨g,hg,rfl⟩:=mem_map.mp hx;show(cJ g++[]).length≤4;refine ER (append_nil ..) ?_;exact(h g hg).tk
   rwa [length_map]at this
  have i:=vz (f:=Cn) (c:=9) (ins.map fun x=>((x.1,some x.2):IT)) fun x hx=>by
   obtain⟨y,hy,rfl⟩:=mem_map.mp hx;have a:=(h.si y hy).1.tk;have b:=(h.si y hy).2.1;show(cJ y.1++ .sg .q::pj y.2).length≤9;refine ER (length_append ..) (ER (length_cons ..) (ER (yO ..) ?_));lia
  rw[length_map]at i;have a:=e h.sb;have c:=e h.sa;have:=h.nb;have:=h.ni;have:=h.na;show((bT (fH back ins ahead))++([]++[Tk.sg .semi])).length+1≤60;unfold fH;refine ER (qz ..) (ER (qz ..) (ER (length_append ..) (ER (length_append ..) (ER (length_append ..) ?_))));show _+(_+_)+1+1≤60;unfold bT at *;lia
 use:=fun n hn=>by
  obtain⟨x,hx,hm⟩:=mem_flatMap.mp hn;exact(h.si x hx).2.2 n hm
theorem L6:∀(a b:List (Ls×Ls)) (k:Nat),ff k (a++b)=ff k a++ff (k+a.length) b:=by
 intro rv;induction rv with
 |nil=>exact fun b k=>rfl
 |cons x a ih=>
  intro b k;show _++ff (k+1) (a++b)=(_++ff (k+1) a)++_;refine ER (ih b (k+1) ..) (ER (append_assoc ..) (ER (add_assoc k 1 ..) (ER (add_comm 1 ..) ?_)));rfl
theorem GW:∀(pre:List (Ls×Ls)) (j:Nat),(∀x∈pre,x.2.length≤2)→(ff j pre).length≤2 * pre.length:=by
 intro rv;induction rv with
 |nil=>exact fun o o=>le_refl _
 |cons x pre ih=>
  intro j h;have a:=h x (.head _);have b:=ih (j+1) fun y hy=>h y (.tail _ hy);show(_++ff (j+1) pre).length≤2 * (pre.length+1);refine ER (length_append ..) (ER (length_map ..) ?_);lia
section
variable {σ ah aj:LM}{k m n:Nat}{E:ME}{Q:MQ V}
theorem JY(w:PW aj k σ)(hk:k≤10000)(q:∀x ah,xY x→bC [0] σ ah→PW aj (k+8) ah→Q (.p (.tup (eW x.l))) ah):Run lS [.ref 0] σ Q E:=by
 refine⟨kT (m:=2) w.start (le_trans (by assumption) (bl rfl)) (by decide) (by decide) fun j fU hj s w1=>aF.pp eq_int (aT.mk (fun U=>?_) fun U=>?_)⟩
 ·refine az.p5 (vv (m:=5) w1 (le_trans (add_le_add_right (by assumption) _) (bl rfl)) (bl rfl) (by decide) rfl fun x σ2 hx s w2=>?_);obtain⟨i,hi,rfl⟩:=mem_map.mp (show x∈([0,10, -20,32767, -32768]:List Int).map P.int from hx);have oi:xX i:=vy i (mem_append_left [1, -5,300] hi);exact az.p4 (w.give w2 (IG k (b:=2) rfl) fun bj=>q ⟨0,0,i,0⟩ bj fun z hz=>by
   have o0:=vy 0 (.head _)
   simp only[yq.l,mem_cons,not_mem_nil,or_false]at hz;rcases hz with rfl|rfl|rfl|rfl<;>assumption)
 ·refine Hr.mk _ rfl rfl (bl rfl) ⟨rn (nK:=P.int) (D:=xX) (cost:=1) (base:=[(53,.ref 0)]) (fun U U=>rfl) (fun U=>rfl) (fun a k σ K w hk st=>?_) 4 0 _ [] [] fU (.inl rfl) w1 (le_trans (add_le_add_right (add_le_add_right (by assumption) _) _) (bl rfl)) (bl rfl) (fun U h=>(not_mem_nil h).elim) fun l σ2 hl hd s2 w2=>?_⟩
  ·refine az.p4 (vv (m:=4) w (le_trans (by assumption) (bl rfl)) (bl rfl) (by decide) rfl fun x σ2 hx s w2=>?_);obtain⟨i,hi,rfl⟩:=mem_map.mp (show x∈([0,1, -5,300]:List Int).map P.int from hx);exact st i σ2 (vy i ((by decide:∀i∈([0,1, -5,300]:List Int),i∈([0,10, -20,32767, -32768,1, -5,300]:List Int)) i hi)) s w2
  ·match l,hl with
   |[a,b,c,d],_=>exact dC.pp (tuple_list (bl rfl)) (w.give w2 (IG k (b:=5) rfl) fun bj=>q ⟨a,b,c,d⟩ bj hd)
theorem D6{k0:Nat}{all:Lp}{names:Ls}{Q:MQ Out}{v1 v2 v3 v4:V}{j:Nat}(hn:0<names.length∧names.length≤10)(dF:σ.length≤n)(c:Nat):∀(a:Int) (k:Nat) (acc:Lp) (t:ai) (ah:LM),(t=[]∨∃v,t=[(48,v)])→PW σ k ah→k+c≤100000→acc.length+c≤1000→ah[n]?=some (.list acc)→
  (∀(ns:Ls) t bj,(t=[]∨∃v,t=[(48,v)])→ns.length=c→(∀x∈ns,x∈names)→PW σ (k+c) bj→bj[n]?=some (.list (acc++(ns.map fun n=>((j:Int),n)).map lj))→Q (.next ((53,.ref 0)::(13,.p (.list (aq names)))::(17,v1)::(46,v2)::(62,v3)::(63,v4)::(44,.ref n)::(43,.p (.int (j:Int)))::t)) bj)→
  bU all none (.one 48) (iM k0) (gj a c) ((53,.ref 0)::(13,.p (.list (aq names)))::(17,v1)::(46,v2)::(62,v3)::(63,v4)::(44,.ref n)::(43,.p (.int (j:Int)))::t) ah Q E:=by
 induction c with
 |zero=>exact fun a k acc t ah ht w hk hl g q=>⟨aA,q [] t ah ht rfl (fun U h=>(not_mem_nil h).elim) w (by refine ER g ?_;simp)⟩
 |succ c ih=>
  intro a k acc t ah ht w hk hl g q;have go:iM k0 [(53,.ref 0),(13,.p (.list (aq names))),(17,v1),(46,v2),(62,v3),(63,v4),(44,.ref n),(43,.p (.int (j:Int))),(48,.p (.int a))] ah (cB (bU all none (.one 48) (iM k0) (gj (a+1) c)) Q E) E:=by
   refine⟨.append _ (aB g),dC.pp (len_list ((by rw[bc];exact le_trans hn.2 (bl rfl)):(aq names).length≤bL)) (vv (k:=k) w (by omega) (by rw[bc];lia) (by rw[bc];exact hn.1) rfl fun x fU hx s w1=>?_)⟩;obtain⟨nm,hm,rfl⟩:=mem_map.mp hx;have g1:=w.keep s dF g;exact az.p2 (.append _ _ _ rfl rfl g1 (by simp only[bL];lia) (ih (a+1) (k+1) (acc++[lj ((j:Int),nm)]) [(48,_)] _ (.inr ⟨_,rfl⟩) (w1.set dF) (by omega) (by refine ER length_append (ER length_singleton ?_);grind only) (fE g1) fun ns t σ2 ht hl hs w2 g2=>
    q (nm::ns) t σ2 ht (congrArg (· +1) hl) (fun y hy=>(mem_cons.mp hy).elim (fun e=>e▸hm) (hs y)) ((add_right_comm k 1 c:k+1+c=k+c+1)▸w2) (by refine ER (g2 ..) (ER (append_assoc ..) ?_);rfl)))
  rcases ht with rfl|⟨v,rfl⟩<;>exact .mk aA _ rfl go
end
section
variable {σ ah aj:LM}{k m n:Nat}{E:ME}{Q:MQ V}
theorem Bs{k0:Nat}{all:Lp}{names:Ls}{Q:MQ Out}{v1 v2 v3 v4:V}(hn:0<names.length∧names.length≤10)(dF:σ.length≤n)(bX:List (Ls)):∀(pre:List (Ls×Ls)) (k:Nat) (t:ai) (ah:LM),(t=[]∨(∃v,t=[(43,v)])∨∃u v,t=[(43,u),(48,v)])→PW σ k ah→k+bX.length * 3≤10000→pre.length+bX.length≤2→ah[n]?=some (.list ((ff 0 pre).map lj))→(∀x∈pre,x.2.length≤2∧∀n∈x.2,n∈names)→
  (∀(ins:List (Ls×Ls)) t bj,ins.map (·.1)=pre.map (·.1)++bX→(∀x∈ins,x.2.length≤2∧∀n∈x.2,n∈names)→PW σ (k+bX.length * 3) bj→bj[n]?=some (.list ((ff 0 ins).map lj))→Q (.next ((53,.ref 0)::(13,.p (.list (aq names)))::(17,v1)::(46,v2)::(62,v3)::(63,v4)::(44,.ref n)::t)) bj)→
  bU all none (.one 43) (iN k0) (gj pre.length bX.length) ((53,.ref 0)::(13,.p (.list (aq names)))::(17,v1)::(46,v2)::(62,v3)::(63,v4)::(44,.ref n)::t) ah Q E:=by
 induction bX with
 |nil=>exact fun pre k t ah ht w hk hl g ok q=>⟨aA,q pre t ah (ER (append_nil ..) rfl) ok (by refine ER (length_nil ..) (ER (zero_mul ..) ?_);exact w) g⟩
 |cons s bX ih=>
  intro pre k t ah ht w hk hl g ok q;rw[length_cons]at hk hl;rw[((by refine ER length_cons ?_;lia):(s::bX).length * 3=3+bX.length * 3)]at q;have go:∀t,(t=[]∨∃v,t=[(48,v)])→iN k0 ((53,.ref 0)::(13,.p (.list (aq names)))::(17,v1)::(46,v2)::(62,v3)::(63,v4)::(44,.ref n)::(43,.p (.int (pre.length:Int)))::t) ah (cB (bU all none (.one 43) (iN k0) (gj ((pre.length:Int)+1) bX.length)) Q E) E:=fun t ht=>
   kT (m:=3) w (by lia) (by decide) (by decide) fun c fU hc sm w1=>Hr.mk _ rfl (cg (by omega)) (by simp only[bL];omega) ⟨by
    have g1:=w.keep sm dF g
    have cS:=GW pre 0 fun x hx=>(ok x hx).1
    refine D6 (j:=pre.length) hn dF c 0 (k+1) _ t fU ht w1 (by lia) (by refine ER (length_map ..) ?_;lia) g1 fun ns t' σ2 ht' hl' hs w2 g2=>?_;have:=ih (pre++[(s,ns)]) (k+3) ((43,.p (.int (pre.length:Int)))::t') σ2 (.inr (ht'.imp (fun e=>⟨_,by exact ER e rfl⟩) fun hh=>hh.casesOn fun v e=>⟨_,v,ER e rfl⟩)) (w2.le (by omega)) (by grind only) (by refine ER length_append (ER length_singleton ?_);omega) (by
     refine ER (g2 ..) (ER (L6 ..) (ER (zero_add ..) (ER (map_append ..) ?_)));show _=some (MO.list (_++((ns.map fun n=>((pre.length:Int),n))++[]).map lj));exact ER (append_nil ..) rfl) (fun x hx=>(mem_append.mp hx).elim (ok x) fun h=>by refine ER (mem_singleton.mp h) ?_;exact⟨by show ns.length≤2;omega,hs⟩) fun ins t'' σ3 hi nP w3 g3=>q ins t'' σ3 (by refine ER (hi ..) (ER (map_append ..) (ER (append_assoc ..) ?_));rfl) nP ((add_assoc k 3 _)▸w3) g3
    rw[length_append]at this;exact this⟩
  rcases ht with rfl|⟨v,rfl⟩|⟨u,v,rfl⟩
  ·exact .mk aA _ rfl (go [] (.inl rfl))
  ·exact .mk aA _ rfl (go [] (.inl rfl))
  ·exact .mk aA _ rfl (go [(48,v)] (.inr ⟨_,rfl⟩))
theorem wN{all:Lp}{k0:Nat}{Q:MQ (Lp)}(dF:PW σ k ah)(c:Nat)(hc:c≤10)(hk:k≤10000)(q:∀(l:List (Ls)) bj,l.length=c→(∀g∈l,AD 2 g)→bC [0] ah bj→PW σ (k+c * 4) bj→Q (l.map tupS) bj):
  cQ k0 all none (.one 43) bV (ay gy [aa 53,cP (.int 1),cP (.int 2)]) (gj 0 c) [(53,.ref 0)] [] ah Q E:=
 rn (nK:=tupS) (D:=AD 2) (cost:=4) (base:=[(53,.ref 0)]) (fun U U=>rfl) (fun U=>rfl) (fun a k σ K w hk st=>TA (m:=2) w (by lia) (by decide) (by decide) st) c 0 k [] [] ah (.inl rfl) dF (by grind only) (by rw[length_nil];omega) (fun U h=>(not_mem_nil h).elim) fun l bj hl hd s w=>q l bj (ER (hl ..) (ER (length_nil ..) (ER (zero_add ..) rfl))) hd s w
theorem AE{l:List (Ls)}(h:l.length≤10):nQ .tuple (.list (l.map tupS)) (.tup (l.map tupS)):=tuple_list (by rw[length_map];exact le_trans h (bl rfl))
theorem Sd{names:Ls}(hn:0<names.length∧names.length≤10)(JZ:∀n∈names,o7 n=true)(w:PW aj k σ)(hk:k≤5000)(q:∀x ah,mC names x→kindS x= "chain" →bC [0] σ ah→PW aj (k+64) ah→Q (.p (fG (bw x))) ah):Run pU [.ref 0,.p (.list (aq names))] σ Q E:=by
 refine⟨az.p2 (vv (m:=2) w.start (le_trans (by assumption) (bl rfl)) (bl rfl) (by decide) rfl fun x fU hx s1 w1=>?_)⟩;obtain⟨p,rfl⟩:∃p,x= .str (kR p).str:=by
  rcases mem_cons.mp hx with h|h
  ·exact⟨false,h⟩
  ·exact⟨true,mem_singleton.mp h⟩
 refine kT (m:=3) w1 (le_trans (add_le_add_right (by assumption) _) (bl rfl)) (by decide) (by decide) fun c2 σ2 h2 s2 w2=>Hr.mk _ rfl (cg (by omega)) (by simp only[bL];omega) ⟨wN w2 c2 (by omega) (le_trans (add_le_add_right (add_le_add_right (by assumption) _) _) (bl rfl)) fun back σ3 lb db s3 w3=>dC.pp (AE (by omega)) ?_⟩;refine kT (m:=2) w3 (by grind only) (by decide) (by decide) fun c4 σ4 h4 s4 w4=>aU.pp add_int (Hr.mk _ rfl (cg (k:=1+c4) (by grind only)) (by simp only[bL];omega) ⟨?_⟩);have e4:((1:Int)+(c4:Int)).toNat=1+c4:=by simp+arith [*]
 show cQ _ (gj 0 ((1:Int)+(c4:Int)).toNat) none (.one 43) bV _ (gj 0 ((1:Int)+(c4:Int)).toNat) _ _ _ _ _;refine ER e4 ?_;refine wN w4 (1+c4) (by omega) (by grind only) fun inside EN li di s5 w5=>dC.pp (AE (by grind only)) ?_;refine kT (m:=2) w5 (by lia) (by decide) (by decide) fun c6 σ6 h6 s6 w6=>Hr.mk _ rfl (cg (by omega)) (by simp only[bL];grind only) ⟨wN w6 c6 (by omega) (by lia) fun ahead σ7 la da s7 w7=>dC.pp (AE (by omega)) ?_⟩;have lim:(inside.map tupS).length≤bL:=by refine ER (length_map ..) (ER (li ..) ?_);simp only[bL];lia
 refine az.p0 (dC.pp (jL lim) (Hr.mk _ rfl (by refine ER (length_map ..) (ER (li ..) ?_);exact cg (by lia)) lim ⟨?_⟩));show bU (gj 0 (((inside.map tupS).length:Nat):Int).toNat) none (.one 43) _ (gj 0 (((inside.map tupS).length:Nat):Int).toNat) _ _ _ _;refine ER ((by rw[length_map];lia):(((inside.map tupS).length:Nat):Int).toNat=inside.length) ?_;refine Bs (σ:=σ) hn w7.ext.1 inside [] _ [] _ (.inl rfl) w7.push (by lia) (by refine ER length_nil ?_;grind only) ba (fun U h=>(not_mem_nil h).elim) fun ins t σ8 hi nP w8 g8=>?_;have hi:ins.map (·.1)=inside:=hi;have hl:ins.length=1+c4:=EL (li ..) (EL (hi ..) (ER (length_map ..) rfl));have d:II names back ins ahead:=⟨db,fun x hx=>⟨di _ (hi▸mem_map_of_mem hx),nP x hx⟩,da,by omega,by lia,fun e=>by rw[e]at hl;simp at hl;lia,by omega⟩;have cS:=GW ins 0 fun x hx=>(nP x hx).1;have et:fG (bw (.chain p back ins ahead))= .tup [.str "chain",.tup [.str (kR p).str,.tup (back.map tupS),.tup (inside.map tupS),.tup (ahead.map tupS),.tup ((ff 0 ins).map lj)]]:=by refine EL hi (ER map_map ?_);rfl
 have q':=q (.chain p back ins ahead);rw[et]at q';exact dC.mk _ _ (aB g8) (tuple_list (by rw[length_map];simp only[bL];lia)) (az.p5 (az.mk _ _ (.cons (.p _) (.cons (.p _) .nil)) (bl rfl)
  (w.give w8 (by lia) fun bj=>q' bj (d.row JZ) rfl)))
end
noncomputable def kinds:Ls:=["single","multiple","alternate","ligature","adjust","pair","chain","chain"]
theorem L7:(∀k∈(["multiple","alternate","ligature","adjust","pair"]:Ls),k≠ "single")∧(∀k∈(["alternate","ligature","adjust","pair"]:Ls),k≠ "multiple")∧(∀k∈(["ligature","adjust","pair"]:Ls),k≠ "alternate")∧(∀k∈(["adjust","pair"]:Ls),k≠ "ligature")∧("pair" :Str)≠ "adjust" :=by decide+kernel
section
variable {σ ah aj:LM}{k m n:Nat}{E:ME}{Q:MQ V}
theorem x7{all:Lp}{k0:Nat}{Q:MQ (Lp)}(dF:PW σ k ah)(c:Nat)(hc:c≤10)(hk:k≤10000)(q:∀(l:Ls) bj,l.length=c→(∀g∈l,g∈G7)→bC [0] ah bj→PW σ (k+c * 1) bj→Q (aq l) bj):
  cQ k0 all none (.one 43) bV (ay c5 [aa 53]) (gj 0 c) [(53,.ref 0)] [] ah Q E:=
 rn (nK:=P.str) (D:=(· ∈G7)) (cost:=1) (base:=[(53,.ref 0)]) (fun U U=>rfl) (fun U=>rfl) (fun a k σ K w hk st=>om w (le_trans (by assumption) (bl rfl)) st) c 0 k [] [] ah (.inl rfl) dF (by lia) (by rw[length_nil];omega) (fun U h=>(not_mem_nil h).elim) fun l bj hl hd s w=>q l bj (ER (hl ..) (ER (length_nil ..) (ER (zero_add ..) rfl))) hd s w
theorem AF{l:Ls}(h:l.length≤10):nQ .tuple (.list (aq l)) (.tup (aq l)):=tuple_list (by rw[bc];exact le_trans h (bl rfl))
theorem GX(w:yq):(cK w).length≤6:=by unfold cK;refine iT (fun _=>?_) fun _=>?_<;>exact bl rfl
theorem Pp(l:Ls):(iI l).length≤l.length+1:=by
 unfold iI;refine iT (fun _=>?_) fun _=>?_
 ·exact succ_pos _
 ·rw[dT];exact le_succ _
theorem mC.mk'{names:Ls}{x:LR}(h:eX x)(hc:cY x=false)(hl:(i8 x++jF x).length≤50):mC names x:=⟨h,by
  show(i8 x++(jF x++[Tk.sg .semi])).length+1≤60;refine EL (append_assoc ..) (ER (length_append ..) ?_);exact le_trans (add_le_add_right hl 2) (bl rfl),fun n hn=>by induction x<;>first|(cases hn;done)|cases hc⟩
theorem L8{kd:Str}(h:kd∈kinds)(h0:decide (kd= "chain")=false)(h1:decide (kd= "single")=false)(h2:decide (kd= "multiple")=false)(h3:decide (kd= "alternate")=false)(h4:decide (kd= "ligature")=false)(h5:decide (kd= "adjust")=false):kd= "pair" :=by
 simp only[kinds,mem_cons,not_mem_nil,or_false]at h;have n:=fun {a:Str}=>of_decide_eq_false (p:=kd=a);exact h.elim (absurd · (n h1)) fun h=>h.elim (absurd · (n h2)) fun h=>h.elim (absurd · (n h3)) fun h=>h.elim (absurd · (n h4)) fun h=>h.elim (absurd · (n h5)) fun h=>h.elim id fun h=>h.elim (absurd · (n h0)) (absurd · (n h0))
theorem Xx{names:Ls}{kd:Str}(hn:0<names.length∧names.length≤10)(JZ:∀n∈names,o7 n=true)(Hs:kd∈kinds)(w:PW aj k σ)(hk:k≤4000)(q:∀x ah,mC names x→kindS x=kd→bC [0] σ ah→PW aj (k+64) ah→Q (.p (fG (bw x))) ah):Run wu [.ref 0,.p (.str kd),.p (.list (aq names))] σ Q E:=by
 have give:∀{x fU k'} {le:ai},kd=kindS x→mC names x→PW σ k' fU→k'≤k+64→cz σ.length fU (.ret (.p (.tup [.str kd,wG x]))) Q:=fun {x fU k' le} e d w1 h=>by
  have:=q x
  rw[show fG (bw x)= .tup [.str kd,wG x] from e▸rfl]at this;exact w.give w1 h fun bj=>this bj d e.symm
 have two:∀{x:LR} {a b:P} {fU k'},decide (kd=kindS x)=true→mC names x→wG x= .tup [a,b]→PW σ k' fU→k'≤k+64→az σ.length fU [.p a,.p b] fun xs ah=>az σ.length ah [.p (.str kd),.p (.tup xs)] fun ys ah=>cz σ.length ah (.ret (.p (.tup ys))) Q:=fun {x a b fU k'} e d ep w1 h=>
  az.p2 (az.p2 (ep▸give (le:=[]) (of_decide_eq_true e) d w1 h))
 refine⟨aF.pp (b7 _ _) (aT.mk (fun e=>Sd hn JZ w.start (le_trans hk (bl rfl):k≤5000) fun x fU h1 h2 s w1=>w.give w1 (le_refl _) fun bj=>q x bj h1 (h2.trans (of_decide_eq_true e).symm)) fun e0=>om w.start (by omega) fun a fU ha s1 w1=>?_)⟩;refine aF.pp (b7 _ _) (aT.mk (fun e=>om w1 (by omega) fun b σ2 hb U w2=>two (x:=.single a b) e (mC.mk' ⟨ha,hb⟩ rfl (bl rfl)) rfl w2 (IG k (b:=2) rfl)) fun e1=>
  aF.pp (b7 _ _) (aT.mk (fun e=>az.p3 (vv (m:=3) w1 (by omega) (bl rfl) (by decide) rfl fun y σ2 hy U w2=>?_)) fun e2=>
  aF.pp (b7 _ _) (aT.mk (fun e=>TA (m:=3) w1 (by omega) (by decide) (by decide) fun g σ2 hg U w2=>two (x:=.b6 a g) e (mC.mk' ⟨ha,hg.ok⟩ rfl (by have:=hg.len;show(ee [a]++Tk.kw .eV::Tk.sg .lb::(ee g++[Tk.sg .rb])).length≤50;simp[dT];lia)) rfl w2 (by simp+arith [*])) fun e3=>
  aF.pp (b7 _ _) (aT.mk (fun e=>kT (m:=2) w1 (by omega) (by decide) (by decide) fun c σ2 hc U w2=>aU.pp add_int (Hr.mk _ rfl (cg (k:=1+c) (by omega)) (by simp only[bL];omega) ⟨?_⟩)) fun e4=>
  aF.pp (b7 _ _) (aT.mk (fun e=>JY w1 (by omega) fun v σ2 hv U w2=>two (x:=.ia a v) e (mC.mk' ⟨ha,hv⟩ rfl (le_trans (by show(ee [a]++cK v).length≤1+6;refine ER (length_append ..) (ER (dT ..) ?_);exact add_le_add_left (GX v) 1) (bl rfl))) rfl w2 (by omega)) fun e5=>
  om w1 (by omega) fun b σ2 hb U w2=>JY w2 (by omega) fun v σ3 hv U w3=>az.p3 (az.mk _ _ (.cons (.p _) (.cons (.p _) .nil)) (bl rfl)
   (give (x:=.pair a b v) (le:=[]) (L8 Hs e0 e1 e2 e3 e4 e5) (mC.mk' ⟨ha,hb,hv⟩ rfl (le_trans (by show(ee [a,b]++cK v).length≤2+6;refine ER (length_append ..) (ER (dT ..) ?_);exact add_le_add_left (GX v) 2) (bl rfl))) w3 (by simp+arith [*]))))))))
 ·obtain⟨c,hc,rfl⟩:∃c:Nat,(c=0∨c=2∨c=3)∧y= .int c:=by
   simp only[mem_cons,not_mem_nil,or_false]at hy;rcases hy with rfl|rfl|rfl
   ·exact⟨0,.inl rfl,rfl⟩
   ·exact⟨2,.inr (.inl rfl),rfl⟩
   ·exact⟨3,.inr (.inr rfl),rfl⟩
  have c3:c≤3∧c≠1:=by omega
  clear hc hy;exact Hr.mk _ rfl (cg (by omega)) (by simp only[bL];omega) ⟨x7 w2 c (by omega) (by omega) fun l σ3 hl hg U w3=>dC.pp (AF (by omega)) (two (x:=.du a l) e (mC.mk' ⟨ha,hg,by omega⟩ rfl (by have:=Pp l;show(ee [a]++Tk.kw .Ca::iI l).length≤50;rw[length_append,length_cons,dT,length_singleton];omega)) rfl w3 (by omega))⟩
 ·have ec:((1:Int)+(c:Int)).toNat=1+c:=by simp+arith [*]
  show cQ _ (gj 0 ((1:Int)+(c:Int)).toNat) none (.one 43) bV _ (gj 0 ((1:Int)+(c:Int)).toNat) _ _ _ _ _;refine ER ec ?_;refine x7 w2 (1+c) (by omega) (by omega) fun l σ3 hl hg U w3=>dC.pp (AF (by grind only)) (az.p1 ?_);cases l with
  |nil=>rw[length_nil]at hl;omega
  |cons b l=>
   have hl:l.length=c:=by rw[length_cons]at hl;lia
   exact aU.pp (yJ (by simp[aq];simp only[bL];omega)) (om w3 (by lia) fun z σ4 hz U w4=>two (x:=.dK (a::b::l) z) e (mC.mk' ⟨fun v hv=>(mem_cons.mp hv).elim (fun e=>e▸ha) (hg v),Nat.le_add_left 2 _,hz⟩ rfl (by show(ee (a::b::l)++[Tk.kw .Ca,Tk.nm z]).length≤50;refine ER (length_append ..) (ER (dT ..) ?_);simp;omega)) rfl w4 (by rw[length_cons]at *;omega))
end
def Xy:P→P
 | .tup [.str k,p]=>cI (k,p)
 |_=>.none
theorem rq(x:LR):xT (bw x)=(d7 x).str:=by induction x<;>rfl
theorem eX.wf{x:LR}(h:eX x):g9 (bw x):=(Ik (DV h [])).1
theorem GY:∀(rows:List LR) (acc:List (Str×P)) (x:LR),my acc rows→cj (acc++rows.map bw) (bw x)=true→my acc (rows++[x]):=by
 intro rv;induction rv with
 |nil=>exact fun acc x o h=>⟨by rwa [map_nil,append_nil]at h,trivial⟩
 |cons y rows ih=>exact fun acc x h1 h=>⟨h1.1,ih (acc++[bw y]) x h1.2 (by refine ER (append_assoc ..) ?_;exact h)⟩
theorem GZ{x:LR}{rows:List LR}(h:∀y∈rows,kindS y=kindS x∧d7 y=d7 x):nk (bw x) (rows.map bw)=true:=by
 induction rows with
 |nil=>rfl
 |cons y rows=>
  obtain⟨h1,h2⟩:=h y (.head _);refine ER (map_cons ..) (ER (nq ..) (ER (rq ..) (ER (rq ..) (ER (h2 ..) (ER (decide_eq_true rfl ..) (ER (Bool.and_true ..) ?_))))));exact decide_eq_true h1.symm
theorem dz{x:LR}:cY x=decide (kindS x= "chain"):=by
 obtain⟨nc,_⟩:=AB;induction x with
 |chain=>exact(decide_eq_true rfl).symm
 |single=>exact(decide_eq_false (nc _ (.head _))).symm
 |du=>exact(decide_eq_false (nc _ (.tail _ (.head _)))).symm
 |dK=>exact(decide_eq_false (nc _ (.tail _ (.tail _ (.head _))))).symm
 |b6=>exact(decide_eq_false (nc _ (.tail _ (.tail _ (.tail _ (.head _)))))).symm
 |ia=>exact(decide_eq_false (nc _ (.tail _ (.tail _ (.tail _ (.tail _ (.head _))))))).symm
 |pair=>exact(decide_eq_false (nc _ (.tail _ (.tail _ (.tail _ (.tail _ (.tail _ (.head _)))))))).symm
theorem Pq{x y:LR}(h:kindS x=kindS y)(hc:cY x=false):d7 x=d7 y:=by
 obtain⟨nc,na,np,_⟩:=AB;have key:∀z:LR,cY z=false→d7 z=if kindS z= "adjust" ∨kindS z= "pair" then .pos else .sub:=fun z hz=>by
  induction z with
  |chain=>contradiction
  |ia=>exact(if_pos (.inl rfl)).symm
  |pair=>exact(if_pos (.inr rfl)).symm
  |single=>exact(if_neg (fun e=>e.elim (na _ (.head _)) (np _ (.head _)))).symm
  |du=>exact(if_neg (fun e=>e.elim (na _ (.tail _ (.head _))) (np _ (.tail _ (.head _))))).symm
  |dK=>exact(if_neg (fun e=>e.elim (na _ (.tail _ (.tail _ (.head _)))) (np _ (.tail _ (.tail _ (.head _)))))).symm
  |b6=>exact(if_neg (fun e=>e.elim (na _ (.tail _ (.tail _ (.tail _ (.head _))))) (np _ (.tail _ (.tail _ (.tail _ (.head _))))))).symm
 exact ER (key x hc) (ER (key y ((by refine ER dz (EL h (EL dz ?_));exact hc):cY y=false)) (ER h rfl))
structure G0 (names:Ls) (l:LL):Prop where
 flag:n8 l.flag
 ne:l.rows≠[]
 cS:l.rows.length≤2
 row:∀x∈l.rows,mC names x
 R4:my [] l.rows
structure vA (names:Ls) (kd:Str) (rows:List LR):Prop where
 row:∀x∈rows,mC names x∧kindS x=kd
 R4:my [] rows
 kw:∀y∈rows,∀z∈rows,d7 y=d7 z
theorem vA.snoc{names:Ls}{kd:Str}{rows:List LR}{x:LR}(h:vA names kd rows)(hx:mC names x∧kindS x=kd)(hk:∀y∈rows,d7 y=d7 x)(hl:cY x=true∨vV (rows.map fun y=>cI (bw y)) (cI (bw x))=false):vA names kd (rows++[x]) where
 row:=fun y hy=>(mem_append.mp hy).elim (h.row y) fun e=>by refine ER (mem_singleton.mp e) ?_;exact hx
 R4:=GY rows [] x h.R4 (by
  unfold cj;refine ER (nil_append ..) (ER (GZ fun y hy=>⟨(h.row y hy).2.trans hx.2.symm,hk y hy⟩ ..) (ER (map_map ..) ?_));rcases hl with e|e
  ·refine ER (show(bw x).1=kindS x from rfl) (EL dz (ER e ?_));rfl
  ·refine ER (show vV (rows.map (cI ∘ bw)) (cI (bw x))=false from e ..) (ER (Bool.not_false ..) (ER (Bool.or_true ..) ?_));rfl)
 kw:=fun y hy z hz=>by
  have k:∀{y},y∈rows++[x]→d7 y=d7 x:=fun hy=>(mem_append.mp hy).elim (hk _) fun e=>by rw[mem_singleton.mp e]
  exact ER (k hy) (ER (k hz) rfl)
section
variable {σ ah aj:LM}{k m n:Nat}{E:ME}{Q:MQ V}
theorem vB{a b:P}:b8 (.tup [a,b]) 0 a:=aO (k:=0) rfl (zero_le _)
theorem AG{a b:P}:b8 (.tup [a,b]) 1 b:=aO (k:=1) rfl (by decide)
theorem wO{x:LR}(h:eX x)(q:Q (.p (cI (bw x))) σ):Run iA [.p (fG (bw x))] σ Q E:=by
 have wf:=h.wf
 generalize bw x=y at q wf;induction wf with
 |chain=>exact⟨aW.pp vB (aF.pp (tQ _) (aT.mk (fun U=>dc q) fun e=>nomatch e))⟩
 |@plain k a l hk hl=>
  have cut:∀m:Nat,jW (.tup (a::l)) none (some (m:Int)) (.tup ((a::l).take m)):=fun m=>Ie (le_trans (succ_le_succ hl) (bl rfl));unfold cI at q;rw[if_neg hk]at q;refine⟨aW.pp vB (aF.pp (i9 hk) (aT.mk (fun e=>Bool.noConfusion e) fun U=>aW.pp vB (aF.pp (b7 _ _) (aT.mk (fun e=>aW.pp AG (jK.mk _ _ _ _ rfl rfl rfl (cut 2) (dc ?_))) fun e=>aW.pp AG (jK.mk _ _ _ _ rfl rfl rfl (cut 1) (dc ?_))))))⟩
  ·rw[show(k,P.tup (a::l)).1=k from rfl,if_pos (of_decide_eq_true e)]at q;exact q
  ·rw[show(k,P.tup (a::l)).1=k from rfl,if_neg (of_decide_eq_false e)]at q;exact q
theorem Ma{x:LR}(h:cY x=true):cI (bw x)= .none:=if_pos (of_decide_eq_true (dz.symm.trans h))
theorem Pu{x:LR}(h:eX x)(hc:cY x=false):∃l,cI (bw x)= .tup l:=by
 have wf:=h.wf
 have hk:(bw x).1≠ "chain" :=of_decide_eq_false (dz.symm.trans hc);generalize bw x=y at wf hk;induction wf with
 |chain=>exact absurd rfl hk
 |plain=>exact⟨_,if_neg hk⟩
theorem AH{rows:List LR}(hl:rows.length≤100):(rows.map fun x=>fG (bw x)).length≤bL:=by rw[length_map];exact le_trans hl (bl rfl)
theorem Mb{names:Ls}{kd:Str}{rows:List LR}{k0:Nat}{Q:MQ (Lp)}(h:vA names kd rows)(hl:rows.length≤100)(g:σ[n]?=some (.list (rows.map fun x=>fG (bw x))))(q:Q (rows.map fun y=>cI (bw y)) σ):
  cQ k0 (rows.map fun x=>fG (bw x)) (some n) (.one 26) bV (ay iA [aa 26]) (rows.map fun x=>fG (bw x)) [] [] σ Q E:=by
 refine comp_map (g:=fun U=>true) (f:=Xy) (base:=[]) (fun U U=>rfl) (fun U=>rfl) (fun m e=>by obtain rfl:=Option.some.inj e;exact g) _ [] [] (.inl rfl) (by simpa using AH hl) (fun U U U q=>q) (fun z hz U K q=>?_) ?_
 ·obtain⟨x,hx,rfl⟩:=mem_map.mp hz;exact wO (h.row x hx).1.ok q
 ·refine ER (nil_append ..) (ER (filter_eq_self.mpr fun U U=>rfl ..) (ER (map_map ..) ?_));exact q
theorem G1{names:Ls}{kd:Str}{rows:List LR}(h:vA names kd rows):lA (rows.map fun y=>cI (bw y))=true:=by
 have:=Ai (rows:=rows.map bw) fun y hy=>by obtain⟨x,hx,rfl⟩:=mem_map.mp hy;exact(h.row x hx).1.ok.wf
 rwa [map_map]at this
theorem Pw{names:Ls}{kd:Str}{rows:List LR}{x:LR}{v1 v2 v3 v4:V}{K:MQ Out}{k0:Nat}(h:vA names kd rows)(hl:rows.length≤100)(g:σ[n]?=some (.list (rows.map fun x=>fG (bw x))))(hx:mC names x∧kindS x=kd)(hk:∀y∈rows,d7 y=d7 x)
  (q1:vA names kd (rows++[x])→K (.next [(53,.ref 0),(4,v1),(13,v2),(7,v3),(6,.ref n),(48,v4),(27,.p (fG (bw x)))]) (σ.set n (.list ((rows++[x]).map fun x=>fG (bw x))))) (q2:rows≠[]→K (.next [(53,.ref 0),(4,v1),(13,v2),(7,v3),(6,.ref n),(48,v4),(27,.p (fG (bw x)))]) σ):
  gX k0 [(53,.ref 0),(4,v1),(13,v2),(7,v3),(6,.ref n),(48,v4),(27,.p (fG (bw x)))] σ K E:=by
 have put:(cY x=true∨vV (rows.map fun y=>cI (bw y)) (cI (bw x))=false)→pY k0 [(53,.ref 0),(4,v1),(13,v2),(7,v3),(6,.ref n),(48,v4),(27,.p (fG (bw x)))] σ (cB ak K E) E:=fun hp=>
  ⟨.append _ (aB g),.append _ _ _ rfl rfl g (by refine ER (length_map ..) ?_;exact le_trans hl (bl rfl)) (by have:=q1 (h.snoc hx hk hp);rwa [map_append]at this)⟩
 refine wO hx.1.ok (aF.pp CP ?_);generalize hc:cY x=gg;induction gg with
 |true=>refine ER (Ma hc) ?_;exact aT.mk (fun U=>aT.mk (fun U=>put (.inl hc)) fun e=>nomatch e) fun e=>Bool.noConfusion e
 |false=>
  obtain⟨l,e⟩:=Pu hx.1.ok hc;have f1:=hx.1.ok.wf.JD;rw[e]at f1;refine ER e ?_;refine aT.mk (fun e=>Bool.noConfusion e) fun U=>wO hx.1.ok (.mk _ (.ref g) (AH hl) ⟨Mb h hl g ?_⟩);refine ER e ?_;refine aF.pp (xo (G1 h) f1.1 f1.2) (aT.mk (fun z=>put (.inr (by refine ER e ?_;exact nb z))) fun z=>q2 ?_);rintro rfl;cases Cg z
end
theorem J0:∀i∈([0,8,65535,256]:List Int),n8 i:=by unfold n8;decide+kernel
theorem vC{x:LR}(h:cY x=true):∃p back ins ahead,x= .chain p back ins ahead:=by
 induction x with
 |chain p back ins ahead=>exact⟨p,back,ins,ahead,rfl⟩
 |_=>exact Bool.noConfusion h
theorem Px{names:Ls}{p p':Bool}{back:List (Ls)}{ins:List (Ls×Ls)}{ahead:List (Ls)}(h:mC names (.chain p back ins ahead)):mC names (.chain p' back ins ahead):=⟨h.ok,h.len,h.use⟩
section
variable {σ ah aj:LM}{k m n:Nat}{E:ME}{Q:MQ V}
theorem Py{l:Lp}{m:Nat}(h:l.length≤bL):jW (.tup l) (some (m:Int)) none (.tup (l.drop m)):=Gf (l:=l)▸CS h
theorem Mc{k0:Nat}{all:Lp}{names:Ls}{kd:Str}{v1:V}{Q:MQ Out}(hn:0<names.length∧names.length≤10)(JZ:∀n∈names,o7 n=true)(Hs:kd∈kinds)(dF:σ.length≤n)(c:Nat):∀(a:Int) (k:Nat) (rows:List LR) (t:ai) (ah:LM),(t=[]∨∃u v,t=[(48,u),(27,v)])→PW σ k ah→k+c * 64≤4000→vA names kd rows→rows.length+c≤2→(rows=[]→0<c)→ah[n]?=some (.list (rows.map fun x=>fG (bw x)))→
  (∀rows t bj,vA names kd rows→rows≠[]→rows.length≤2→PW σ (k+c * 64) bj→bj[n]?=some (.list (rows.map fun x=>fG (bw x)))→Q (.next ((53,.ref 0)::(4,v1)::(13,.p (.list (aq names)))::(7,.p (.str kd))::(6,.ref n)::t)) bj)→
  bU all none (.one 48) (dX k0) (gj a c) ((53,.ref 0)::(4,v1)::(13,.p (.list (aq names)))::(7,.p (.str kd))::(6,.ref n)::t) ah Q E:=by
 induction c with
 |zero=>exact fun a k rows t ah ht w hk d hl dG g q=>⟨aA,q rows t ah d (fun e=>absurd (dG e) (lt_irrefl _)) hl (by refine ER (zero_mul ..) ?_;exact w) g⟩
 |succ c ih=>
  intro a k rows t ah ht w hk d hl dG g q;have e:k+(c+1) * 64=k+64+c * 64:=by lia
  rw[e]at q hk;have next:∀{x fU},mC names x∧kindS x=kd→(∀y∈rows,d7 y=d7 x)→PW σ (k+64) fU→fU[n]?=some (.list (rows.map fun x=>fG (bw x)))→gX k0 [(53,.ref 0),(4,v1),(13,.p (.list (aq names))),(7,.p (.str kd)),(6,.ref n),(48,.p (.int a)),(27,.p (fG (bw x)))] fU (cB (bU all none (.one 48) (dX k0) (gj (a+1) c)) Q E) E:=fun {x fU} hx hk' w1 g1=>
   Pw d (by lia) g1 hx hk' (fun d'=>ih (a+1) (k+64) (rows++[x]) [(48,_),(27,_)] _ (.inr ⟨_,_,rfl⟩) (w1.set dF) hk d' (by refine ER length_append (ER length_singleton ?_);omega) (fun e=>absurd e (by simp)) (fE g1) q)
    fun hr=>ih (a+1) (k+64) rows [(48,_),(27,_)] _ (.inr ⟨_,_,rfl⟩) w1 hk d (by omega) (fun e=>absurd e hr) g1 q
  have st:∀x fU,mC names x→kindS x=kd→bC [0] ah fU→PW σ (k+64) fU→(ae (dP (nO (au (aQ .Eq (aa 7) (cP (.str "chain")))) (au (aQ .NotEq (aa 6) (aw k0 [])))) (pX k0) ak) (gX k0)) [(53,.ref 0),(4,v1),(13,.p (.list (aq names))),(7,.p (.str kd)),(6,.ref n),(48,.p (.int a)),(27,.p (fG (bw x)))] fU (cB (bU all none (.one 48) (dX k0) (gj (a+1) c)) Q E) E:=fun x fU dx hx s w1=>by
   have g1:=w.keep s dF g
   refine aF.pp (b7 _ _) (aT.mk (fun e=>?_) fun e=>aT.mk (fun x=>Bool.noConfusion x) fun U=>next ⟨dx,hx⟩ (fun y hy=>(Pq (hx.trans (d.row y hy).2.symm) (dz.trans (by refine ER hx ?_;exact e))).symm) w1 g1);cases rows with
   |nil=>exact az.p0 (aF.mk _ _ _ (aB g1) rfl (sJ rfl rfl (bl rfl)) (aT.mk (fun x=>Bool.noConfusion x) fun U=>next ⟨dx,hx⟩ (fun U h=>nomatch h) w1 g1))
   |cons y rows=>
    obtain⟨p,back,ins,ahead,rfl⟩:=vC (dz.trans (by refine ER hx ?_;exact e));obtain⟨p',b',i',a',rfl⟩:=vC (x:=y) (dz.trans (by refine ER ((d.row y (.head _)).2) ?_;exact e));have hx':kd= "chain" :=hx.symm;subst hx';exact az.p0 (aF.mk _ _ _ (aB g1) rfl mK (aT.mk (fun U=>aW.mk _ _ _ (aB g1) rfl JE (aW.pp AG (aW.pp (aO (k:=0) rfl (zero_le _)) (az.p1 (aW.pp AG (jK.mk _ _ _ _ rfl rfl rfl (Py (m:=1) (bl rfl))
     (aU.pp (yJ (bl rfl)) (az.p2 (next (x:=.chain p' back ins ahead) ⟨Px dx,hx⟩ (fun z hz=>d.kw z hz (.chain p' b' i' a') (.head _)) w1 g1))))))))) fun x=>Bool.noConfusion x))
  have go:∀t,(t=[]∨∃v,t=[(27,v)])→dX k0 ((53,.ref 0)::(4,v1)::(13,.p (.list (aq names)))::(7,.p (.str kd))::(6,.ref n)::(48,.p (.int a))::t) ah (cB (bU all none (.one 48) (dX k0) (gj (a+1) c)) Q E) E:=fun t ht=>by
   rcases ht with rfl|⟨v,rfl⟩<;>exact Xx hn JZ Hs w (by grind only) st
  rcases ht with rfl|⟨u,v,rfl⟩
  ·exact .mk aA _ rfl (go [] (.inl rfl))
  ·exact .mk aA _ rfl (go [(27,v)] (.inr ⟨_,rfl⟩))
theorem Pz{names:Ls}{nm:Str}(hn:0<names.length∧names.length≤10)(JZ:∀n∈names,o7 n=true)(w:PW aj k σ)(hk:k≤3000)(q:∀l ah,l.name=nm→G0 names l→bC [0] σ ah→PW aj (k+160) ah→Q (.p l.p) ah):Run fQ [.ref 0,.p (.str nm),.p (.list (aq names))] σ Q E:=by
 have kinds_:∀{σ:LM} {Q:MQ V} {E:ME},Q (.p (.list (aq kinds))) σ→Run pK [] σ Q E:=fun q=>⟨az.mk _ _ (.cons (.p _) (.cons (.p _) (.cons (.p _) (.cons (.p _) (.cons (.p _) (.cons (.p _) (.cons (.p _) (.cons (.p _) .nil)))))))) (bl rfl) (dc q)⟩;refine⟨kinds_ (vv (m:=8) (l:=aq kinds) w.start (le_trans (by assumption) (bl rfl)) (bl rfl) (succ_pos _) rfl fun x fU hx s1 w1=>?_)⟩;obtain⟨kd,Hs,rfl⟩:=mem_map.mp hx;refine az.p0 (kT (m:=2) w1.push (le_trans (add_le_add_right (by assumption) _) (bl rfl)) (by decide) (by decide) fun c σ2 hc s2 w2=>aU.pp add_int (Hr.mk _ rfl (cg (k:=1+c) (by omega)) (by simp only[bL];omega) ⟨?_⟩));show bU (gj 0 ((1:Int)+(c:Int)).toNat) none (.one 48) _ (gj 0 ((1:Int)+(c:Int)).toNat) _ _ _ _;refine ER ((by simp+arith [*]):((1:Int)+(c:Int)).toNat=1+c) ?_;refine Mc hn JZ Hs w1.ext.1 (1+c) 0 _ [] [] σ2 (.inl rfl) w2 (by grind only) ⟨(fun U h=>nomatch h),trivial,fun U h=>nomatch h⟩ (by rw[length_nil];omega) (fun U=>by simp+arith [*]) (w1.push.keep s2 w1.ext.1 ba) fun rows t σ3 d dG hl w3 g3=>?_;refine az.p4 (vv (m:=4) w3 (by grind only) (bl rfl) (by decide) rfl fun y σ4 hy s4 w4=>?_);obtain⟨i,hi,rfl⟩:=mem_map.mp (show y∈([0,8,65535,256]:List Int).map P.int from hy);exact dC.mk _ _ (aB (w3.keep s4 w1.ext.1 g3)) (tuple_list (AH (le_trans (by assumption) (bl rfl)))) (az.p3 (w.give w4 (by grind only) fun bj=>q ⟨nm,i,rows⟩ bj rfl ⟨J0 i hi,dG,hl,fun x hx=>(d.row x hx).1,d.R4⟩))
end
def PA(names:Ls)(v1:V)(n:Nat)(t:ai):ai:=(53,.ref 0)::(13,.p (.list (aq names)))::(2,v1)::(3,.ref n)::t
noncomputable def N3:Ls:=["L0","liga","k.2"]
theorem TF:∀n∈N3,o7 n=true:=by decide+kernel
structure Cy (names:Ls) (f:FL):Prop where
 ok:LW f
 nm:o7 f.tag=true∧o7 f.bk=true∧o7 f.aC=true
 cS:f.dw.length≤2
 use:∀n∈f.dw,n∈names
structure cF (aY:List LL) (fs:List FL):Prop where
 names:∃n,0<n∧n≤3∧aY.map (·.name)=N3.take n
 look:∀l∈aY,G0 (aY.map (·.name)) l
 PB:∀f∈fs,Cy (aY.map (·.name)) f
 cS:fs.length≤2
section
variable {σ ah aj:LM}{k m n:Nat}{E:ME}{Q:MQ V}
theorem Zr{ns:List Int}(h:ns.length≤63)(q:PW [yr ns 0 0] 0 [yr ns 0 0]→Q (.ref 0) [yr ns 0 0]):Run wj [.p (.list (ns.map P.int))] [] Q E:=by
 have lim:(ns.map P.int).length≤bL:=by rw[length_map];exact le_trans h (bl rfl)
 have c:=nZ (m:=63) lim
 rw[(take_of_length_le (by rw[length_map];exact h):(ns.map P.int).take 63=ns.map P.int)]at c;refine⟨jK.mk _ _ _ _ rfl rfl rfl c (.mk _ (.list _) lim ⟨comp_map (g:=fun U=>true) (f:=id) (base:=[]) (fun U U=>rfl) (fun U=>rfl) aA _ [] [] (.inl rfl) (by simpa using lim) (fun U U U q=>q) (fun z hz U K q=>?_) ?_⟩)⟩
 ·obtain⟨i,_,rfl⟩:=mem_map.mp hz;exact dC.pp int_int q
 ·refine ER (nil_append ..) (ER (filter_eq_self.mpr fun U U=>rfl ..) (ER (map_id ..) ?_));exact az.p3 (Od (n:=0) (le_refl _) rfl (q ⟨.refl _ _,⟨ns,0,0,rfl,h,le_refl _,le_refl _,le_refl _⟩,succ_pos _⟩))
theorem qB{l:Ls}(w:PW aj k σ)(hk:k≤100000)(hl:l.length≤100)(h0:0<l.length)(hm:m=(aq l).length)(q:∀x ah,x∈l→bC [0] σ ah→PW aj (k+1) ah→Q (.p (.str x)) ah):Run aK [.ref 0,.p (.int (m:Int))] σ (fun i ah=>aW ah (.p (.list (aq l))) i b8 Q) E:=
 vv w hk (by rw[bc];exact hl) (by rw[bc];exact h0) hm fun x ah hx s w'=>by
  obtain⟨g,hg,rfl⟩:=mem_map.mp hx;exact q g ah hg s w'
theorem Me{all:Lp}{names:Ls}{k0:Nat}{Q:MQ (Lp)}(hn:0<names.length∧names.length≤10)(dF:PW σ k ah)(c:Nat)(hc:c≤10)(hk:k≤10000)(q:∀(l:Ls) bj,l.length=c→(∀g∈l,g∈names)→bC [0] ah bj→PW σ (k+c * 1) bj→Q (aq l) bj):
  cQ k0 all none (.one 43) bV (aL (aa 13) (ay aK [aa 53,cT .len (aa 13)])) (gj 0 c) [(53,.ref 0),(13,.p (.list (aq names)))] [] ah Q E:=
 rn (nK:=P.str) (D:=(· ∈names)) (cost:=1) (base:=[(53,.ref 0),(13,.p (.list (aq names)))]) (fun U U=>rfl) (fun U=>rfl) (fun a k σ K w hk st=>dC.pp (len_list (by rw[bc];exact le_trans hn.2 (bl rfl))) (qB w (le_trans (by assumption) (bl rfl)) (le_trans hn.2 (bl rfl)) hn.1 rfl st)) c 0 k [] [] ah (.inl rfl) dF (by lia) (by rw[length_nil];omega) (fun U h=>(not_mem_nil h).elim) fun l bj hl hd s w=>q l bj (ER (hl ..) (ER (length_nil ..) (ER (zero_add ..) rfl))) hd s w
theorem Se:(∀w∈(["liga","ss01","k","_x"]:Ls),o7 w=true∧w.length≤4)∧(∀w∈(["DFLT","latn","arab"]:Ls),o7 w=true∧w.length≤4)∧∀w∈(["dflt","DEU"]:Ls),o7 w=true∧w.length≤4:=by decide+kernel
theorem IJ{k0:Nat}{all:Lp}{names:Ls}{v1:V}{Q:MQ Out}(hn:0<names.length∧names.length≤10)(JZ:∀n∈names,o7 n=true)(dF:σ.length≤n)(c:Nat):∀(a:Int) (k:Nat) (fs:List FL) (t:ai) (ah:LM),(t=[]∨∃a b c d e,t=[(48,a),(9,b),(10,c),(11,d),(66,e)])→PW σ k ah→k+c * 8≤9000→fs.length+c≤2→(∀f∈fs,Cy names f)→ah[n]?=some (.list (fs.map FL.p))→
  (∀(fs:List FL) t bj,(∀f∈fs,Cy names f)→fs.length≤2→PW σ (k+c * 8) bj→bj[n]?=some (.list (fs.map FL.p))→Q (.next (PA names v1 n (t))) bj)→
  bU all none (.one 48) (dH k0) (gj a c) (PA names v1 n (t)) ah Q E:=by
 induction c with
 |zero=>exact fun a k fs t ah ht w hk hl d g q=>⟨aA,q fs t ah d hl (by refine ER (zero_mul ..) ?_;exact w) g⟩
 |succ c ih=>
  intro a k fs t ah ht w hk hl d g q;have e:k+(c+1) * 8=k+8+c * 8:=by lia
  rw[e]at q hk;obtain⟨o1,o2,o3⟩:=Se;have go:∀t,(t=[]∨∃b c d e,t=[(9,b),(10,c),(11,d),(66,e)])→dH k0 (PA names v1 n ((48,.p (.int a))::t)) ah (cB (bU all none (.one 48) (dH k0) (gj (a+1) c)) Q E) E:=fun t ht=>by
   have st:∀tag fU,tag∈(["liga","ss01","k","_x"]:Ls)→bC [0] ah fU→PW σ (k+1) fU→∀scr σ2,scr∈(["DFLT","latn","arab"]:Ls)→bC [0] fU σ2→PW σ (k+2) σ2→∀la σ3,la∈(["dflt","DEU"]:Ls)→bC [0] σ2 σ3→PW σ (k+3) σ3→∀j σ4,j<2→bC [0] σ3 σ4→PW σ (k+4) σ4→
     ∀l EN,l.length=1+j→(∀g∈l,g∈names)→bC [0] σ4 EN→PW σ (k+4+(1+j) * 1) EN→dC .tuple EN (.p (.list (aq l))) fun v σ6=>(ae (oU (ry .append (aa 3) (bG k0 [aa 9,aa 10,aa 11,aa 66]))) ak) [(53,.ref 0),(13,.p (.list (aq names))),(2,v1),(3,.ref n),(48,.p (.int a)),(9,.p (.str tag)),(10,.p (.str scr)),(11,.p (.str la)),(66,v)] σ6 (cB (bU all none (.one 48) (dH k0) (gj (a+1) c)) Q E) E:=
    fun tag fU h1 s1 U scr σ2 h2 s2 U la σ3 h3 s3 U j σ4 hj s4 U l EN hl' hg s5 w5=>by
     have g5:=w5.keep (s:=.refl _ _) dF (s5.get (s4.get (s3.get (s2.get (s1.get g (yp (ne_of_gt (lt_of_lt_of_le w.lt dF)))) (yp (ne_of_gt (lt_of_lt_of_le w.lt dF)))) (yp (ne_of_gt (lt_of_lt_of_le w.lt dF)))) (yp (ne_of_gt (lt_of_lt_of_le w.lt dF)))) (yp (ne_of_gt (lt_of_lt_of_le w.lt dF))))
     exact dC.pp (AF (by omega)) ⟨.append _ (aB g5),az.p4 (.append _ _ _ rfl rfl g5 (by rw[length_map];simp only[bL];lia)
      (ih (a+1) (k+8) (fs++[⟨tag,scr,la,l⟩]) [(48,_),(9,_),(10,_),(11,_),(66,_)] _ (.inr ⟨_,_,_,_,_,rfl⟩) ((w5.le (by omega)).set dF) hk (by refine ER length_append (ER length_singleton ?_);lia) (fun f hf=>(mem_append.mp hf).elim (d f) fun h=>by refine ER (mem_singleton.mp h) ?_;exact(⟨⟨(o1 _ h1).2,(o2 _ h2).2,(o3 _ h3).2,fun e=>by rw[show l=[] from e]at hl';simp at hl';grind only,fun n hn=>JZ n (hg n hn)⟩,⟨(o1 _ h1).1,(o2 _ h2).1,(o3 _ h3).1⟩,by show l.length≤2;omega,hg⟩:Cy names ⟨tag,scr,la,l⟩)) (by refine ER (fE g5) (ER map_append ?_);rfl) q))⟩
   have run:∀j σ4,j<2→PW σ (k+4) σ4→∀{Q:MQ (Lp)} {E:ME} {all:Lp},(∀l EN,l.length=1+j→(∀g∈l,g∈names)→bC [0] σ4 EN→PW σ (k+4+(1+j) * 1) EN→Q (aq l) EN)→cQ k0 all none (.one 43) bV (aL (aa 13) (ay aK [aa 53,cT .len (aa 13)])) (gj 0 ((1:Int)+(j:Int)).toNat) [(53,.ref 0),(13,.p (.list (aq names)))] [] σ4 Q E:=fun j σ4 hj w4 Q E all q=>by
    refine ER ((by simp+arith [*]):((1:Int)+(j:Int)).toNat=1+j) ?_;exact Me hn w4 (1+j) (by omega) (by grind only) q
   rcases ht with rfl|⟨b,c',d',e',rfl⟩<;>
   exact az.p4 (qB (l:=["liga","ss01","k","_x"]) (m:=4) w (by omega) (bl rfl) (by decide) rfl fun tag fU h1 s1 w1=>az.p3 (qB (l:=["DFLT","latn","arab"]) (m:=3) w1 (by omega) (bl rfl) (by decide) rfl fun scr σ2 h2 s2 w2=>
    az.p2 (qB (l:=["dflt","DEU"]) (m:=2) w2 (by omega) (bl rfl) (by decide) rfl fun la σ3 h3 s3 w3=>kT (m:=2) w3 (by omega) (by decide) (by decide) fun j σ4 hj s4 w4=>aU.pp add_int (Hr.mk _ rfl (cg (k:=1+j) (by omega)) (by simp only[bL];omega)
     ⟨run j σ4 hj w4 (st tag fU h1 s1 w1 scr σ2 h2 s2 w2 la σ3 h3 s3 w3 j σ4 hj s4 w4)⟩))))
  rcases ht with rfl|⟨a',b,c',d',e',rfl⟩
  ·exact .mk aA _ rfl (go [] (.inl rfl))
  ·exact .mk aA _ rfl (go [(9,b),(10,c'),(11,d'),(66,e')] (.inr ⟨_,_,_,_,rfl⟩))
theorem IK{all:Lp}{names:Ls}{k0:Nat}{Q:MQ (Lp)}(hn:0<names.length∧names.length≤10)(JZ:∀n∈names,o7 n=true)(bX:Ls):∀(k:Nat) (acc:List LL) (t:ai) (ah:LM),(t=[]∨∃v,t=[(4,v)])→PW σ k ah→k+bX.length * 160≤3000→acc.length+bX.length≤100→(∀l∈acc,G0 names l)→
  (∀(ls:List LL) bj,ls.map (·.name)=acc.map (·.name)++bX→(∀l∈ls,G0 names l)→bC [0] ah bj→PW σ (k+bX.length * 160) bj→Q (ls.map LL.p) bj)→
  cQ k0 all none (.one 4) bV (ay fQ [aa 53,aa 4,aa 13]) (aq bX) ((53,.ref 0)::(13,.p (.list (aq names)))::t) (acc.map LL.p) ah Q E:=by
 induction bX with
 |nil=>exact fun k acc t ah ht w hk hl d q=>⟨aA,q acc ah (ER (append_nil ..) rfl) d (.refl _ _) (by refine ER (length_nil ..) (ER (zero_mul ..) ?_);exact w)⟩
 |cons nm bX ih=>
  intro k acc t ah ht w hk hl d q;have e:k+(nm::bX).length * 160=k+160+bX.length * 160:=by refine ER length_cons ?_;lia
  rw[e]at hk q;rw[length_cons]at hl;have go:ay fQ [aa 53,aa 4,aa 13] [(53,.ref 0),(13,.p (.list (aq names))),(4,.p (.str nm))] ah (fun v bj=>Fe k0 bj v (acc.map LL.p).length fun y bj=>cQ k0 all none (.one 4) bV (ay fQ [aa 53,aa 4,aa 13]) (aq bX) [(53,.ref 0),(13,.p (.list (aq names))),(4,.p (.str nm))] (acc.map LL.p++[y]) bj Q E) E:=
   Pz hn JZ w (by grind only) fun l fU el dl s w1=>.mk _ _ (.one (.p _)) (by rw[length_map];simp only[bL];lia) (by
    have:=ih (k+160) (acc++[l]) [(4,.p (.str nm))] fU (.inr ⟨_,rfl⟩) w1 hk (by refine ER length_append (ER length_singleton ?_);grind only) (fun x hx=>(mem_append.mp hx).elim (d x) fun h=>by refine ER (mem_singleton.mp h) ?_;exact dl) fun ls σ2 en hd s2 w2=>q ls σ2 (by refine ER (en ..) (ER (map_append ..) (ER (append_assoc ..) (ER (List.map_singleton ..) (ER (el ..) ?_))));rfl) hd (s.trans s2) w2
    rwa [map_append]at this)
  rcases ht with rfl|⟨v,rfl⟩<;>exact .mk aA _ rfl (aT.mk (fun U=>go) fun x=>Bool.noConfusion x)
theorem Xz(w:PW aj k σ)(hk:k≤1000)(q:∀aY fs ah,cF aY fs→bC [0] σ ah→PW aj (k+600) ah→Q (.p (mf aY fs)) ah):Run jl [.ref 0] σ Q E:=by
 refine⟨az.p3 (kT (m:=3) w.start (le_trans (by assumption) (bl rfl)) (by decide) (by decide) fun j fU hj s1 w1=>aU.pp add_int (jK.mk _ _ _ _ rfl rfl rfl (nZ (l:=aq N3) (m:=1+j) (bl rfl)) ?_))⟩;refine ER ((by simp[aq]):(aq N3).take (1+j)=aq (N3.take (1+j))) ?_;have nl:(N3.take (1+j)).length=1+j:=by refine ER length_take ?_;exact min_eq_left (by show 1+j≤3;omega)
 have hn:0<(N3.take (1+j)).length∧(N3.take (1+j)).length≤10:=by omega
 have JZ:∀n∈N3.take (1+j),o7 n=true:=fun n h=>TF n (mem_of_mem_take h);refine .mk _ (.list _) (by refine ER (bc ..) (ER (nl ..) ?_);simp only[bL];omega) ⟨IK hn JZ _ (k+1) [] [] fU (.inl rfl) w1 (by omega) (by refine ER length_nil ?_;omega) (fun U h=>(not_mem_nil h).elim) fun ls σ2 el dl s2 w2=>?_⟩;have el:ls.map (·.name)=N3.take (1+j):=el;have ll:ls.length=1+j:=EL (nl ..) (EL (el ..) (ER (length_map ..) rfl));refine dC.pp (tuple_list (by rw[length_map];simp only[bL];omega)) (az.p0 (kT (m:=3) w2.push (by grind only) (by decide) (by decide) fun c σ3 hc s3 w3=>Hr.mk _ rfl (cg (by omega)) (by simp only[bL];omega)
  ⟨IJ hn JZ w2.ext.1 c 0 _ [] [] σ3 (.inl rfl) w3 (by grind only) (by refine ER length_nil ?_;omega) (fun U h=>(not_mem_nil h).elim) (w2.push.keep s3 w2.ext.1 ba) fun fs t σ4 df hf w4 g4=>?_⟩))
 exact dC.mk _ _ (aB g4) (tuple_list (by rw[length_map];simp only[bL];exact le_trans (by assumption) (bl rfl))) (az.p2 (w.give w4 (by grind only) fun bj=>q ls fs bj ⟨⟨1+j,by simp+arith [*],by omega,el⟩,by refine ER el ?_;exact dl,by refine ER el ?_;exact df,hf⟩))
end
abbrev dE(l:Lk):Prop:=∀t∈l,A3 t=true
theorem cG{a b:Lk}(h1:dE a)(h2:dE b):dE (a++b):=fun t ht=>(mem_append.mp ht).elim (h1 t) (h2 t)
theorem bg{t:Tk}{b:Lk}(h1:A3 t=true)(h2:dE b):dE (t::b):=fun x hx=>(mem_cons.mp hx).elim (fun e=>e▸h1) (h2 x)
theorem cR:dE []:=fun U h=>(not_mem_nil h).elim
theorem nJ{α:Type}{f:α→Lk}{l:List α}(h:∀x∈l,dE (f x)):dE (l.flatMap f):=fun t ht=>by
 obtain⟨x,hx,ht⟩:=mem_flatMap.mp ht;exact h x hx t ht
theorem XA:∀w∈G7,o7 w=true:=by decide+kernel
theorem J1{l:Ls}(h:∀w∈l,o7 w=true):dE (ee l):=fun t ht=>by
 obtain⟨w,hw,rfl⟩:=mem_map.mp ht;exact h w hw
theorem kU{l:Ls}(h:∀w∈l,w∈G7):dE (ee l):=J1 fun w hw=>XA w (h w hw)
theorem D7{g:Ls}(h:dZ g):dE (cJ g):=by
 unfold cJ;refine iT (fun _=>?_) fun _=>?_
 ·exact kU h.g7
 ·exact bg rfl (cG (kU h.g7) (bg rfl cR))
theorem Vi{l:Ls}(h:∀w∈l,o7 w=true):dE (pj l):=nJ fun n hn=>bg rfl (bg (h n hn) cR)
theorem Cz{w:yq}(h:xY w):dE (cK w):=by
 unfold cK;refine iT (fun _=>?_) fun _=>?_
 ·exact bg (h w.c (by simp[yq.l])).1 cR
 ·refine bg rfl (cG (fun t ht=>?_) (bg rfl cR));obtain⟨i,hi,rfl⟩:=mem_map.mp ht;exact(h i hi).1
theorem CA{l:Ls}(h:∀w∈l,w∈G7):dE (iI l):=by
 unfold iI;refine iT (fun _=>?_) fun _=>?_
 ·exact bg rfl cR
 ·exact kU h
theorem J2{x:LR}(h:eX x):dE (bF x):=by
 have e:∀{a b:Lk} {k},dE a→dE b→dE (.kw k::(a++(b++[.sg .semi]))):=fun ha hb=>bg rfl (cG ha (cG hb (bg rfl cR)));induction x with
 |single a b=>exact e (kU (in1 h.1)) (bg rfl (CA (in1 h.2)))
 |du a l=>exact e (kU (in1 h.1)) (bg rfl (CA h.2.1))
 |b6 a l=>exact e (kU (in1 h.1)) (bg rfl (bg rfl (cG (kU h.2.g7) (bg rfl cR))))
 |dK l b=>exact e (kU h.1) (bg rfl (kU (in1 h.2.2)))
 |ia a w=>exact e (kU (in1 h.1)) (Cz h.2)
 |pair a b w=>exact e (kU (ZP h.1 h.2.1)) (Cz h.2.2)
 |chain p back ins ahead=>
  obtain⟨h1,h2,h3,_⟩:=h;refine e (a:=bT _) (nJ fun x hx=>?_) cR;rcases mem_append.mp hx with hx|hx
  ·obtain⟨g,hg,rfl⟩:=mem_map.mp hx;exact cG (D7 (h1 g hg)) cR
  rcases mem_append.mp hx with hx|hx
  ·obtain⟨y,hy,rfl⟩:=mem_map.mp hx;exact cG (D7 (h2 y hy).1) (bg rfl (Vi (h2 y hy).2))
  ·obtain⟨g,hg,rfl⟩:=mem_map.mp hx;exact cG (D7 (h3 g hg)) cR
theorem Vj{l:LL}(h:nF l):dE (wH l):=by
 refine bg rfl (cG (bg h.name (cG ?_ (bg rfl cR))) (cG (nJ fun x hx=>J2 (h.rows x hx)) (bg rfl cR)));unfold fg;refine iT (fun _=>?_) fun _=>?_
 ·exact bg rfl (bg h.flag.1 cR)
 ·exact cR
theorem J3{k:Kw}{d w:Str}(h:o7 w=true):dE (dQ k d w):=by
 unfold dQ;refine iT (fun _=>?_) fun _=>?_
 ·exact cR
 ·exact bg rfl (bg h cR)
theorem Vk{names:Ls}{f:FL}(h:Cy names f):dE (jt f):=
 bg rfl (bg h.nm.1 (cG (J3 h.nm.2.1) (cG (J3 h.nm.2.2) (bg rfl (cG (J1 h.ok.dw) (bg rfl cR))))))
theorem Sf{k:Nat}{u:eQ}:∀{l:Ls},u∈U9 k l→u.1∈l:=by
 intro rv;induction rv with
 |nil=>intros;contradiction
 |cons n l ih=>exact fun h=>(mem_cons.mp h).elim (fun e=>e▸ .head _) fun h=>.tail _ (ih h)
theorem Sh{k:Nat}{x:IT}{u:eQ}(h:u∈(JP k x).lk):∃ls,x.2=some ls∧u.1∈ls:=by
 obtain⟨g,m⟩:=x;induction m with
 |none=>contradiction
 |some ls=>exact⟨ls,rfl,Sf h⟩
theorem PC{k:Nat}{u:eQ}(l:List IT):u∈(eL k l).flatMap (·.lk)→∃x∈l,∃ls,x.2=some ls∧u.1∈ls:=by
 induction l with
 |nil=>exact fun h=>absurd h not_mem_nil
 |cons x l ih=>
  intro h;rcases mem_append.mp h with h|h
  ·exact⟨x,.head _,Sh h⟩
  ·obtain⟨y,hy,h⟩:=ih h;exact⟨y,.tail _ hy,h⟩
theorem Mf{x:LR}{k:Nat}{u:eQ}(h:u∈An k x):u.1∈D5 x:=by
 induction x with
 |chain p back ins ahead=>
  obtain⟨x,hx,ls,e,hu⟩:=PC _ h;rcases mem_append.mp hx with hx|hx
  ·obtain⟨g,hg,rfl⟩:=mem_map.mp hx;contradiction
  rcases mem_append.mp hx with hx|hx
  ·obtain⟨y,hy,rfl⟩:=mem_map.mp hx;injection e with e;subst e;exact mem_flatMap.mpr ⟨y,hy,hu⟩
  ·obtain⟨g,hg,rfl⟩:=mem_map.mp hx;contradiction
 |_=>contradiction
theorem D8{u:eQ}(rows:List LR):∀k,u∈gm k rows→∃x∈rows,u.1∈D5 x:=by
 induction rows with
 |nil=>exact fun k h=>absurd h not_mem_nil
 |cons x rows ih=>
  intro k h;rcases mem_append.mp h with h|h
  ·exact⟨x,.head _,Mf h⟩
  ·obtain⟨y,hy,h⟩:=ih k h;exact⟨y,.tail _ hy,h⟩
theorem IL{u:eQ}(aY:List LL):∀k,u∈iJ k aY→∃l∈aY,∃x∈l.rows,u.1∈D5 x:=by
 induction aY with
 |nil=>exact fun k h=>absurd h not_mem_nil
 |cons l aY ih=>
  intro k h;rcases mem_append.mp h with h|h
  ·exact⟨l,.head _,D8 _ _ h⟩
  ·obtain⟨y,hy,h⟩:=ih k h;exact⟨y,.tail _ hy,h⟩
theorem Mg{u:eQ}{k:Nat}:∀{l:Ls},u∈oO k l→u.1∈l:=by
 intro rv;induction rv with
 |nil=>intros;contradiction
 |cons n l ih=>exact fun h=>(mem_cons.mp h).elim (fun e=>e▸ .head _) fun h=>.tail _ (ih h)
theorem AI{u:eQ}(fs:List FL):∀k,u∈mz k fs→∃f∈fs,u.1∈f.dw:=by
 induction fs with
 |nil=>exact fun k h=>absurd h not_mem_nil
 |cons f fs ih=>
  intro k h;rcases mem_append.mp h with h|h
  ·exact⟨f,.head _,Mg h⟩
  ·obtain⟨g,hg,h⟩:=ih k h;exact⟨g,.tail _ hg,h⟩
theorem Mh{k:Nat}:∀l:Ls,(oO k l).map (·.1)=l:=by
 intro rv;induction rv with
 |nil=>exact rfl
 |cons n l ih=>exact congrArg (n:: ·) (ih)
theorem qC{L:List LB}:∀{us:List eQ},(∀u∈us,wy u.1∈names L)→cW L us=none:=by
 intro rv;induction rv with
 |nil=>exact fun o=>rfl
 |cons u us ih=>exact fun h=>(if_pos (decide_eq_true (h u (.head _)))).trans (ih fun v hv=>h v (.tail _ hv))
theorem qD(aY:List LL):names (aY.map LL.lb)=aY.map (·.name):=by unfold names;refine ER map_map ?_;rfl
section
variable {aY:List LL}{fs:List FL}
theorem cF.sub(h:cF aY fs):∀n∈aY.map (·.name),n∈N3:=fun n hn=>by
 obtain⟨j,_,_,e⟩:=h.names;exact mem_of_mem_take (e▸hn)
theorem cF.nm(h:cF aY fs):∀n∈aY.map (·.name),o7 n=true:=fun n hn=>TF n (h.sub n hn)
theorem cF.wy(h:cF aY fs){n:Str}(hn:n∈aY.map (·.name)):wy n∈Internal.names (aY.map LL.lb):=by refine ER (DU (h.nm n hn) ..) (ER (qD ..) ?_);exact hn
theorem cF.Vl(h:cF aY fs):∀l∈aY,nF l:=fun l hl=>⟨h.nm _ (mem_map_of_mem hl),(h.look l hl).flag,(h.look l hl).ne,fun x hx=>((h.look l hl).row x hx).ok,(h.look l hl).R4⟩
theorem cF.ok(h:cF aY fs):D3 aY fs:=⟨h.Vl,fun f hf=>(h.PB f hf).ok,by
 obtain⟨j,_,_,e⟩:=h.names;rw[e];exact(List.take_sublist _ _).nodup (by unfold N3;decide+kernel)⟩
theorem cF.ts(h:cF aY fs):dE (bz aY++bI fs):=cG (nJ fun l hl=>Vj (h.Vl l hl)) (nJ fun f hf=>Vk (h.PB f hf))
theorem Vm{names:Ls}{l:LL}(h:G0 names l):(wH l).length≤130:=by
 have h1:=vz (f:=bF) (c:=60) l.rows fun x hx=>(h.row x hx).len
 have h2:(fg l.flag).length≤2:=by unfold fg;refine iT (fun _=>?_) fun _=>?_<;>exact bl rfl
 have:=h.cS
 unfold wH gF c7 aR;simp only[length_append,length_cons,length_nil];grind only
theorem Vn{names:Ls}{f:FL}(h:Cy names f):(jt f).length≤20:=by
 have o:∀{k d w},(dQ k d w).length≤2:=fun {k d w}=>by unfold dQ;refine iT (fun _=>?_) fun _=>?_<;>exact bl rfl
 have h1:=o (k:=.bk) (d:= "DFLT") (w:=f.bk)
 have h2:=o (k:=.aC) (d:= "dflt") (w:=f.aC)
 have:=h.cS
 unfold jt Ar;simp only[length_append,length_cons,length_nil,dT];grind only
theorem cF.len(h:cF aY fs):(bz aY++bI fs).length≤500:=by
 obtain⟨j,_,hj,e⟩:=h.names;have hl:aY.length≤3:=by
  have:=congrArg List.length e
  rw[length_map,length_take]at this;exact this▸le_trans (Nat.min_le_left _ _) hj
 have h1:=vz (f:=wH) (c:=130) aY fun l hl=>Vm (h.look l hl)
 have h2:=vz (f:=jt) (c:=20) fs fun f hf=>Vn (h.PB f hf)
 have:=h.cS
 unfold bz bI;refine ER length_append ?_;grind only
theorem cF.tR(h:cF aY fs):o8 (bz aY++bI fs):=⟨h.ts,le_trans h.len (bl rfl)⟩
theorem cF.ne(h:cF aY fs):∃l ls,aY=l::ls:=by
 obtain⟨j,h0,hj,e⟩:=h.names;induction aY with
 |nil=>induction j with
  |zero=>contradiction
  |succ j=>contradiction
 |cons l ls=>exact⟨l,ls,rfl⟩
theorem cF.uses(h:cF aY fs){k j:Nat}:∀u∈iJ k aY++mz j fs,u.1∈aY.map (·.name):=fun u hu=>by
 rcases mem_append.mp hu with hu|hu
 ·obtain⟨l,hl,x,hx,hn⟩:=IL _ _ hu;exact((h.look l hl).row x hx).use _ hn
 ·obtain⟨f,hf,hn⟩:=AI _ _ hu;exact(h.PB f hf).use _ hn
theorem cF.whole(h:cF aY fs):dD (bz aY++bI fs)= .ok (aY.map LL.lb,pg 0 fs):=by
 obtain⟨N,_,e⟩:=nG h.ok.l h.ok.f h.ok.nd [];rw[append_nil]at e;refine ER e ?_;show(match cW (aY.map LL.lb) _ with|some n=>Except.error n|none=>.ok (aY.map LL.lb,pg 0 fs))=_;exact ER (qC fun u hu=>h.wy (h.uses u hu)) rfl
theorem XC{l:List FL}:∀{k:Nat},(pg k l).map Yd=l.map FL.p:=by
 induction l with
 |nil=>exact rfl
 |cons f l ih=>
  intro k;show P.tup [_,_,_,.tup (aq ((oO _ f.dw).map (·.1)))]::_=_;refine ER (Mh ..) (ER (ih ..) ?_);rfl
theorem Si{k:Nat}:∀l:List FL,(pg k l).length=l.length:=by
 intro rv;induction rv with
 |nil=>exact rfl
 |cons _ l ih=>exact congrArg (· +1) (ih)
end
mutual
theorem vD:∀x:P,PyData.eqv (toPy x) (toPy x)=true
 | .none=>by dsimp[toPy,PyData.eqv]
 | .bool b=>decide_eq_true rfl
 | .int i=>decide_eq_true rfl
 | .str s=>decide_eq_true rfl
 | .tup l=>by rw[toPy,PyData.eqv];exact wQ l
 | .list l=>by rw[toPy,PyData.eqv];exact wQ l
 | .inst _ _=>by dsimp[toPy,PyData.eqv]
theorem wQ:∀l:Lp,PyData.eqvAll (dU l) (dU l)=true
 |[]=>by dsimp[dU,PyData.eqvAll]
 |x::l=>by rw[dU,PyData.eqvAll,vD x,wQ l];rfl
end
def FD(n:Nat)(p:P):Prop:=flat p=true∧(toPy p).depth≤n
theorem CB{p:P}{n m:Nat}(h:FD n p)(hm:Nat.ble n m=true):FD m p:=⟨h.1,le_trans h.2 (Nat.le_of_ble_eq_true hm)⟩
theorem fJ{n:Nat}{s:Str}:FD n (.str s):=⟨rfl,zero_le _⟩
theorem IM{n:Nat}{i:Int}:FD n (.int i):=⟨rfl,zero_le _⟩
inductive Vo (n:Nat):Lp→Prop
 |nil:Vo n []
 |cons {p:P} {l:Lp} (h:FD n p) (t:Vo n l):Vo n (p::l)
theorem D9{n:Nat}{l:Lp}(h:Vo n l):lA l=true∧depthAll (dU l)≤n:=by
 induction h with
 |nil=>exact⟨rfl,zero_le _⟩
 |cons h _ ih=>exact⟨and_eq_true_iff.mpr ⟨h.1,ih.1⟩,max_le.mpr ⟨h.2,ih.2⟩⟩
theorem dO{n:Nat}{l:Lp}(h:Vo n l):FD (n+1) (.tup l):=⟨(D9 h).1,succ_le_succ (D9 h).2⟩
theorem Sj{n:Nat}{l:Lp}(h:Vo n l):FD (n+1) (.list l):=⟨(D9 h).1,succ_le_succ (D9 h).2⟩
theorem mD{α:Type}{f:α→P}{n:Nat}(h:∀x,FD n (f x)):∀l:List α,Vo n (l.map f):=by
 intro rv;induction rv with
 |nil=>exact .nil
 |cons x l ih=>exact .cons (h x) (ih)
theorem AJ(g:Ls):FD 2 (tupS g):=dO (mD (fun U=>fJ) g)
theorem Vp(w:yq):FD 2 (.tup (eW w.l)):=dO (mD (fun U=>IM) _)
theorem PD(x:LR):FD 4 (wG x):=by
 have t:∀g,FD 3 (tupS g):=fun g=>CB (AJ g) rfl;have w:∀w:yq,FD 3 (.tup (eW w.l)):=fun w=>CB (Vp w) rfl;induction x with
 |single a b=>exact dO (.cons fJ (.cons fJ .nil))
 |du a l=>exact dO (.cons fJ (.cons (t l) .nil))
 |b6 a l=>exact dO (.cons fJ (.cons (t l) .nil))
 |dK l b=>exact dO (.cons (t l) (.cons fJ .nil))
 |ia a v=>exact dO (.cons fJ (.cons (w v) .nil))
 |pair a b v=>exact dO (.cons fJ (.cons fJ (.cons (w v) .nil)))
 |chain p back ins ahead=>exact dO (.cons fJ (.cons (dO (mD AJ _)) (.cons (dO (mD (fun x:Ls×Ls=>AJ x.1) _)) (.cons (dO (mD AJ _)) (.cons (dO (mD (f:=lj) (fun U=>dO (.cons IM (.cons fJ .nil))) _)) .nil)))))
theorem Sk(l:LL):FD 7 l.p:=dO (.cons fJ (.cons IM (.cons (dO (mD (fun x=>dO (.cons fJ (.cons (PD x) .nil))) _)) .nil)))
theorem Sl(f:FL):FD 7 f.p:=CB (dO (.cons fJ (.cons fJ (.cons fJ (.cons (AJ _) .nil))))) rfl
theorem J4(aY:List LL)(fs:List FL):FD 9 (mf aY fs):=dO (.cons (dO (mD Sk _)) (.cons (dO (mD Sl _)) .nil))
theorem PE{n:Nat}{p:P}(h:FD n p)(hn:Nat.ble n 60=true):cD .Eq p p true:=by
 have:=ip h.1 h.1 (le_trans (Nat.min_le_left _ _) (CB h hn).2)
 rwa [show Hz p p=true from vD p]at this
theorem Mi{n:Nat}{p:P}(h:FD n p)(hn:Nat.ble n 60=true):cD .NotEq p p false:=by
 have:=sJ h.1 h.1 (le_trans (Nat.min_le_left _ _) (CB h hn).2)
 rwa [show Hz p p=true from vD p]at this
theorem J5:∀a b:Ls,PyData.eqvAll (dU (aq a)) (dU (aq b))=decide (a=b)
 |[],[]=>rfl
 |[],y::b=>rfl
 |x::a,[]=>rfl
 |x::a,y::b=>by
  show(Hz (.str x) (.str y)&&PyData.eqvAll (dU (aq a)) (dU (aq b)))=_;rw[J5 a b,show Hz (.str x) (.str y)=decide (x=y) from rfl,←Bool.decide_and];exact decide_eq_decide.mpr ⟨fun h=>h.1▸h.2▸rfl,fun h=>List.cons.inj h⟩
theorem Mj(a b:Ls):cD .Eq (.list (aq a)) (.list (aq b)) (decide (a=b)):=by
 have h:∀l,FD 2 (.list (aq l)):=fun l=>Sj (mD (fun U=>fJ) l);have:=ip (h a).1 (h b).1 (le_trans (Nat.min_le_left _ _) (CB (m:=60) (h a) rfl).2)
 rwa [show Hz (.list (aq a)) (.list (aq b))=decide (a=b) from J5 a b]at this
abbrev wd(ts:Lk):Ls:=ts.map Tk.str
section
variable {k:Tk}(hc:k.const=true)
include hc
theorem Ea{ts:Lk}(h:dE ts){t:Tk}(ht:t∈ts):(t.str=k.str)=(t=k):=propext (qk (h t ht) hc)
theorem J6{ts:Lk}(h:dE ts):(k.str∈wd ts)=(k∈ts):=propext ⟨fun z=>by
 obtain⟨t,ht,e⟩:=mem_map.mp z;exact(Ea hc h ht).mp e▸ht,fun z=>mem_map_of_mem z⟩
theorem Mk:∀{ts:Lk},dE ts→(wd ts).count k.str=ts.count k:=by
 intro rv;induction rv with
 |nil=>exact fun o=>rfl
 |cons t ts ih=>
  intro h;refine ER (show wd (t::ts)=t.str::wd ts from rfl) (ER count_cons (ER count_cons (ER (ih fun x hx=>h x (.tail _ hx)) ?_)));simp only[beq_iff_eq,Ea hc h (.head _)]
theorem str_idx:∀{ts:Lk},dE ts→(wd ts).idxOf k.str=ts.idxOf k:=by
 intro rv;induction rv with
 |nil=>exact fun o=>rfl
 |cons t ts ih=>
  intro h;refine ER (show wd (t::ts)=t.str::wd ts from rfl ..) (ER (idxOf_cons ..) (ER (idxOf_cons ..) (ER (ih fun x hx=>h x (.tail _ hx) ..) (ER (cond_eq_ite ..) (ER (cond_eq_ite ..) ?_)))));simp only[beq_iff_eq,Ea hc h (.head _)]
end
noncomputable def eO:Nat→Lk→List Int
 |_,[]=>[]
 |k,t::r=>if tO t then(k:Int)::eO (k+1) r else eO (k+1) r
theorem x8(k:Nat)(t:Tk)(r:Lk):eO k (t::r)=if tO t then(k:Int)::eO (k+1) r else eO (k+1) r:=rfl
theorem Ml:∀(r:Lk) (k:Nat),(eO k r).length≤r.length:=by
 intro rv;induction rv with
 |nil=>exact fun o=>le_refl _
 |cons t r ih=>
  intro k;have:=ih (k+1);show(if tO t then(k:Int)::eO (k+1) r else eO (k+1) r).length≤_;refine iT (fun _=>?_) fun _=>?_
  ·exact succ_le_succ this
  ·exact Nat.le_succ_of_le this
theorem IP:∀(r:Lk) (k:Nat),(bP r=[]∧eO k r=[])∨∃a,r=a++bP r∧bP r≠[]∧((k+a.length:Nat):Int)∈eO k r∧∀x∈eO k r,x≤((k+a.length:Nat):Int):=by
 intro rv;induction rv with
 |nil=>exact fun o=>.inl ⟨rfl,rfl⟩
 |cons t r ih=>
  intro k;refine ER (x8 ..) (ER (fV ..) ?_);rcases ih (k+1)with ⟨e1,e2⟩|⟨a,e1,h1,h2,h3⟩
  ·refine ER e1 (ER e2 ?_);cases tO t with
   |true=>exact .inr ⟨[],rfl,cons_ne_nil _ _,.head _,fun x hx=>by refine ER (mem_singleton.mp hx) ?_;exact le_refl _⟩
   |false=>exact .inl ⟨rfl,rfl⟩
  ·have el:k+(t::a).length=k+1+a.length:=by rw[length_cons];simp+arith [*]
   refine ER (if_neg (show ¬(bP r).isEmpty=true from fun z=>h1 (isEmpty_iff.mp z))) ?_;refine .inr ⟨t::a,congrArg (t:: ·) e1,h1,?_,?_⟩<;>refine ER el ?_
   ·refine iT (fun _=>?_) fun _=>?_
    ·exact .tail _ h2
    ·exact h2
   ·refine iT (fun _=>?_) fun _=>?_
    ·exact fun x hx=>(mem_cons.mp hx).elim (fun e=>by rw[e];omega) (h3 x)
    ·exact h3
theorem Vq{t:Tk}(h:A3 t=true):decide (t.str∈(["sub","pos"]:Ls))=tO t:=by
 have h2:=qk (c:=.kw .pos) h rfl
 unfold tO;refine EL (Bool.decide_or ..) ?_;refine decide_eq_decide.mpr ?_;rw[mem_cons,mem_singleton];exact or_congr (qk (c:=.kw .sub) h rfl) h2
theorem ints_map:∀l:List Int,intsOf (l.map P.int)=some l:=by
 intro rv;induction rv with
 |nil=>exact rfl
 |cons a l ih=>exact congrArg (Option.map (a:: ·)) ih
theorem PG{q:Lk}{n:Nat}(h:(n:Int)∈eO 0 q)(h2:∀x∈eO 0 q,x≤(n:Int)):Qv (-1::eO 0 q)=(n:Int):=
 Jh (.tail _ h) fun x hx=>(mem_cons.mp hx).elim (fun e=>by rw[e];simp+arith [*]) (h2 x)
theorem G2:∀(q:Lk),Tk.sg .lb∈q→(l9 q).length+q.idxOf (.sg .lb)=q.length:=by
 intro rv;induction rv with
 |nil=>intros;contradiction
 |cons t r ih=>
  intro h;show(if decide (t= .sg .lb)then t::r else l9 r).length+_=_;by_cases e:t= .sg .lb
  ·subst e;refine ER (if_pos (decide_eq_true rfl)) (ER List.idxOf_cons_self ?_);rfl
  ·have ih:=ih ((mem_cons.mp h).resolve_left fun z=>e z.symm);refine ER (if_neg fun z=>e (of_decide_eq_true z) ..) (ER (idxOf_cons ..) (ER (cond_eq_ite ..) (ER (if_neg (by simpa using e) ..) (ER (length_cons ..) ?_))));simp+arith [*]
theorem Eb{T:Lk}{n:Nat}:(aq (wd T)).take n=aq (wd (T.take n)):=by
 show((T.map Tk.str).map P.str).take n=((T.take n).map Tk.str).map P.str;exact ER map_take (ER map_take rfl)
theorem Ec{T:Lk}{n:Nat}:(aq (wd T)).drop n=aq (wd (T.drop n)):=by
 show((T.map Tk.str).map P.str).drop n=((T.drop n).map Tk.str).map P.str;exact ER map_drop (ER map_drop rfl)
section
variable {σ:LM}{E:ME}{Q:MQ V}{ts:Lk}
theorem AK{l:Ls}{n:Nat}(h:l.length≤n)(hn:Nat.ble n 1000000=true):(aq l).length≤bL:=by rw[bc];exact le_trans h (le_trans (Nat.le_of_ble_eq_true hn) (bl rfl))
theorem ju(h:ts.length≤1000):(aq (wd ts)).length≤bL:=AK (by rw[length_map];exact h) rfl
theorem PH{k0:Nat}{all:Lp}{Q:MQ (Lp)}:∀(r:Lk) (k:Nat) (t:ai) (acc:List Int),dE r→acc.length+r.length≤1000→(t=[]∨∃u v,t=[(43,u),(17,v)])→Q ((acc++eO k r).map P.int) σ→cQ k0 all none (.many [43,17]) (au (aQ .In (aa 17) (aa 73))) (aa 43) (A7 k (aq (wd r))) ((73,.p (.list (aq ["sub","pos"])))::t) (acc.map P.int) σ Q E:=by
 intro r;induction r with
 |nil=>exact fun k t acc U U U q=>⟨aA,by rwa [show acc++eO k []=acc from append_nil _]at q⟩
 |cons c r ih=>
  intro k t acc ho hl ht q;rw[length_cons]at hl;have go:=fun acc' h q=>ih (k+1) [(43,.p (.int (k:Nat))),(17,.p (.str c.str))] acc' (fun x hx=>ho x (.tail _ hx)) h (.inr ⟨_,_,rfl⟩) q;refine .mk aA ((73,.p (.list (aq ["sub","pos"])))::[(43,.p (.int k)),(17,.p (.str c.str))]) (by rcases ht with rfl|⟨u,v,rfl⟩<;>rfl) (aF.pp (Dw ["sub","pos"] c.str) ?_);refine ER (Vq (ho c (.head _))) ?_;rw[x8]at q;refine aT.mk (fun e=>.mk _ _ (.one (.p _)) (by rw[length_map];exact le_trans (by omega) (bl rfl:1000≤bL)) ?_) fun e=>go acc (by omega) (by rwa [if_neg (nt e)]at q);have:=go (acc++[(k:Int)]) (by refine ER length_append (ER length_singleton ?_);omega) (by rw[if_pos e]at q;rwa [append_assoc])
  rwa [map_append]at this
theorem Vr(ho:dE ts)(hl:ts.length≤1000)(q:Q (.p (.list ((eO 0 ts).map P.int))) σ):Run pL [.p (.list (aq (wd ts))),.p (.list (aq ["sub","pos"]))] σ Q E:=
 ⟨.mk _ (.inl rfl) (ju hl) ⟨PH ts 0 [] [] ho (by rw[length_nil];simp+arith [*]) (.inl rfl) (dc q)⟩⟩
end
noncomputable def fb(K:Ls):Bool→Bool→Lk→Option Nat
 |_,_,[]=>none
 |u,c,t::r=>if u&&!decide (t.str∈K)then some (r.length+1)else fb K (decide (t= .kw .lookup)&&!c) (decide (t= .sg .rc)) r
inductive Sc:Nat→Lk→List eQ→Prop
 |nil {k:Nat}:Sc k [] []
 |skip {k:Nat} {t:Tk} {r:Lk} {us:List eQ} (h:decide (t= .kw .lookup)=false) (h2:decide (t= .sg .rc)=false) (z:Sc k r us):Sc k (t::r) us
 |use {k:Nat} {n:Str} {r:Lk} {us:List eQ} (h:o7 n=true) (z:Sc k r us):Sc k (.kw .lookup:: .nm n::r) ((n,r.length+1+k)::us)
theorem Sc.app{k:Nat}{a b:Lk}{us vs:List eQ}(h:Sc (b.length+k) a us)(h2:Sc k b vs):Sc k (a++b) (us++vs):=by
 induction h with
 |nil=>exact h2
 |skip h1 h3 _ ih=>exact .skip h1 h3 ih
 |@use n r us h1 _ ih=>
  have:=Sc.use h1 ih
  rw[length_append]at this
  rwa [show r.length+b.length+1+k=r.length+1+(b.length+k) by omega]at this
theorem tS{L:List LB}:∀a b:List eQ,cW L (a++b)=(cW L a).or (cW L b):=by
 intro rv;induction rv with
 |nil=>exact fun b=>rfl
 |cons u a ih=>
  intro b;show(if _ then cW L (a++b)else _)=Option.or (if _ then _ else _) _;refine ER (ih b) ?_;split<;>rfl
theorem Sc.fb{L:List LB}{k:Nat}{a b:Lk}{us:List eQ}(h:Sc k a us)(hb:b.length=k):fb (names L) false false (a++b)=(cW L us).or (fb (names L) false false b):=by
 induction h with
 |nil=>rfl
 |skip h1 h2 _ ih=>
  show Internal.fb _ (_&&!false) _ _=_;refine ER h1 (ER h2 ?_);exact ih
 |@use n r us h1 _ ih=>
  show(if !decide (n∈names L)then some ((r++b).length+1)else Internal.fb (names L) false false (r++b))=Option.or (if decide (wy n∈names L)then cW L us else some (r.length+1+k)) _;refine ER (DU h1) ?_;cases decide (n∈names L)with
  |true=>exact ih
  |false=>refine ER (length_append ..) (ER (hb ..) (ER (add_right_comm ..) ?_));rfl
theorem Sc.PI{k:Nat}:∀{a:Lk},a.all (fun t=> !decide (t= .kw .lookup)&&!decide (t= .sg .rc))=true→Sc k a []:=by
 intro rv;induction rv with
 |nil=>exact fun o=>.nil
 |cons t a ih=>
  intro h;obtain⟨h1,h2⟩:=and_eq_true_iff.mp h;obtain⟨h3,h4⟩:=and_eq_true_iff.mp h1;exact .skip (by rwa [not_eq_true']at h3) (by rwa [not_eq_true']at h4) (ih h2)
theorem XD{k:Nat}:∀{ls:Ls},(∀n∈ls,o7 n=true)→Sc k (pj ls) (U9 k ls):=by
 intro rv;induction rv with
 |nil=>exact fun o=>.nil
 |cons n ls ih=>exact fun h=>.use (h n (.head _)) (ih fun m hm=>h m (.tail _ hm))
theorem Vs{k:Nat}:∀{l:List IT},(∀x∈l,∀ls,x.2=some ls→∀n∈ls,o7 n=true)→Sc k (bT l) ((eL k l).flatMap (·.lk)):=by
 intro rv;induction rv with
 |nil=>exact fun o=>.nil
 |cons xx l ih=>
  obtain⟨g,m⟩:=xx;intro h;refine Sc.app ?_ (ih fun x hx=>h x (.tail _ hx));have s:∀{k},Sc k (cJ g) []:=.PI (by
   unfold cJ;refine iT (fun _=>?_) fun _=>?_
   ·exact gr (fun U=>rfl) g
   ·show(ee g++[Tk.sg .rb]).all _=true;rw[all_append,gr fun U=>rfl];rfl)
  refine Sc.app s ?_;induction m with
  |none=>exact .nil
  |some ls=>exact .skip rfl rfl (XD (h _ (.head _) ls rfl))
theorem Vt{k:Nat}{x:LR}(h:eX x):Sc k (bF x) (An k x):=by
 have kw:decide (Tk.kw (d7 x)= .kw .lookup)=false∧decide (Tk.kw (d7 x)= .sg .rc)=false:=by rcases Iz x with e|e<;>refine ER e ?_<;>exact⟨rfl,rfl⟩
 refine .skip kw.1 kw.2 ?_;generalize hc:cY x=gg;induction gg with
 |true=>
  obtain⟨p,back,ins,ahead,rfl⟩:=vC hc;have:Sc (k+1) (bT (fH back ins ahead)) ((eL (k+1) (fH back ins ahead)).flatMap (·.lk)):=Vs fun x hx ls e=>by
   rcases mem_append.mp hx with hx|hx
   ·obtain⟨g,hg,rfl⟩:=mem_map.mp hx;contradiction
   rcases mem_append.mp hx with hx|hx
   ·obtain⟨y,hy,rfl⟩:=mem_map.mp hx;injection e with e;subst e;exact(h.2.1 y hy).2
   ·obtain⟨g,hg,rfl⟩:=mem_map.mp hx;contradiction
  rw[add_comm]at this;have:=Sc.app (b:=[Tk.sg .semi]) (vs:=[]) this (.skip rfl rfl .nil)
  rwa [append_nil,add_comm]at this
 |false=>
  refine ER ((by cases x<;>first|rfl|contradiction):An k x=[]) ?_;refine .PI ?_;refine EL (append_assoc ..) (ER (all_append ..) ?_);refine and_eq_true_iff.mpr ⟨?_,rfl⟩;generalize ha:O6 x=gg;induction gg with
  |true=>
   cases x with
   |b6 a l=>
    show(_&&(_&&(ee l++[Tk.sg .rb]).all _))=true;rw[all_append,gr fun U=>rfl];rfl
   |_=>exact Bool.noConfusion ha
  |false=>exact rk (fun U=>rfl) (fun U=>rfl) rfl (by refine ER hc (ER ha ?_);exact fun z=>Bool.noConfusion z)
theorem Sm{k:Nat}:∀{rows:List LR},(∀x∈rows,eX x)→Sc k (aR rows) (gm k rows):=by
 intro rv;induction rv with
 |nil=>exact fun o=>.nil
 |cons x rows ih=>exact fun h=>.app (Vt (h x (.head _))) (ih fun y hy=>h y (.tail _ hy))
theorem Vu{L:List LB}{aY:List LL}{b:Lk}(h:∀l∈aY,nF l):fb (names L) false true (bz aY++b)=(cW L (iJ b.length aY)).or (fb (names L) false true b):=by
 induction aY with
 |nil=>rfl
 |cons l aY ih=>
  have ih:=ih fun x hx=>h x (.tail _ hx)
  have sc:Sc (1+((bz aY).length+b.length)) (fg l.flag++[.sg .lc]++aR l.rows) (gm (1+((bz aY).length+b.length)) l.rows):=Sc.app (us:=[]) (.PI (by unfold fg;refine iT (fun _=>?_) fun _=>?_<;>rfl)) (Sm (h l (.head _)).rows);refine ER ((by simp[bz,wH,gF,c7]):bz (l::aY)++b= .kw .lookup:: .nm l.name::(fg l.flag++[.sg .lc]++aR l.rows++ .sg .rc::(bz aY++b))) ?_;show fb (names L) false false (_++_)=(cW L (_++iJ b.length aY)).or _;refine ER (sc.fb (by rw[length_cons,length_append];omega) ..) (ER (tS ..) (ER (Option.or_assoc ..) (EL ih ?_)));rfl
theorem PJ{K:Ls}:∀{ts:Lk} {c:Bool},(ts.all fun t=> !decide (t= .kw .lookup))=true→fb K false c ts=none:=by
 intro rv;induction rv with
 |nil=>exact fun {U} U=>rfl
 |cons t ts ih=>
  intro c h;obtain⟨h1,h2⟩:=and_eq_true_iff.mp h;show fb K (decide (t= .kw .lookup)&&_) _ ts=none;refine ER ((by rwa [not_eq_true']at h1):decide (t= .kw .lookup)=false) ?_;exact ih h2
theorem Mm:∀fs:List FL,((bI fs).all fun t=> !decide (t= .kw .lookup))=true:=by
 intro rv;induction rv with
 |nil=>exact rfl
 |cons f fs ih=>
  have o:∀{k d w},decide (Tk.kw k= .kw .lookup)=false→(dQ k d w).all (fun t=> !decide (t= .kw .lookup))=true:=fun {k d w} h=>by
   unfold dQ;refine iT (fun _=>?_) fun _=>?_
   ·rfl
   ·show(!decide (Tk.kw k= .kw .lookup)&&true)=true;refine ER h ?_;rfl
  show(jt f++bI fs).all _=true;refine ER (all_append ..) (ER (ih ..) (ER (Bool.and_true ..) ?_));show(dQ _ _ _++(dQ _ _ _++Tk.sg .lc::(ee f.dw++[Tk.sg .rc]))).all _=true;rw[all_append,all_append,o rfl,o rfl,all_cons,all_append,gr fun U=>rfl];rfl
theorem IQ{aY:List LL}{fs:List FL}(h:D3 aY fs)(hu:∀f∈fs,∀n∈f.dw,n∈aY.map (·.name)):dD (bz aY++bI fs)=match fb (aY.map (·.name)) false true (bz aY++bI fs)with
  |some n=>.error n
  |none=>.ok (aY.map LL.lb,pg 0 fs):=by
 obtain⟨N,_,e⟩:=nG h.l h.f h.nd [];rw[append_nil]at e;have none_:cW (aY.map LL.lb) (mz 0 fs)=none:=qC fun u ZN=>by
  obtain⟨f,hf,hn⟩:=AI _ _ ZN;refine ER (DU ((h.f f hf).dw _ hn) ..) (ER (qD ..) ?_);exact hu f hf _ hn
 refine ER (e ..) (EL (qD ..) (ER (Vu h.l ..) (ER (PJ (Mm fs) ..) (ER (or_none ..) ?_))));show(match cW (aY.map LL.lb) (iJ (bI fs).length aY++mz 0 fs)with|some n=>Except.error n|none=>.ok (aY.map LL.lb,pg 0 fs))=_;exact ER (tS ..) (ER (none_ ..) (ER (or_none ..) rfl))
noncomputable def blocks(aY:List LL)(fs:List FL):List (List LL×List FL):=(List.range' 1 aY.length).map (fun c=>(aY.take c,[]))++(List.range' 1 fs.length).map (fun c=>(aY,fs.take c))
def eB(x:List LL×List FL):Lk:=bz x.1++bI x.2
def AL(x:List LL×List FL):P:=mf x.1 x.2
structure Part (x:List LL×List FL):Prop where
 ok:D3 x.1 x.2
 use:∀f∈x.2,∀n∈f.dw,n∈x.1.map (·.name)
 ts:dE (eB x)
 len:(eB x).length≤500
 cS:∀l∈x.1,l.rows.length≤2
 ll:x.1.length≤500
 fl:x.2.length≤500
 rc:∃a,eB x=a++[.sg .rc]
theorem wR{α:Type}{f:α→Lk}{c:Tk}(h:∀x,∃b,f x=b++[c]):∀{l:List α},l≠[]→∃b,l.flatMap f=b++[c]
 |[],z=>absurd rfl z
 |[x],_=>by
  obtain⟨b,e⟩:=h x;exact⟨b,ER (flatMap_cons ..) (ER (e ..) (ER (List.flatMap_nil ..) (ER (append_nil ..) rfl)))⟩
 |x::y::l,_=>by
  obtain⟨b,e⟩:=wR h (cons_ne_nil y l);exact⟨f x++b,ER (flatMap_cons ..) (ER (e ..) (ER (append_assoc ..) rfl))⟩
theorem J7{α:Type}{l:List α}{c:Nat}(h:c∈List.range' 1 l.length):l.take c≠[]:=fun z=>by
 have:=(List.mem_range'_1.mp h)
 rcases List.take_eq_nil_iff.mp z with e|e
 ·omega
 ·have this:=e▸this;exact absurd this.2 (by simp;omega)
theorem cF.part{aY:List LL}{fs:List FL}(h:cF aY fs){x:List LL×List FL}(hx:x∈blocks aY fs):Part x:=by
 have len:=h.len
 have key:∀{l f},l <+:aY→f <+:fs→(f=[]∨l=aY)→(∃a,bz l++bI f=a++[.sg .rc])→Part (l,f):=fun {l f} hl hf hor rc=>by
  obtain⟨l2,rfl⟩:=hl;obtain⟨f2,rfl⟩:=hf;have ts:=h.ts;have e1:bz (l++l2)=bz l++bz l2:=flatMap_append;have e2:bI (f++f2)=bI f++bI f2:=flatMap_append;rw[e1,e2]at ts len;simp only[length_append]at len;have a:=qA (f:=wH) (fun U=>succ_pos _) l;refine⟨⟨fun x hx=>h.Vl x (mem_append_left _ hx),fun x hx=>h.ok.f x (mem_append_left _ hx),?_⟩,fun x hx n hn=>?_,fun t ht=>?_,?_,fun x hx=>(h.look x (mem_append_left _ hx)).cS,?_,?_,rc⟩
  ·have:=h.ok.nd;rw[map_append]at this;exact(nodup_append.mp this).1
  ·rcases hor with rfl|e
   ·contradiction
   ·have:=(h.PB x (mem_append_left _ hx)).use n hn
    rwa [show l++l2=l from e.symm]at this
  ·refine ts t ?_;rcases mem_append.mp ht with ht|ht
   ·exact mem_append_left _ (mem_append_left _ ht)
   ·exact mem_append_right _ (mem_append_left _ ht)
  ·show(bz l++bI f).length≤500;rw[length_append];omega
  ·exact le_trans a (by unfold bz at len;omega)
  ·exact le_trans (qA (f:=jt) (fun U=>succ_pos _) f) (by unfold bI at len;omega)
 have lr:∀l:LL,∃b,wH l=b++[.sg .rc]:=fun l=>⟨.kw .lookup::(c7 l++aR l.rows),by simp[wH,gF]⟩;rcases mem_append.mp hx with hx|hx
 ·obtain⟨c,hc,rfl⟩:=mem_map.mp hx;refine key (take_prefix _ _) List.nil_prefix (.inl rfl) ?_;obtain⟨b,e⟩:=wR lr (J7 hc);exact⟨b,by refine ER (show bI []=[] from rfl ..) (ER (append_nil ..) ?_);exact e⟩
 ·obtain⟨c,hc,rfl⟩:=mem_map.mp hx;refine key (prefix_refl _) (take_prefix _ _) (.inr rfl) ?_;obtain⟨b,e⟩:=wR (fun f=>by obtain⟨b,e,_⟩:=JX (f:=f);exact⟨b,e⟩:∀f:FL,∃b,jt f=b++[.sg .rc]) (J7 hc);exact⟨bz aY++b,ER (show bI (fs.take c)=_ from e ..) (ER (append_assoc ..) rfl)⟩
theorem tT{l1 l2:List LL}{f1 f2:List FL}(h:f1=[]∨l2=[])(hn:bz l1++bI f1≠[]):(l1,f1)∈blocks (l1++l2) (f1++f2):=by
 by_cases e:f1=[]
 ·subst e;refine mem_append_left _ (mem_map.mpr ⟨l1.length,List.mem_range'_1.mpr ⟨?_,?_⟩,by rw[take_left]⟩)
  ·induction l1 with
   |nil=>exact absurd rfl hn
   |cons=>exact succ_pos _
  ·rw[length_append];simp+arith [*]
 ·have:=h.resolve_left e;subst this;refine mem_append_right _ (mem_map.mpr ⟨f1.length,List.mem_range'_1.mpr ⟨List.length_pos_iff.mpr e,?_⟩,ER (take_left ..) (ER (append_nil ..) rfl)⟩);rw[length_append];simp+arith [*]
theorem Part.tR{x:List LL×List FL}(h:Part x):o8 (eB x):=⟨h.ts,le_trans h.len (bl rfl)⟩
theorem G3{aY:List LL}{fs:List FL}{ts:Lk}(cS:∀l∈aY,l.rows.length≤2)(hl:aY.length≤500)(hf:fs.length≤500)(e:dD ts= .ok (aY.map LL.lb,pg 0 fs)):tN ts=mf aY fs:=by
 unfold tN;refine ER e ?_;have e1:∀l∈aY,U6 l.lb=l.p:=fun l hl=>by
  show P.tup [_,_,.tup ((qq (l.rows.map bw)).map fG)]=_;refine ER (q9 (by rw[length_map];exact le_trans (cS l hl) (bl rfl))) (ER map_map ?_);rfl
 show P.tup [.tup ((qq (aY.map LL.lb)).map U6),.tup ((qq (pg 0 fs)).map Yd)]=_;refine ER (q9 (by rw[length_map];exact le_trans hl (bl rfl))) (ER (q9 (by rw[Si];exact le_trans hf (bl rfl))) (ER XC (ER map_map (ER (show aY.map (U6 ∘ LL.lb)=aY.map LL.p from List.map_congr_left e1) ?_))));rfl
theorem Mn:∀(n a:Nat),gj (a:Int) n=(List.range' a n).map fun c:Nat=>P.int c:=by
 intro rv;induction rv with
 |zero=>exact fun o=>rfl
 |succ n ih=>exact fun a=>congrArg (P.int a:: ·) (ih (a+1))
section
variable {σ:LM}{E:ME}{Q:MQ V}{ts:Lk}
theorem J8{α:Type}{k0 y:Nat}{all:Lp}{cond:ai→M Bool}{elt:CV}{base:ai}{nK f:α→P}{g:α→Bool}(hy:∀v x,bx (base++[(y,v)]) y x=base++[(y,x)])(Xi:∀x,bx base y x=base++[(y,x)]){Q:MQ (Lp)}(xs:List α)
  (hc:∀x∈xs,∀K:MQ Bool,K (g x) σ→cond (base++[(y,.p (nK x))]) σ K E) (he:∀x∈xs,∀K:MQ V,K (.p (f x)) σ→elt (base++[(y,.p (nK x))]) σ K E):∀(acc:Lp) (t:ai),(t=[]∨∃v,t=[(y,v)])→acc.length+xs.length≤1000→Q (acc++(xs.filter g).map f) σ→cQ k0 all none (.one y) cond elt (xs.map nK) (base++t) acc σ Q E:=by
 induction xs with
 |nil=>exact fun acc t ht hl q=>⟨aA,by rwa [show(List.filter g []).map f=[] from rfl,append_nil]at q⟩
 |cons x xs ih=>
  intro acc t ht hl q;rw[length_cons]at hl;have ih:=fun acc' h q=>ih (fun x hx=>hc x (.tail _ hx)) (fun x hx=>he x (.tail _ hx)) acc' [(y,.p (nK x))] (.inr ⟨_,rfl⟩) h q;rw[filter_cons]at q;refine .mk aA (base++[(y,.p (nK x))]) (by rcases ht with rfl|⟨v,rfl⟩;exact congrArg some ((congrArg (bx · y _) (append_nil base)).trans (Xi _));exact congrArg some (hy _ _)) (hc x (.head _) _ (aT.mk (fun e=>he x (.head _) _ (.mk _ _ (.one (.p _)) (le_trans (by omega) (bl rfl:1000≤bL)) (ih _ (by refine ER length_append (ER length_singleton ?_);omega) (by rw[if_pos e]at q;rwa [append_assoc])))) fun e=>ih _ (by omega) (by rwa [if_neg (nt e)]at q)))
theorem AM{α:Type}{k0 y:Nat}{all:Lp}{elt:CV}{base:ai}{nK f:α→P}(hy:∀v x,bx (base++[(y,v)]) y x=base++[(y,x)])(Xi:∀x,bx base y x=base++[(y,x)]){Q:MQ (Lp)}(xs:List α)(hl:xs.length≤1000)(he:∀x∈xs,∀K:MQ V,K (.p (f x)) σ→elt (base++[(y,.p (nK x))]) σ K E)(q:Q (xs.map f) σ):cQ k0 all none (.one y) bV elt (xs.map nK) (base++[]) [] σ Q E:=
 J8 (g:=fun U=>true) hy Xi xs (fun U U U q=>q) he [] [] (.inl rfl) (by rw[length_nil];simp+arith [*]) (by rwa [filter_eq_self.mpr fun U U=>rfl])
theorem IS{pre r:Lk}{t:Tk}:(aq (wd (pre++t::r)))[pre.length]?=some (.str t.str):=by
 show(((pre++t::r).map Tk.str).map P.str)[pre.length]?=_;rw[List.getElem?_map,List.getElem?_map,List.getElem?_append_right (le_refl _),Nat.sub_self];rfl
theorem item_at{pre r:Lk}{t:Tk}{k:Int}(e:ts=pre++t::r)(hk:k=(pre.length:Nat))(hl:ts.length≤1000):b8 (.list (aq (wd ts))) k (.str t.str):=by
 subst hk e;rw[length_append]at hl;exact cE (k:=pre.length) IS (by grind only)
theorem AN{a:Lk}{t:Tk}(e:ts=a++[t]):b8 (.list (aq (wd ts))) (-1) (.str t.str):=by
 subst e;refine item_list (j:=a.length) rfl ?_ IS;refine ER (bc ..) (ER (length_map ..) (ER (length_append ..) (ER (length_singleton ..) ?_)));unfold seqIndex?;simp only[show(-1:Int)<0 by simp+arith [*],if_true];rw[if_pos (by simp;simp+arith)]
 congr 1;simp+arith
inductive Seen:Lk→Bool→Bool→Prop
 |nil:Seen [] false true
 |one (a:Tk):Seen [a] (decide (a= .kw .lookup)&&!true) (decide (a= .sg .rc))
 |two (p:Lk) (a b:Tk):Seen (p++[a]++[b]) (decide (b= .kw .lookup)&&!decide (a= .sg .rc)) (decide (b= .sg .rc))
theorem Seen.next{pre:Lk}{u c:Bool}(h:Seen pre u c)(t:Tk):Seen (pre++[t]) (decide (t= .kw .lookup)&&!c) (decide (t= .sg .rc)):=by
 induction h with
 |nil=>exact .one t
 |one a=>exact .two [] a t
 |two p a b=>exact .two (p++[a]) b t
theorem J9{k t:Tk}(hc:k.const=true)(h:A3 t=true):decide (t.str=k.str)=decide (t=k):=decide_eq_decide.mpr (qk h hc)
theorem rt{k t:Tk}(hc:k.const=true)(h:A3 t=true):cD .Eq (.str t.str) (.str k.str) (decide (t=k)):=J9 hc h▸b7 _ _
theorem x9{k t:Tk}(hc:k.const=true)(h:A3 t=true):cD .NotEq (.str t.str) (.str k.str) (!decide (t=k)):=J9 hc h▸eY _ _
def CC(v1:V)(ts:Lk)(v2 v3:V)(K:Ls)(t:ai):ai:=(51,v1)::(27,.p (.list (aq (wd ts))))::(75,v2)::(76,v3)::(77,.p (.list (aq K)))::t
theorem Mp{k0:Nat}{K:Ls}{all:Lp}{v1 v2 v3:V}{F:Option Nat}{Q:MQ Out}(ok:dE ts)(hl:ts.length≤1000)(rc:∃a,ts=a++[.sg .rc])(bad:∀n,F=some n→∀j:Nat,j≤ts.length→ts.length - j=n→∀{K:MQ V} {E:ME},K (.p (.bool true)) σ→Run aD [.p (.list (aq (wd ts))),.p (.int (j:Int))] σ K E)(yes:∀n,F=some n→Q (.ret (.p (.bool true))) σ):
  ∀(bX pre:Lk) (u c:Bool) (t:ai),ts=pre++bX→Seen pre u c→fb K u c bX=F→(t=[]∨∃v w,t=[(43,v),(78,w)])→
  (F=none→∀t,Q (.next (CC v1 ts v2 v3 K (t))) σ)→
  bU all none (.one 43) (bE k0) (gj (pre.length:Nat) bX.length) (CC v1 ts v2 v3 K (t)) σ Q E:=by
 intro bX;induction bX with
 |nil=>exact fun pre u c t e hs hf ht q=>⟨aA,q hf.symm t⟩
 |cons x bX ih=>
  intro pre u c t e hs hf ht q;have ox:∀{p s:Lk} {y:Tk},ts=p++y::s→A3 y=true:=fun e=>ok _ (by refine ER e ?_;exact mem_append_right _ (.head _));have el:pre.length+(bX.length+1)=ts.length:=ER e (ER length_append (ER length_cons rfl));have next:(u&&!decide (x.str∈K))=false→∀w,bU all none (.one 43) (bE k0) (gj ((pre.length:Int)+1) bX.length) (CC v1 ts v2 v3 K ([(43,.p (.int (pre.length:Nat))),(78,w)])) σ Q E:=fun h w=>by
   have:=ih (pre++[x]) _ _ [(43,.p (.int (pre.length:Nat))),(78,w)] (by refine ER (e ..) (ER (append_assoc ..) ?_);rfl) (hs.next x) ((by refine EL hf ?_;exact(if_neg (nt h)).symm):fb K (decide (x= .kw .lookup)&&!c) (decide (x= .sg .rc)) bX=F) (.inr ⟨_,_,rfl⟩) q
   rwa [length_append]at this
  have cont:∀{E':ME},gA k0 (CC v1 ts v2 v3 K ([(43,.p (.int (pre.length:Nat))),(78,.p (.bool u))])) σ (cB (bU all none (.one 43) (bE k0) (gj ((pre.length:Int)+1) bX.length)) Q E) E:=fun {E'}=>
   aT.mk (fun hu=>aW.pp (item_at e rfl hl) (aF.pp (Dy K x.str) (aT.mk (fun hx=>by
    have:F=some (bX.length+1):=hf.symm.trans (if_pos (by refine ER hu (ER hx ?_);rfl));exact bad _ this pre.length (by omega) (by omega) (yes _ this)) fun hx=>next (ER (hx ..) (ER (Bool.and_false ..) rfl)) _))) fun hu=>aT.mk (fun z=>Bool.noConfusion z) fun U=>next (by rw[hu];rfl) _
  have fin:∀z:Bool,z=u→gA k0 (CC v1 ts v2 v3 K ([(43,.p (.int (pre.length:Nat))),(78,.p (.bool z))])) σ (cB (bU all none (.one 43) (bE k0) (gj ((pre.length:Int)+1) bX.length)) Q E) E:=fun z e=>e▸cont (E':=E);have body:∀t,(t=[]∨∃w,t=[(78,w)])→bE k0 (CC v1 ts v2 v3 K ((43,.p (.int (pre.length:Nat)))::t)) σ (cB (bU all none (.one 43) (bE k0) (gj ((pre.length:Int)+1) bX.length)) Q E) E:=fun t ht=>by
   induction hs with
   |nil=>
    obtain⟨a,ea⟩:=rc;rcases ht with rfl|⟨w,rfl⟩<;>
    exact aU.pp sub_int (aW.pp (AN ea) (aF.pp (rt (k:=.kw .lookup) rfl rfl) (aT.mk (fun z=>Bool.noConfusion z) fun U=>fin _ rfl)))
   |one a=>
    rcases ht with rfl|⟨w,rfl⟩<;>
    exact aU.pp sub_int (aW.pp (item_at (pre:=[]) e rfl hl) (aF.pp (rt (k:=.kw .lookup) rfl (ox (p:=[]) e)) (aT.mk (fun U=>aF.pp cmp_gt (aT.mk (fun z=>Bool.noConfusion z) fun U=>fin _ (Bool.and_false _).symm)) fun h=>fin _ (h.trans (Bool.and_false _).symm))))
   |two p a b=>
    have e1:ts=(p++[a])++b::x::bX:=by refine ER (e ..) (ER (append_assoc ..) ?_);rfl
    have e2:ts=p++a::b::x::bX:=by refine ER (e1 ..) (ER (append_assoc ..) ?_);rfl
    have l1:((p++[a]++[b]).length:Int) - 1=((p++[a]).length:Nat):=by refine ER (length_append (bs:=[b])) (ER length_singleton ?_);simp+arith [*]
    have l2:((p++[a]++[b]).length:Int) - 2=(p.length:Nat):=by rw[length_append,length_append,length_singleton,length_singleton];simp+arith [*]
    rcases ht with rfl|⟨w,rfl⟩<;>
    exact aU.pp sub_int (aW.pp (item_at e1 l1 hl) (aF.pp (rt (k:=.kw .lookup) rfl (ox e1)) (aT.mk (fun h=>aF.pp cmp_gt (aT.mk (fun U=>aU.pp sub_int (aW.pp (item_at e2 l2 hl) (aF.pp (x9 (k:=.sg .rc) rfl (ox e2)) (fin _ (by refine ER h ?_;rfl)))))
     fun z=>absurd (of_decide_eq_false z) (by refine ER length_append (ER length_append ?_);simp only[length_singleton];omega))) fun h=>fin _ (by refine ER h ?_;rfl))))
  rcases ht with rfl|⟨v,w,rfl⟩
  ·exact .mk aA _ rfl (body [] (.inl rfl))
  ·exact .mk aA _ rfl (body [(78,w)] (.inr ⟨_,rfl⟩))
end
section
variable {σ:LM}{E:ME}{Q:MQ V}{ts:Lk}{aY:List LL}{fs:List FL}
theorem cF.many(h:cF aY fs):aY.length≤500∧fs.length≤500:=by
 have a:=qA (f:=wH) (fun U=>succ_pos _) aY
 have b:=h.len
 unfold bz at b;rw[length_append]at b;exact⟨by omega,le_trans h.cS (bl rfl)⟩
theorem Part.words{x:List LL×List FL}(h:Part x){Q:MQ V}(q:Q (.p (.list (aq (wd (eB x))))) σ):Run gM [.p (AL x),.p (.bool false)] σ Q E:=
 L4 (fun l hl=>⟨(h.ok.l l hl).rows,(h.ok.l l hl).flag⟩) (le_trans h.len (bl rfl)) q
theorem Vw(h:cF aY fs){x:List LL×List FL}(hx:x∈blocks aY fs)(q:Q (.p (.bool true)) σ):Run iB [.p (mf aY fs),.p (.list (aq (wd (eB x))))] σ Q E:=by
 obtain⟨n1,n2⟩:=h.many;have cS:(blocks aY fs).length≤1000:=by unfold blocks;refine ER (length_append ..) (ER (length_map ..) (ER (length_map ..) (ER (List.length_range' ..) (ER (List.length_range' ..) ?_))));omega
 have fit:∀{n:Nat},n≤500→ir ((n:Int)+1)=true:=fun {n} hn=>cg (k:=n+1) (le_trans (add_le_add_right (by assumption) _) (bl rfl));have lim:∀{α:Type} {f:α→P} {l:List α},l.length≤500→(l.map f).length≤bL:=fun h=>by rw[length_map];exact le_trans h (bl rfl)
 have rest:∀y,y∈blocks aY fs→wd (eB y)=wd (eB x)→∀{v:V},(ae (aN 77 (cV σ.length (fM (aL (aa 76) (cP (.int 0)))) (.one 71) [] bV (aL (aa 71) (cP (.int 0))))) (ae (iS (cX (cT .len (aa 27))) (.one 43) (bE σ.length)) (eH σ.length))) [(51,.p (mf aY fs)),(27,.p (.list (aq (wd (eB x))))),(75,v),(76,.p (AL y))] σ (fun o ah=>cz σ.length ah o Q) (back σ.length E):=fun y hy ey v=>by
  have p:=h.part hy
  have l3:(eB y).length≤1000:=le_trans p.len (bl rfl);refine EL ey ?_;refine aW.pp vB (.mk _ (.tup _) (lim p.ll) ⟨AM (nK:=LL.p) (f:=fun l=>P.str l.name) (base:=[]) (fun U U=>rfl) (fun U=>rfl) y.1 (by have:=p.ll;exact le_trans (by assumption) (bl rfl)) (fun l U K q=>aW.pp (aO (k:=0) rfl (zero_le _)) q) ?_⟩);have en:y.1.map (fun l=>P.str l.name)=aq (y.1.map (·.name)):=by unfold aq;refine ER map_map ?_;rfl
  refine ER en ?_;have el:(aq (wd (eB y))).length=(eB y).length:=ER (bc ..) (ER (length_map ..) rfl);refine dC.pp (len_list (ju l3)) (Hr.mk _ rfl (by refine ER el ?_;exact cg (le_trans (by assumption) (bl rfl))) (by rw[toNat_natCast];exact ju l3) ⟨?_⟩);show bU (gj 0 ((aq (wd (eB y))).length:Int).toNat) none (.one 43) _ (gj 0 ((aq (wd (eB y))).length:Int).toNat) _ _ _ _;refine ER (toNat_natCast ..) (ER (el ..) ?_);have pr:dD (eB y)=match fb (y.1.map (·.name)) false true (eB y)with|some n=>.error n|none=>.ok (y.1.map LL.lb,pg 0 y.2):=IQ p.ok p.use
  refine Mp (Q:=cB (eH σ.length) (fun o ah=>cz σ.length ah o Q) (back σ.length E)) (K:=y.1.map (·.name)) (F:=fb (y.1.map (·.name)) false true (eB y)) p.ts l3 p.rc (fun n hn j hj en {K E} q=>rh p.tR hj (by refine ER en ?_;rw[hn]at pr;exact pr) q) (fun n U=>dc q) (eB y) [] false true [] rfl .nil rfl (.inl rfl) fun hn t=>Io p.tR ?_;refine ER (G3 p.cS p.ll p.fl (by rw[hn]at pr;exact pr)) ?_;exact aF.pp (PE (J4 _ _) rfl) (dc q)
 have last:∀{l:Lp},l=(blocks aY fs).map AL→(ae (aN 76 (aL (cV σ.length (fM (aa 75)) (.one 26) [27] (au (aQ .Eq (ay gM [(aa 26),(cP (.bool false))]) (aa 27))) (aa 26)) (cP (.int 0)))) (ae (aN 77 (cV σ.length (fM (aL (aa 76) (cP (.int 0)))) (.one 71) [] bV (aL (aa 71) (cP (.int 0))))) (ae (iS (cX (cT .len (aa 27))) (.one 43) (bE σ.length)) (eH σ.length)))) [(51,.p (mf aY fs)),(27,.p (.list (aq (wd (eB x))))),(75,.p (.list l))] σ (fun o ah=>cz σ.length ah o Q) (back σ.length E):=fun {l} e=>by
  subst e;refine .mk _ (.list _) (by refine ER (length_map ..) ?_;exact le_trans cS (bl rfl)) ⟨J8 (nK:=AL) (f:=AL) (g:=fun y=>decide (wd (eB y)=wd (eB x))) (base:=[(27,.p (.list (aq (wd (eB x)))))]) (fun U U=>rfl) (fun U=>rfl) _ (fun y hy K q=>(h.part hy).words (aF.pp (Mj _ _) q)) (fun y hy K q=>q) [] [] (.inl rfl) (by refine ER length_nil ?_;simp+arith [*]) ?_⟩;generalize e:(blocks aY fs).filter (fun y=>decide (wd (eB y)=wd (eB x)))=gg;induction gg with
  |nil=>exact absurd (decide_eq_true rfl) (List.filter_eq_nil_iff.mp e x hx)
  |cons y l=>
   have hy:=List.mem_filter.mp (e▸List.mem_cons_self:y∈(blocks aY fs).filter fun y=>decide (wd (eB y)=wd (eB x)))
   exact aW.pp JE (rest y hy.1 (of_decide_eq_true hy.2))
 have range:∀n:Nat,gj 1 ((n:Int)+1 - 1).toNat=(List.range' 1 n).map fun c:Nat=>P.int c:=fun n=>by refine ER (Int.add_sub_cancel ..) (ER (toNat_natCast ..) ?_);exact Mn n 1
 refine⟨aW.pp vB (dC.pp (jL (lim n1)) (aU.pp add_int (WA.mk _ _ rfl rfl rfl (by refine ER (length_map ..) ?_;exact fit n1) (by refine ER (length_map ..) (ER (Int.add_sub_cancel ..) (ER (toNat_natCast ..) ?_));exact le_trans n1 (bl rfl)) ⟨?_⟩)))⟩;show cQ σ.length (gj 1 (((aY.map LL.p).length:Int)+1 - 1).toNat) none (.one 79) _ _ (gj 1 (((aY.map LL.p).length:Int)+1 - 1).toNat) _ _ _ _ _;refine ER (length_map ..) (ER (range ..) ?_);have take:∀{α:Type} {f:α→P} {l:List α} {c:Nat},l.length≤500→jW (.tup (l.map f)) none (some (c:Int)) (.tup ((l.take c).map f)):=fun h=>by refine ER map_take ?_;exact Ie (lim h)
 have hr:∀n:Nat,(List.range' 1 n).length=n:=fun n=>List.length_range';refine AM (nK:=fun c:Nat=>P.int c) (f:=fun c=>AL (aY.take c,[])) (base:=[(51,.p (mf aY fs))]) (fun U U=>rfl) (fun U=>rfl) _ (by rw[hr];exact le_trans (by assumption) (bl rfl)) (fun c U K q=>aW.pp vB (jK.mk _ _ _ _ rfl rfl rfl (take n1) (dC.pp BJ (az.p0 (az.p2 q))))) ?_;refine aW.pp AG (dC.pp (jL (lim (le_trans n2 (bl rfl)))) (aU.pp add_int (WA.mk _ _ rfl rfl rfl (by refine ER (length_map ..) ?_;exact fit n2) (by refine ER (length_map ..) (ER (Int.add_sub_cancel ..) (ER (toNat_natCast ..) ?_));exact le_trans n2 (bl rfl)) ⟨?_⟩)));show cQ σ.length (gj 1 (((fs.map FL.p).length:Int)+1 - 1).toNat) none (.one 79) _ _ (gj 1 (((fs.map FL.p).length:Int)+1 - 1).toNat) _ _ _ _ _;refine ER (length_map ..) (ER (range ..) ?_);refine AM (nK:=fun c:Nat=>P.int c) (f:=fun c=>AL (aY,fs.take c)) (base:=[(51,.p (mf aY fs))]) (fun U U=>rfl) (fun U=>rfl) _ (by rw[hr];exact le_trans (by assumption) (bl rfl)) (fun c U K q=>aW.pp vB (aW.pp AG (jK.mk _ _ _ _ rfl rfl rfl (take n2) (dC.pp BJ (az.p2 q))))) ?_;refine aU.pp (add_list (by refine ER (length_map ..) (ER (length_map ..) (ER (hr ..) (ER (hr ..) ?_)));exact le_trans (by omega) (bl rfl:1000≤bL))) (last ?_);unfold blocks;refine ER map_append (ER map_map (ER map_map ?_));rfl
end
section
variable {σ aj:LM}{E:ME}{Q:MQ V}{k k0:Nat}{aY:List LL}{fs:List FL}{p q a:Lk}
theorem Ka{k:Tk}(hc:k.const=true)(h:dE p):decide (k.str∈wd p)=decide (k∈p):=decide_eq_decide.mpr (iff_of_eq (J6 hc h))
theorem PK{k:Tk}(hc:k.const=true)(h:dE p):cD .In (.str k.str) (.list (aq (wd p))) (decide (k∈p)):=Ka hc h▸Dw (wd p) k.str
theorem AO{k:Tk}(hc:k.const=true)(h:dE p):cD .NotIn (.str k.str) (.list (aq (wd p))) (!decide (k∈p)):=Ka hc h▸Dy (wd p) k.str
theorem PL{k:Tk}{K:MQ V}(hc:k.const=true)(h:dE p)(q:K (.p (.int (p.count k:Nat))) σ):Nd (.p (.list (aq (wd p)))) (.p (.str k.str)) σ K .count:=.count _ _ _ rfl rfl (yN _) (by refine ER (Mk hc h) ?_;exact q)
theorem PM{k:Tk}{K:MQ V}(hc:k.const=true)(h:dE p)(hm:k∈p)(hl:p.length≤1000)(q:K (.p (.int (p.idxOf k:Nat))) σ):Nd (.p (.list (aq (wd p)))) (.p (.str k.str)) σ K .index:=.index _ _ _ rfl rfl (yN _) (by rw[J6 hc h];exact hm) (by rw[length_map];exact le_trans hl (bl rfl)) (by refine ER (str_idx hc h) ?_;exact q)
theorem yP:∀{p:Lk},p≠[]→∃b c,p=b++[c]
 |p,h=>⟨p.dropLast,p.getLast h,(List.dropLast_concat_getLast h).symm⟩
theorem PN(tR:o8 q)(hr:dD q= .error (cutAt q).length)(h:cutAt q=[])(fin:Q (.p (.bool true)) σ):Run aD [.p (.list (aq (wd q))),.p (.int (q.length:Nat))] σ Q E:=
 rh tR (le_refl _) (by refine ER (hr ..) (ER (h ..) (ER (Nat.sub_self ..) ?_));rfl) fin
def XE(v1 v2 v3 v4:V)(q p:Lk)(n:Nat):ai:=[(53,v1),(12,v2),(51,v3),(70,v4),(27,.p (.list (aq (wd q)))),(49,.p (.int n)),(80,.p (.list (aq (wd p))))]
theorem Vx{v1 v2 v3 v4:V}{Q:MQ Out}(tR:o8 q)(hl:q.length≤1000)(hr:dD q= .error (cutAt q).length)(hf:Pc q)(e:q=a++bP q)(dG:bP q≠[])(fin:Q (.ret (.p (.bool true))) σ):
  kJ k0 (XE v1 v2 v3 v4 q (bP q) a.length) σ Q E:=by
 generalize hp:bP q=p at e dG;have ok:dE p:=fun t ht=>tR.ok t (by rw[e];exact mem_append_right _ ht);have lp:p.length≤1000:=by rw[e,length_append]at hl;omega
 have cut:(Tk.sg .semi∈p∨jG p=false)→cutAt q=[]:=fun h=>by
  unfold cutAt;refine ER hp ?_;rcases h with h|h
  ·exact if_pos (decide_eq_true h)
  ·exact ER (rj h ..) (ER (ite_self ..) rfl)
 have last:∀{b:Bool},(Tk.sg .semi∈p∨jG p=false)→gD k0 (bx (XE v1 v2 v3 v4 q p a.length) 81 (.p (.bool b))) σ Q E:=fun {b} h=>
  dC.pp (len_list (ju hl)) (by refine ER (bc ..) (ER (length_map ..) ?_);exact PN tR hr (cut h) fin)
 have no:∀z:Bool,z=false→(Tk.sg .semi∈p∨jG p=false)→gE k0 (bx (XE v1 v2 v3 v4 q p a.length) 81 (.p (.bool z))) σ Q E:=fun z e h=>by subst e;exact aT.mk (fun x=>Bool.noConfusion x) fun U=>aT.mk (fun x=>Bool.noConfusion x) fun U=>last h
 have un:∀{c:Tk},(!decide (c∈p))=false→c∈p:=fun h=>of_decide_eq_true (by rwa [not_eq_false']at h);obtain⟨b,c,eb⟩:=yP dG;have here:Tk.sg .semi∉p→jG p=true→Tk.sg .lb∈p→∀{b:Bool},kI k0 (bx (XE v1 v2 v3 v4 q p a.length) 81 (.p (.bool b))) σ (cB (gD k0) Q E) E:=fun h1 h2 h3 {b}=>by
  have cf:cutAt q=l9 p:=by
   unfold cutAt;refine ER hp (ER (if_neg fun z=>h1 (of_decide_eq_true z)) ?_);exact if_pos h2
  have len:=G2 p h3
  have lq:q.length=a.length+p.length:=ER e (ER length_append rfl);exact⟨.index _ rfl,PM (k:=.sg .lb) rfl ok h3 lp (aU.pp add_int (rh (k:=a.length+p.idxOf (.sg .lb)) tR (by omega) (by refine ER hr (ER cf ?_);congr 1;omega) fin))⟩
 have four:Tk.sg .semi∉p→Tk.sg .q∉p→∀z,z=(!decide (Tk.kw .eV∈p))→gE k0 (bx (XE v1 v2 v3 v4 q p a.length) 81 (.p (.bool z))) σ Q E:=fun h1 h2 z ez=>by
  refine aT.mk (fun h3=>aF.pp (PK (k:=.sg .lb) rfl ok) (aT.mk (fun h4=>aW.pp (AN eb) (aF.pp (x9 (k:=.sg .lb) rfl (ok c (by rw[eb];exact mem_append_right _ (.head _)):A3 c=true)) (aT.mk (fun h5=>⟨.count _ rfl,PL (k:=.sg .lb) rfl ok ?_⟩) fun h5=>aT.mk (fun x=>Bool.noConfusion x) fun U=>last ?_)))
   fun h4=>aT.mk (fun x=>nomatch x) fun U=>last (.inr (jN (.inl (of_decide_eq_false h4)))))) fun h3=>aT.mk (fun x=>nomatch x) fun U=>last (.inr (jN (.inr (.inl (un (ez▸h3))))))
  ·refine⟨.count _ rfl,PL (k:=.sg .rb) rfl ok (aF.pp eq_int (aT.mk (fun h6=>here h1 ?_ (of_decide_eq_true h4)) fun h6=>last (.inr (jN (.inr (.inr (.inr fun z=>of_decide_eq_false h6 (congrArg _ z))))))))⟩;unfold jG;refine ER (decide_eq_true h2) (ER (decide_eq_true (of_decide_eq_false (nb (ez▸h3)))) (ER h4 (ER (decide_eq_true (Int.ofNat.inj (of_decide_eq_true h6))) ?_)));rfl
  ·have:c= .sg .lb:=of_decide_eq_true (by rwa [not_eq_false']at h5);subst this;refine .inr (Bool.eq_false_iff.mpr fun z=>hf (hp▸h1) (hp▸z) ?_);unfold Last;refine ER (e ..) (ER (eb ..) (EL (append_assoc ..) ?_));exact List.getLast?_concat
 exact aF.pp vW (aT.mk (fun U=>aF.pp (AO (k:=.sg .semi) rfl ok) (aT.mk (fun h1=>aF.pp (AO (k:=.sg .q) rfl ok) (aT.mk (fun h2=>aF.pp (AO (k:=.kw .eV) rfl ok) (four (of_decide_eq_false (nb h1)) (of_decide_eq_false (nb h2)) _ rfl))
  fun h2=>no _ h2 (.inr (jN (.inr (.inr (.inl (un h2)))))))) fun h1=>no _ h1 (.inl (un h1)))) fun h0=>absurd (of_decide_eq_false h0) (by simp+arith [*]))
theorem TG(h:cF aY fs)(w:PW aj k σ)(hk:k≤100000)(q:∀ah,bC [0] σ ah→PW aj (k+1) ah→Q (.p (.bool true)) ah):Run fS [.ref 0,.p (.list (aq (wd (bz aY++bI fs)))),.p (mf aY fs)] σ Q E:=by
 have ts:=h.ts
 have len:=h.len
 have tc:=fun {q}=>Pg (q:=q) h.ok
 generalize eT:bz aY++bI fs=T at ts len tc ⊢;have two:2≤T.length:=by
  obtain⟨l,ls,e⟩:=h.ne;have:=congrArg List.length eT;rw[e,length_append]at this;rw[((by simp[bz,wH,gF,c7]):bz (l::ls)= .kw .lookup:: .nm l.name::(fg l.flag++[.sg .lc]++(aR l.rows++[.sg .rc])++bz ls)),length_cons,length_cons]at this;grind only
 refine⟨dC.pp (len_list (ju (le_trans (by assumption) (bl rfl)))) (aU.pp sub_int ?_)⟩;refine ER ((by refine ER (bc ..) (ER (length_map ..) ?_);omega):((aq (wd T)).length:Int) - 1=((T.length - 1:Nat):Int)) ?_;refine kT (m:=T.length - 1) w.start (by omega) (by omega) (by omega) fun j fU hj s1 w1=>aU.pp add_int (jK.mk _ _ _ _ rfl rfl rfl (nZ (m:=1+j) (ju (le_trans (by assumption) (bl rfl)))) ?_);refine ER Eb ?_;have pre:T.take (1+j) <+:T:=take_prefix _ _;have ql:(T.take (1+j)).length=1+j:=by rw[length_take];exact min_eq_left (by omega)
 generalize eq:T.take (1+j)=r at pre ql;have ok:dE r:=fun t ht=>ts t (pre.subset ht);have dG:r≠[]:=fun z=>by rw[z,length_nil]at ql;grind only
 have fin:cz σ.length fU (.ret (.p (.bool true))) Q:=w.give w1 (by simp+arith [*]) q;obtain⟨b,c,er⟩:=yP dG;refine aW.pp (AN er) (aF.pp (rt (k:=.sg .rc) rfl (ok c (by rw[er];exact mem_append_right _ (.head _)))) (aT.mk (fun hc=>?_) fun hc=>?_))
 ·have ec:c= .sg .rc:=of_decide_eq_true hc;rcases tc pre with ⟨l1,l2,f1,f2,rfl,rfl,rfl,ho⟩|⟨_,z,_⟩
  ·exact Vw h (tT ho dG) fin
  ·exact absurd (by refine ER er (ER ec ?_);exact List.getLast?_concat) z
 ·have nc:c≠ .sg .rc:=of_decide_eq_false hc;rcases tc pre with ⟨l1,l2,f1,f2,rfl,rfl,rfl,ho⟩|⟨hr,_,hf⟩
  ·obtain⟨a,e⟩:=(h.part (tT ho dG)).rc;exact absurd (List.cons.inj (List.append_inj' (er.symm.trans e) rfl).2).1 nc
  ·have lr:r.length≤1000:=by omega
   have tR:o8 r:=⟨ok,le_trans lr (bl rfl)⟩;have cS:(eO 0 r).length≤1000:=le_trans (Ml r 0) lr;refine az.p1 (az.p2 (Vr ok lr (aU.pp (add_list (by refine ER (length_map ..) ?_;exact le_trans (add_le_add_left cS 1) (bl rfl))) (dC.pp (max_list (ints_map (-1::eO 0 r))) ?_))));rcases IP r 0 with ⟨e1,e2⟩|⟨a,e1,h1,h2,h3⟩
   ·refine ER e2 ?_;have cut:cutAt r=[]:=by unfold cutAt;refine ER e1 ?_;rfl
    exact aF.pp vW (aT.mk (fun z=>nomatch z) fun U=>az.p0 (aF.pp vW (aT.mk (fun z=>nomatch z) fun U=>aT.mk (fun z=>nomatch z) fun U=>aT.mk (fun z=>nomatch z) fun U=>
     dC.pp (len_list (ju lr)) (by refine ER (bc ..) (ER (length_map ..) ?_);exact PN tR hr cut fin))))
   ·rw[zero_add]at h2 h3;refine ER (PG h2 h3) ?_;have drop:(aq (wd r)).drop a.length=aq (wd (bP r)):=by
     rw[Ec]
     conv=>lhs;rw[e1]
     rw[drop_left]
    exact aF.pp vW (aT.mk (fun U=>jK.mk _ _ _ _ rfl rfl rfl (qY (ju lr)) (by refine ER drop ?_;exact Vx tR lr hr hf e1 h1 fin)) fun z=>absurd (of_decide_eq_false z) (by simp+arith [*]))
end
noncomputable abbrev nA:Tk:=.nm "a"
noncomputable abbrev nB:Tk:=.nm "b"
noncomputable abbrev nC:Tk:=.nm "c"
noncomputable abbrev semi:Tk:=.sg .semi
noncomputable abbrev o9:Tk:=.kw .sub
noncomputable abbrev Ed:Tk:=.kw .pos
noncomputable abbrev Kc:Tk:=.kw .Ca
noncomputable abbrev CD:Tk:=.kw .eV
noncomputable abbrev PO:Tk:=.sg .lb
noncomputable abbrev PQ:Tk:=.sg .rb
noncomputable abbrev VY:Tk:=.sg .q
noncomputable abbrev fK:Tk:=.kw .lookup
def PF:List (Lk×Nat):=[([o9,PO,nA,PQ,Kc,nB,semi],1),([o9,nA,nB,CD,PO,nC,PQ,semi],3),([o9,nA,CD,PO,PQ,semi],4),([o9,nA,CD,PO,nB,nC,nB,PQ,semi],6),([Ed,nA,nB,nC,.nu "5",semi],4),([Ed,nA,.nu "32768",semi],2),([Ed,nA,.nu "-32769",semi],2),([Ed,nA,.sg .lt,.nu "1",.nu "2",.nu "3",.sg .gt,semi],6),([Ed,PO,nA,nB,PQ,.nu "1",semi],1),([o9,nA,VY,nB,nC,VY,semi],4),([o9,nA,VY,Kc,nB,semi],3),([o9,nA,fK,.nm "L0",semi],2),([o9,nA,VY,fK,.sg .lc,semi],4),([o9,nA,Kc,nB,.sg .rc],4),([o9,semi],1),([o9,nA,nB,Kc,.kw .null,semi],4),([Ed,nA,.nu "1000000",semi],2),([Ed,nA,.nu "0000010",semi],2)]
def NW:Lk×Nat:=([o9,nA,VY,fK,.nm "nowhere",semi],4)
def BF:List (Lk×Nat):=[([o9,Kc,Kc,nA,semi],1),([o9,.nm "zz",Kc,nA,semi],1),([o9,nA,Kc,.kw .flag,semi],3),([Ed,nA,.nm "x",semi],2),([o9,nA,PO,nB,.nm "zz",PQ,Kc,nA,semi],4)]
def Zs(x:Lk×Nat):Prop:=∀r,lu (x.1++r)= .err (x.1.drop x.2++r)
def fits(x:Lk×Nat):Bool:=i6 x.1&&(x.1.all A3&&(decide (x.2≤x.1.length)&&(decide (x.1.length≤10)&&decide (2≤x.1.length))))
theorem cM{t:Tk}{pre post e:Lk}{its:List Item}(h:gc (pre++post)= .ok its post)(h0:its.any (·.on)=false)(h2:((g6 post pre.length (pre++post)).bind fun U r=>(if decide (t.str= "sub")then tM its r else wC its r).bind fun x r2=>(bO (.sg .semi) r2).bind fun U r3=>PR.ok (x,([]:List eQ)) r3)= .err e):lu (t::(pre++post))= .err e:=by
 show(gc (pre++post)).bind _=_;rw[h];show(rowOf t.str its (pre++post) post).bind _=_;unfold rowOf;rw[if_neg (nt h0),((by rw[length_append,Nat.add_sub_cancel]):(pre++post).length - post.length=pre.length),iD,←h2]
 congr 1
 funext _ r
 rw[iD];rfl
noncomputable abbrev iP(w:Str):Item:=⟨[w],false,[]⟩
theorem PS:∀x∈PF++BF,Zs x:=by
 simp only[PF,BF,cons_append,nil_append,List.forall_mem_cons,not_mem_nil,false_imp_iff,implies_true,and_true];exact⟨fun r=>cM (pre:=[PO,nA,PQ]) (post:=[Kc,nB,semi]++r) (its:=[iP "a"]) (by kernel_rfl) rfl (by kernel_rfl),
  fun r=>cM (pre:=[nA,nB]) (post:=[CD,PO,nC,PQ,semi]++r) (its:=[iP "a",iP "b"]) (by kernel_rfl) rfl (by kernel_rfl),
  fun r=>cM (pre:=[nA]) (post:=[CD,PO,PQ,semi]++r) (its:=[iP "a"]) (by kernel_rfl) rfl (by kernel_rfl),
  fun r=>cM (pre:=[nA]) (post:=[CD,PO,nB,nC,nB,PQ,semi]++r) (its:=[iP "a"]) (by kernel_rfl) rfl (by kernel_rfl),
  fun r=>cM (pre:=[nA,nB,nC]) (post:=[.nu "5",semi]++r) (its:=[iP "a",iP "b",iP "c"]) (by kernel_rfl) rfl (by kernel_rfl),
  fun r=>cM (pre:=[nA]) (post:=[.nu "32768",semi]++r) (its:=[iP "a"]) (by kernel_rfl) rfl (by kernel_rfl),
  fun r=>cM (pre:=[nA]) (post:=[.nu "-32769",semi]++r) (its:=[iP "a"]) (by kernel_rfl) rfl (by kernel_rfl),
  fun r=>cM (pre:=[nA]) (post:=[.sg .lt,.nu "1",.nu "2",.nu "3",.sg .gt,semi]++r) (its:=[iP "a"]) (by kernel_rfl) rfl (by kernel_rfl),
  fun r=>cM (pre:=[PO,nA,nB,PQ]) (post:=[.nu "1",semi]++r) (its:=[⟨["a","b"],false,[]⟩]) (by kernel_rfl) rfl (by kernel_rfl),
  fun r=>by kernel_rfl,
  fun r=>by kernel_rfl,
  fun r=>cM (pre:=[nA]) (post:=[fK,.nm "L0",semi]++r) (its:=[iP "a"]) (by kernel_rfl) rfl (by kernel_rfl),
  fun r=>by kernel_rfl,
  fun r=>cM (pre:=[nA]) (post:=[Kc,nB,.sg .rc]++r) (its:=[iP "a"]) (by kernel_rfl) rfl (by kernel_rfl),
  fun r=>by kernel_rfl,
  fun r=>cM (pre:=[nA,nB]) (post:=[Kc,.kw .null,semi]++r) (its:=[iP "a",iP "b"]) (by kernel_rfl) rfl (by kernel_rfl),
  fun r=>cM (pre:=[nA]) (post:=[.nu "1000000",semi]++r) (its:=[iP "a"]) (by kernel_rfl) rfl (by kernel_rfl),
  fun r=>cM (pre:=[nA]) (post:=[.nu "0000010",semi]++r) (its:=[iP "a"]) (by kernel_rfl) rfl (by kernel_rfl),
  fun r=>by kernel_rfl,
  fun r=>by kernel_rfl,
  fun r=>cM (pre:=[nA]) (post:=[Kc,.kw .flag,semi]++r) (its:=[iP "a"]) (by kernel_rfl) rfl (by kernel_rfl),
  fun r=>by kernel_rfl,
  fun r=>by kernel_rfl⟩
theorem PT:∀x∈PF++BF,fits x=true:=by decide+kernel
theorem Sn{l:LL}(h:nF l){r e:Lk}(hr:i6 r=true)(he:lu r= .err e):dD (.kw .lookup::(c7 l++r))= .error e.length:=by
 refine gO (aY:=[]) (fs:=[]) (r:=.kw .lookup::(c7 l++r)) (fun U h=>nomatch h) (fun U h=>nomatch h) .nil fun N L F us hL U=>?_;rw[oj,hL,n9,(vp h.flag).acc r rfl,if_neg fun z=>nomatch of_decide_eq_true z];show((if i6 r then(lu r).bind _ else _).bind _:PR (LB×List eQ)).bind _=_;rw[if_pos hr,he];rfl
theorem PU{l:LL}(h:nF l){r:Lk}:dD (.kw .lookup::(c7 l++ .sg .rc::r))= .error (r.length+1):=by
 refine gO (aY:=[]) (fs:=[]) (r:=.kw .lookup::(c7 l++ .sg .rc::r)) (e:=.sg .rc::r) (fun U h=>nomatch h) (fun U h=>nomatch h) .nil fun N L F us hL U=>?_;rw[oj,hL,n9,(vp h.flag).acc _ rfl,if_neg fun z=>nomatch of_decide_eq_true z];rfl
theorem Mq{a b:Lk}(h:i6 a=true):i6 (a++b)=true:=by
 induction a with
 |nil=>cases h
 |cons=>exact h
theorem So{l:LL}(h:nF l){y:LR}{r:Lk}(hy:eX y)(hc:cj (l.rows.map bw) (bw y)=false):dD (.kw .lookup::(c7 l++(aR l.rows++(bF y++r))))= .error (bF y++r).length:=by
 refine gO (aY:=[]) (fs:=[]) (r:=.kw .lookup::(c7 l++(aR l.rows++(bF y++r)))) (fun U h=>nomatch h) (fun U h=>nomatch h) .nil fun N L F us hL U=>?_;have le:=wI l.rows;obtain⟨M,hM⟩:∃M,(aR l.rows++(bF y++r)).length+1=l.rows.length+(M+1):=⟨(aR l.rows++(bF y++r)).length - l.rows.length,by rw[length_append];grind only⟩;rw[oj,hL,n9,(vp h.flag).acc _ rfl,if_neg fun z=>nomatch of_decide_eq_true z];show((kO ((aR l.rows++(bF y++r)).length+1) [] [] (aR l.rows++(bF y++r))).bind _).bind _=_;rw[hM,DZ l.rows _ [] [] _ h.rows h.R4];show((if i6 (bF y++r)then(lu (bF y++r)).bind _ else _).bind _:PR (LB×List eQ)).bind _=_;rw[if_pos (show i6 (bF y++r)=true from O7 y _),DV hy];show(((if cj ([]++l.rows.map bw) (bw y)then PR.ok () r else PR.err (bF y++r)).bind _).bind _:PR (LB×List eQ)).bind _=_;rw[nil_append,if_neg (nt hc)];rfl
theorem AP{x y:LR}{rows:List LR}(h:kindS y≠kindS x∨(d7 y).str≠(d7 x).str):cj ((x::rows).map bw) (bw y)=false:=by
 have:nk (bw y) ((x::rows).map bw)=false:=by
  rw[map_cons,nq,rq,rq];rcases h with h|h
  ·rw[show decide ((bw y).1=(bw x).1)=false from decide_eq_false h];rfl
  ·rw[decide_eq_false h,Bool.and_false]
 unfold cj;rw[this];rfl
theorem Sp{x:LR}{rows:List LR}(h:cY x=false):cj ((x::rows).map bw) (bw x)=false:=by
 have h1:vV (((x::rows).map bw).map cI) (cI (bw x))=true:=by
  show(PyData.eqv _ _ || _)=true;rw[vD];rfl
 unfold cj;rw[h1,((by rw[←h,dz];rfl):decide ((bw x).1= "chain")=false)];exact Bool.and_false _
theorem Ye:("a" :Str)∈G7:=by decide+kernel
theorem ZQ:("b" :Str)∈G7:=by decide+kernel
theorem XF:eX (.pair "a" "b" ⟨0,0,1,0⟩):=⟨Ye,ZQ,fun i hi=>vy i (by simp[yq.l]at hi;rcases hi with rfl|rfl|rfl|rfl<;>decide)⟩
theorem Vy(p:Bool):eX (.chain p [] [(["a"],[])] []):=⟨(fun U h=>nomatch h),fun y hy=>by
 rw[mem_singleton.mp hy];exact⟨⟨cons_ne_nil _ _,nodup_cons.mpr ⟨not_mem_nil,.nil⟩,in1 Ye⟩,fun U h=>nomatch h⟩,(fun U h=>nomatch h),cons_ne_nil _ _⟩
theorem AQ{a b:Ls}:aq (a++b)=aq a++aq b:=map_append
section
variable {σ:LM}{E:ME}{ts:Lk}{le:ai}{k0 k:Nat}{a b m:Lk}
theorem Zt(h:(a++b).length≤1000):jR .Add (.list (aq (wd a))) (.list (aq (wd b))) (.list (aq (wd (a++b)))):=by
 have:aq (wd (a++b))=aq (wd a)++aq (wd b):=by rw[show wd (a++b)=wd a++wd b from map_append,AQ]
 rw[this];rw[length_append]at h;exact add_list (by rw[bc,bc,length_map,length_map];exact le_trans h (bl rfl))
theorem Eg(h:ts.length≤1000):nQ .len (.list (aq (wd ts))) (.int (ts.length:Nat)):=by
 have:=len_list (ju h)
 rwa [bc,length_map]at this
theorem Sq{t:Tk}:∀{a:Lk},t∉a→(a++t::b).idxOf t=a.length:=by
 intro rv;induction rv with
 |nil=>exact fun o=>List.idxOf_cons_self
 |cons x a ih=>
  intro h;rw[cons_append,idxOf_cons,cond_eq_ite,if_neg (by simpa using fun e:x=t=>h (e▸ .head _)),ih fun z=>h (.tail _ z)];rfl
theorem vE{t:Tk}{K:MQ V}(hc:t.const=true)(h:dE ts)(hl:ts.length≤1000)(e:ts=a++t::b)(hn:t∉a)(q:K (.p (.int (a.length:Nat))) σ):Nd (.p (.list (aq (wd ts)))) (.p (.str t.str)) σ K .index:=
 PM hc h (by rw[e];exact mem_append_right _ (.head _)) hl (by rw[e,Sq hn];exact q)
theorem Kd{ws more:Ls}{Q:MQ V}(hl:ws.length+more.length≤1000)(q:Q (.p (.list (aq (ws.take k++more++ws.drop k)))) σ):Run c9 [.p (.list (aq ws)),.p (.int (k:Int)),.p (.list (aq more))] σ Q E:=by
 have l1:((aq ws).take k).length≤ws.length:=by rw[length_take,bc];exact min_le_right _ _
 have l2:((aq ws).take k).length+((aq ws).drop k).length=ws.length:=by rw[←length_append,List.take_append_drop,bc]
 have l3:(aq more).length=more.length:=bc _;rw[((by rw[AQ,AQ];unfold aq;rw[map_take,map_drop]):aq (ws.take k++more++ws.drop k)=(aq ws).take k++aq more++(aq ws).drop k)]at q;exact⟨jK.mk _ _ _ _ rfl rfl rfl (nZ (AK (n:=1000) (by omega) rfl)) (aU.pp (add_list (le_trans (by grind only) (bl rfl:1000≤bL))) (jK.mk _ _ _ _ rfl rfl rfl (qY (AK (n:=1000) (by omega) rfl)) (aU.pp (add_list (by rw[length_append];exact le_trans (by omega) (bl rfl:1000≤bL))) (dc q))))⟩
structure Gives (c:CV) (le:ai) (σ:LM) (E:ME) (v:V):Prop where
 q:∀K:MQ V,K v σ→c le σ K E
structure Vz (c:ai→M Bool) (le:ai) (σ:LM) (E:ME):Prop where
 q:∀K:MQ Bool,K true σ→c le σ K E
theorem gv{i:Nat}{v:V}(h:bW le i=some v):Gives (aa i) le σ E v:=⟨fun K q=>by
 show(bW le i).elim _ _;rw[h];exact q⟩
theorem TH{i:Int}:Gives (cP (.int i)) le σ E (.p (.int i)):=⟨fun K q=>q⟩
theorem PV{ca cb cc:CV}(ha:Gives ca le σ E (.p (.list (aq (wd (a++b))))))(hb:Gives cb le σ E (.p (.int (a.length:Nat))))(hm:Gives cc le σ E (.p (.list (aq (wd m)))))(hl:(a++b).length≤900)(hm':m.length≤100):Gives (ay c9 [ca,cb,cc]) le σ E (.p (.list (aq (wd (a++(m++b)))))):=⟨fun K q=>ha.q _ (hb.q _ (hm.q _ (Kd (by rw[length_map,length_map];omega) (by
 have e1:(wd (a++b)).take a.length=wd a:=by rw[show wd (a++b)=wd a++wd b from map_append,take_left' (length_map _)]
 rw[e1,((by rw[show wd (a++b)=wd a++wd b from map_append,List.drop_left' (length_map _)]):(wd (a++b)).drop a.length=wd b),append_assoc]
 rwa [show wd (a++(m++b))=wd a++(wd m++wd b) by simp]at q))))⟩
theorem AR{ca cb:CV}(ha:Gives ca le σ E (.p (.list (aq (wd a)))))(hb:Gives cb le σ E (.p (.list (aq (wd b)))))(hl:(a++b).length≤1000):Gives (aJ .Add ca cb) le σ E (.p (.list (aq (wd (a++b))))):=⟨fun K q=>ha.q _ (hb.q _ (aU.pp (Zt hl) q))⟩
theorem PX{ca cb:CV}{i j:Nat}(ha:Gives ca le σ E (.p (.int i)))(hb:Gives cb le σ E (.p (.int j))):Gives (aJ .Add ca cb) le σ E (.p (.int (i+j:Nat))):=⟨fun K q=>ha.q _ (hb.q _ (aU.pp add_int q))⟩
theorem Ke{ca:CV}(ha:Gives ca le σ E (.p (.list (aq (wd a)))))(hl:a.length≤1000):Gives (cT .len ca) le σ E (.p (.int (a.length:Nat))):=⟨fun K q=>ha.q _ (dC.pp (Eg hl) q)⟩
theorem IU{xs:Lp}:Kv k0 σ (xs.map V.p) xs σ:=by
 induction xs with
 |nil=>exact .nil
 |cons x xs ih=>exact .cons (.p _) ih
theorem Eh{α:Type}{f:α→CV}{g:α→P}{l:List α}(hl:∀x∈l,Gives (f x) le σ E (.p (g x))):∀{K:MQ (List V)},K ((l.map g).map V.p) σ→ow (l.map f) le σ K E:=by
 induction l with
 |nil=>exact fun q=>q
 |cons x l ih=>exact fun q=>(hl x (.head _)).q _ (ih (fun y hy=>hl y (.tail _ hy)) q)
theorem oq(m:Lk)(h:m.length≤1000):Gives (aw k0 (m.map fun t=>cP (.str t.str))) le σ E (.p (.list (aq (wd m)))):=⟨fun K q=>Eh (g:=fun t:Tk=>P.str t.str) (fun x U=>⟨fun K q=>q⟩) (az.mk _ _ IU (by rw[length_map];exact le_trans h (bl rfl)) (by
 rwa [show m.map (fun t:Tk=>P.str t.str)=aq (wd m) by unfold aq;rw[map_map];rfl]))⟩
theorem wU{ca cb:CV}(ha:Gives ca le σ E (.p (.list (aq (wd ts)))))(hb:Gives cb le σ E (.p (.int (k:Int))))(tR:o8 ts)(hk:k≤ts.length)(he:dD ts= .error (ts.length - k)):Vz (au (ay aD [ca,cb])) le σ E:=⟨fun K q=>ha.q _ (hb.q _ (rh tR hk he q))⟩
theorem step{A:ai→M Bool}{B C R:CO}{Q:MQ Out}(h:Vz A le σ E)(q:C le σ (cB R Q E) E):(ae (dP (e7 A) B C) R) le σ Q E:=h.q _ (aT.mk (fun z=>nomatch z) fun U=>q)
theorem TJ{A A':ai→M Bool}{B C R:CO}{Q:MQ Out}(h:Vz A le σ E)(h':Vz A' le σ E)(q:C le σ (cB R Q E) E):(ae (dP (CQ (e7 A) (e7 A')) B C) R) le σ Q E:=h.q _ (aT.mk (fun z=>nomatch z) fun U=>h'.q _ (aT.mk (fun z=>nomatch z) fun U=>q))
theorem AS{α:Type}{nK:α→P}{tg:A5}{b:ai→M Out}{all:Lp}{L:ai→ai}{Q:MQ Out}(xs:List α)(step:∀x∈xs,∀t (K:MQ Out),(∀t,K (.next (L t)) σ)→∃jd,xr tg (nK x) (L t)=some jd∧b jd σ K E):∀t,(∀t,Q (.next (L t)) σ)→bU all none tg b (xs.map nK) (L t) σ Q E:=by
 induction xs with
 |nil=>exact fun t q=>⟨aA,q t⟩
 |cons x xs ih=>
  intro t q;obtain⟨jd,e,h⟩:=step x (.head _) t (cB (bU all none tg b (xs.map nK)) Q E) fun t=>ih (fun y hy=>step y (.tail _ hy)) t q;exact .mk aA jd e h
def AU(x:Lk×Nat):P:=.tup [.list (aq (wd x.1)),.int (x.2:Nat)]
theorem Kf(L:List (Lk×Nat))(hL:L.length≤1000)(h:∀x∈L,x.1.length≤1000):Gives (aw k0 (L.map fun x=>bG k0 [aw k0 (x.1.map fun t=>cP (.str t.str)),cP (.int (x.2:Nat))])) le σ E (.p (.list (L.map AU))):=⟨fun K q=>Eh (g:=AU) (fun x hx=>⟨fun K q=>(oq (k0:=k0) x.1 (h x hx)).q (fun v ah=>az k0 ah [v,.p (.int (x.2:Nat))] fun xs ah=>K (.p (.tup xs)) ah) (az.p2 q)⟩) (az.mk _ _ IU (by rw[length_map];exact le_trans hL (bl rfl)) q)⟩
end
def hT(l:LL):Lk:=.kw .lookup::c7 l
theorem tU(l:LL)(ls:List LL)(fs:List FL):bz (l::ls)++bI fs=hT l++(aR l.rows++ .sg .rc::(bz ls++bI fs)):=by simp[bz,wH,gF,hT]
section
variable {σ:LM}{E:ME}{ts bX:Lk}{le:ai}{k0 k:Nat}{a b m:Lk}{l:LL}
theorem G4(h:dE (a++b))(hm:dE m)(hl:(a++b).length≤500)(hml:m.length≤200):o8 (a++(m++b)):=⟨fun t ht=>by
 rcases mem_append.mp ht with ht|ht
 ·exact h t (mem_append_left _ ht)
 ·rcases mem_append.mp ht with ht|ht
  ·exact hm t ht
  ·exact h t (mem_append_right _ ht),by simp only[length_append]at hl ⊢;grind only⟩
theorem Kg{x:Lk×Nat}{ca cb cm ck:CV}(h:nF l)(hx:x∈PF++BF)(ok:dE (hT l++bX))(cS:(hT l++bX).length≤500)(ha:Gives ca le σ E (.p (.list (aq (wd (hT l++bX))))))(hb:Gives cb le σ E (.p (.int ((hT l).length:Nat))))(hm:Gives cm le σ E (.p (.list (aq (wd x.1)))))(hk:Gives ck le σ E (.p (.int (x.2:Nat)))):
  Vz (au (ay aD [ay c9 [ca,cb,cm],aJ .Add cb ck])) le σ E:=by
 have f:=PT x hx
 unfold fits at f;simp only[and_eq_true,decide_eq_true_eq]at f;obtain⟨f1,f2,f3,f4,f5⟩:=f;refine wU (PV ha hb hm (le_trans (by assumption) (bl rfl)) (le_trans (by assumption) (bl rfl))) (PX hb hk) (G4 ok (fun t ht=>all_eq_true.mp f2 t ht) cS (le_trans (by assumption) (bl rfl))) (by simp only[length_append];grind only) ?_;rw[show hT l++(x.1++bX)= .kw .lookup::(c7 l++(x.1++bX)) from rfl,Sn h (Mq f1) (PS x hx bX)]
 congr 1
 show(x.1.drop x.2++bX).length=(hT l++(x.1++bX)).length - _;simp only[length_append,length_drop];grind only
theorem VA:∀x∈PF,∃a y z,x.1=a++[y,z]∧y.str≠("nowhere" :Str):=fun x hx=>by
 obtain⟨h1,h2⟩:=((by decide+kernel):∀x∈PF,2≤x.1.length∧∀t∈x.1,t.str≠("nowhere" :Str)) x hx;obtain⟨a,z,e⟩:=yP (p:=x.1) fun e=>by rw[e]at h1;cases h1
 obtain⟨a,y,rfl⟩:=yP (p:=a) fun z=>by rw[e,z]at h1;exact absurd h1 (lt_irrefl 1)
 have e:x.1=a++[y,z]:=by rw[e,append_assoc];rfl
 exact⟨a,y,z,e,h2 y (by rw[e];exact mem_append_right _ (.head _))⟩
theorem Kh{y z:Tk}(e:ts=a++[y,z]):b8 (.list (aq (wd ts))) (-2) (.str y.str):=by
 subst e;refine item_list (j:=a.length) rfl ?_ IS;rw[bc,length_map,length_append];unfold seqIndex?;simp only[show(-2:Int)<0 by simp+arith [*],if_true];rw[if_pos (by simp;simp+arith)]
 congr 1;simp+arith
noncomputable def Bt:LL:=⟨"new",0,[.chain false [] [(["a"],["nowhere"])] []]⟩
theorem VB:wH Bt=[fK,.nm "new",.sg .lc]++NW.1++[.sg .rc]:=by kernel_rfl
theorem Su:nF Bt:=⟨by decide+kernel,J0 0 (.head _),cons_ne_nil _ _,fun x hx=>by
 rw[mem_singleton.mp hx];refine⟨(fun U h=>nomatch h),fun y hy=>?_,(fun U h=>nomatch h),cons_ne_nil _ _⟩;rw[mem_singleton.mp hy];exact⟨⟨cons_ne_nil _ _,nodup_cons.mpr ⟨not_mem_nil,.nil⟩,in1 Ye⟩,fun n hn=>by rw[mem_singleton.mp hn];decide+kernel⟩,by kernel_rfl,trivial⟩
theorem IV:∀n∈N3,n≠ "new" ∧n≠ "nowhere" ∧n≠ "9" ∧n≠ "" :=by decide+kernel
theorem ya:wy "nowhere" = "nowhere" :=by kernel_rfl
theorem Sv{aY:List LL}{fs:List FL}(d:cF aY fs):dD ([fK,.nm "new",.sg .lc]++NW.1++[.sg .rc]++(bz aY++bI fs))= .error ((bz aY++bI fs).length+3):=by
 have n2:("nowhere" :Str)∉aY.map (·.name):=fun h=>(IV _ (d.sub _ h)).2.1 rfl;obtain⟨N,_,e⟩:=nG (aY:=Bt::aY) (fs:=fs) (fun x hx=>(mem_cons.mp hx).elim (fun e=>e▸Su) (d.Vl x)) d.ok.f (by
  rw[map_cons,nodup_cons];exact⟨(fun h=>(IV _ (d.sub _ h)).1 rfl),d.ok.nd⟩) []
 rw[append_nil]at e;rw[←VB,show wH Bt++(bz aY++bI fs)=bz (Bt::aY)++bI fs from (append_assoc ..).symm,e];have hu:iJ (bI fs).length (Bt::aY)=(("nowhere" :Str),0+1+(0+(0+(1+((bz aY).length+(bI fs).length))+1)))::iJ (bI fs).length aY:=rfl;show(match cW ((Bt::aY).map LL.lb) (iJ (bI fs).length (Bt::aY)++mz 0 fs)with|some n=>Except.error n|none=>.ok ((Bt::aY).map LL.lb,pg 0 fs))=_;rw[hu];have:cW ((Bt::aY).map LL.lb) ((("nowhere" :Str),0+1+(0+(0+(1+((bz aY).length+(bI fs).length))+1)))::iJ (bI fs).length aY++mz 0 fs)=some (0+1+(0+(0+(1+((bz aY).length+(bI fs).length))+1))):=if_neg fun z=>by
  have z:=of_decide_eq_true z
  rw[ya,qD]at z;rcases mem_cons.mp z with h|h
  ·exact absurd h (show ¬(("nowhere" :Str)= "new") by decide+kernel)
  ·exact n2 h
 rw[this,length_append];exact congrArg Except.error (by simp+arith [*])
end
section
variable {σ:LM}{E:ME}{Q:MQ V}{l:LL}{ls:List LL}{fs:List FL}
theorem VC(d:cF (l::ls) fs)(q:Q (.p (.bool true)) σ):Run gC [.p (.list (aq (wd (bz (l::ls)++bI fs)))),.p (.int ((hT l).length:Nat))] σ Q E:=by
 have len:=d.len
 have ts:=d.ts
 have new:=Sv d
 have hl:nF l:=d.Vl l (.head _);rw[tU]at len ts new ⊢;generalize aR l.rows++ .sg .rc::(bz ls++bI fs)=bX at *;have cS:(hT l++bX).length≤1000:=le_trans len (bl rfl);refine⟨(Kf (k0:=σ.length) (le:=[(12,.p (.list (aq (wd (hT l++bX))))),(49,.p (.int ((hT l).length:Nat)))]) (PF++[NW]) (by decide) (by decide)).q (fun v ah=>(ae (iS (fM (aa 6)) (.many [27,43]) (fC σ.length)) (iV σ.length)) [(12,.p (.list (aq (wd (hT l++bX))))),(49,.p (.int ((hT l).length:Nat))),(6,v)] ah (fun o ah=>cz σ.length ah o Q) (back σ.length E)) ?_⟩;refine .mk _ (.list _) (by rw[length_map];exact bl rfl) ⟨AS (L:=fun t=>(12,.p (.list (aq (wd (hT l++bX)))))::(49,.p (.int ((hT l).length:Nat)))::(6,.p (.list ((PF++[NW]).map AU)))::t) (PF++[NW]) (fun x hx t K q=>⟨_,rfl,?_⟩) [] fun t=>dc q⟩;have g27:bW (bx (bx t 27 (.p (.list (aq (wd x.1))))) 43 (.p (.int (x.2:Nat)))) 27=some (.p (.list (aq (wd x.1)))):=(iO _ _ (by decide)).trans (bQ ..);have g43:bW (bx (bx t 27 (.p (.list (aq (wd x.1))))) 43 (.p (.int (x.2:Nat)))) 43=some (V.p (.int (x.2:Nat))):=bQ ..;show fC σ.length ((12,.p (.list (aq (wd (hT l++bX)))))::(49,.p (.int ((hT l).length:Nat)))::(6,.p (.list ((PF++[NW]).map AU)))::bx (bx t 27 (.p (.list (aq (wd x.1))))) 43 (.p (.int (x.2:Nat)))) σ K _;generalize bx (bx t 27 (V.p (.list (aq (wd x.1))))) 43 (V.p (.int (x.2:Nat)))=t' at g27 g43 ⊢;show(bW t' 27).elim _ _;rw[g27];rcases mem_append.mp hx with hx|hx
 ·obtain⟨a,y,z,e,hy⟩:=VA x hx;refine aW.pp (Kh e) (aF.pp (b7 _ _) (aT.mk (fun h=>absurd (of_decide_eq_true h) hy) fun U=>?_));exact step (C:=ak) (Kg hl (mem_append_left _ hx) ts len (gv rfl) (gv rfl) (gv g27) (gv g43)) (q t')
 ·have ex:=mem_singleton.mp hx;subst ex;refine aW.pp (Kh (ts:=NW.1) (a:=[o9,nA,VY,fK]) (y:=.nm "nowhere") (z:=semi) rfl) (aF.pp (b7 _ _) (aT.mk (fun U=>?_) fun h=>absurd h (by decide)));have yo:([fK,Tk.nm "new",Tk.sg .lc]++NW.1++[Tk.sg .rc]++(hT l++bX)).length≤1000:=by rw[length_append];exact le_trans (add_le_add_left len _) (bl rfl)
  refine(AR (E:=back σ.length E) (a:=[fK,Tk.nm "new",Tk.sg .lc]++NW.1++[Tk.sg .rc]) (b:=hT l++bX) (AR (a:=[fK,Tk.nm "new",Tk.sg .lc]++NW.1) (b:=[Tk.sg .rc]) (AR (a:=[fK,Tk.nm "new",Tk.sg .lc]) (b:=NW.1) (oq (k0:=σ.length) [fK,Tk.nm "new",Tk.sg .lc] (by decide)) (gv (i:=27) (le:=(12,.p (.list (aq (wd (hT l++bX)))))::(49,.p (.int ((hT l).length:Nat)))::(6,.p (.list ((PF++[NW]).map AU)))::t') g27) (by decide)) (oq (k0:=σ.length) [Tk.sg .rc] (by decide)) (by decide)) (gv rfl) yo).q (fun v ah=>(ae (dP (e7 (au (ay aD [(aa 85),(aJ .Add (cP (.int 3)) (aa 43))]))) (iU σ.length) ak) ak) ((12,.p (.list (aq (wd (hT l++bX)))))::(49,.p (.int ((hT l).length:Nat)))::(6,.p (.list ((PF++[NW]).map AU)))::bx t' 85 v) ah K (back σ.length E)) ?_;exact step (C:=ak) (wU (k:=3+4) (gv (bQ ..)) (PX (i:=3) (j:=4) TH (gv ((iO _ _ (by decide)).trans g43))) (⟨cG (by decide+kernel) ts,by rw[length_append];exact le_trans (add_le_add_left cS _) (bl rfl)⟩:o8 ([fK,Tk.nm "new",Tk.sg .lc]++NW.1++[Tk.sg .rc]++(hT l++bX))) (bl rfl) new) (q _)
end
theorem AV(l:LL):∃a,hT l=a++[.sg .lc]∧Tk.sg .lc∉a∧Tk.sg .rc∉hT l∧Tk.sg .semi∉hT l:=by refine⟨.kw .lookup:: .nm l.name::fg l.flag,rfl,?_,?_,?_⟩<;>(try unfold hT c7)<;>unfold fg<;>refine iT (fun _=>?_) fun _=>?_<;>simp[vn]
section
variable {σ:LM}{E:ME}{Q:MQ V}{l:LL}{ls:List LL}{fs:List FL}{le:ai}{x:LR}{xs:List LR}{T rest:Lk}
def yb(T:Lk)(x:LR)(e b:Nat)(v:V)(t:ai):ai:=(12,.p (.list (aq (wd T))))::(64,.p (fG (bw x)))::(7,.p (.str (kindS x)))::(30,.p (.int (e:Nat)))::(82,v)::(49,.p (.int (b:Nat)))::t
theorem Ei{y:LR}{c12 Zu ci:CV}(hl:nF l)(ok:dE (hT l++aR l.rows++ .sg .rc::rest))(cS:(hT l++aR l.rows++ .sg .rc::rest).length≤500)(hy:eX y)(ly:(bF y).length≤60)(hc:cj (l.rows.map bw) (bw y)=false)
  (ha:Gives c12 le σ E (.p (.list (aq (wd (hT l++aR l.rows++ .sg .rc::rest)))))) (hb:Gives Zu le σ E (.p (.int ((hT l++aR l.rows).length:Nat)))) (hm:Gives ci le σ E (.p (.list (aq (wd (bF y)))))):
  Vz (au (ay aD [ay c9 [c12,Zu,ci],Zu])) le σ E:=by
 refine wU (PV ha hb hm (le_trans (by assumption) (bl rfl)) (le_trans (by assumption) (bl rfl))) hb (G4 ok (J2 hy) cS (le_trans (by assumption) (bl rfl))) (by rw[length_append (as:=hT l++aR l.rows)];exact le_add_right _ _) ?_;have:=So (r:=.sg .rc::rest) hl hy hc;rw[show Tk.kw .lookup::(c7 l++(aR l.rows++(bF y++ .sg .rc::rest)))=hT l++aR l.rows++(bF y++ .sg .rc::rest) from (append_assoc (hT l) _ _).symm]at this;exact ER (this ..) (ER (length_append (bs:=bF y++_) ..) (ER (Nat.add_sub_cancel_left ..) rfl))
theorem Zv{ca cb:CV}{k:Nat}{m:Lk}(e:T.take k=m)(ha:Gives ca le σ E (.p (.list (aq (wd T)))))(hb:Gives cb le σ E (.p (.int (k:Nat))))(h:T.length≤1000):Gives (iu ca fi cb) le σ E (.p (.list (aq (wd m)))):=e▸⟨fun K q=>ha.q _ (hb.q _ (jK.mk _ _ _ _ rfl rfl rfl (Eb▸nZ (ju h)) q))⟩
theorem VD{ca cb:CV}{k:Nat}{m:Lk}(e:T.drop k=m)(ha:Gives ca le σ E (.p (.list (aq (wd T)))))(hb:Gives cb le σ E (.p (.int (k:Nat))))(h:T.length≤1000):Gives (iu ca cb fi) le σ E (.p (.list (aq (wd m)))):=e▸⟨fun K q=>ha.q _ (hb.q _ (jK.mk _ _ _ _ rfl rfl rfl (Ec▸qY (ju h)) q))⟩
theorem VE{a m b:Lk}{i:Int}(h:(a++(m++b)).length≤1000)(hi:i=(a.length+m.length:Nat)):jW (.list (aq (wd (a++(m++b))))) (some (a.length:Nat)) (some i) (.list (aq (wd m))):=by
 subst hi;have:=Gg (a:=a.length) (b:=a.length+m.length) (ju h)
 rwa [Ec,Eb,drop_left,Nat.add_sub_cancel_left,take_left]at this
theorem PY{k0:Nat}{v:V}{t:ai}{e:Nat}{bX:Lk}{Q:MQ Out}(hl:nF l)(ok:dE (hT l++bX))(cS:(hT l++bX).length≤500)(q:Q (.ret (.p (.bool true))) σ):dS k0 (yb (hT l++bX) x e (hT l).length v t) σ Q E:=by
 refine(Kf (E:=E) (k0:=k0) (le:=yb (hT l++bX) x e (hT l).length v t) BF (by decide) (by decide)).q (fun w ah=>(ae (iS (fM (aa 83)) (.many [84,43]) (gB k0)) (kF k0)) (yb (hT l++bX) x e (hT l).length v (bx t 83 w)) ah Q E) ?_;show(bW (bx t 83 (.p (.list (BF.map AU)))) 83).elim _ _;refine ER (bQ ..) ?_;refine .mk _ (.list _) (by rw[length_map];exact bl rfl) ⟨AS (L:=fun t=>yb (hT l++bX) x e (hT l).length v t) BF (fun z hz t K q=>⟨_,rfl,?_⟩) _ fun t=>q⟩;show gB k0 (yb (hT l++bX) x e (hT l).length v (bx (bx t 84 (.p (.list (aq (wd z.1))))) 43 (.p (.int (z.2:Nat))))) σ K E;exact step (C:=ak) (Kg hl (mem_append_right _ hz) ok cS (gv rfl) (gv rfl) (gv ((iO _ _ (by decide)).trans (bQ ..))) (gv (bQ ..))) (q _)
theorem len_eq(l:LL){hd:Lk}(e:hT l=hd++[.sg .lc]):((hd.length:Nat):Int)+1=((hT l).length:Nat):=by refine ER e (ER length_append ?_);rfl
theorem VF(hx:l.rows=x::xs)(d:cF (l::ls) fs)(q:Q (.p (.bool true)) σ):Run iC [.p (.list (aq (wd (bz (l::ls)++bI fs)))),.p (fG (bw x))] σ Q E:=by
 have len:=d.len
 have ts:=d.ts
 have hl:nF l:=d.Vl l (.head _);have dx:=(d.look l (.head _)).row x (by refine ER hx ?_;exact .head _);have e0:bz (l::ls)++bI fs=hT l++aR l.rows++ .sg .rc::(bz ls++bI fs):=ER (tU ..) (ER (append_assoc ..) rfl);rw[e0]at len ts ⊢;generalize bz ls++bI fs=rest at *;have cS:(hT l++aR l.rows++ .sg .rc::rest).length≤1000:=le_trans len (bl rfl);obtain⟨hd,eh,n1,n2,n3⟩:=AV l;have e2:hT l++aR l.rows++ .sg .rc::rest=hT l++(aR l.rows++ .sg .rc::rest):=append_assoc ..;have e1:hT l++aR l.rows++ .sg .rc::rest=hd++ .sg .lc::(aR l.rows++ .sg .rc::rest):=by refine ER (e2 ..) (ER (eh ..) (ER (append_assoc ..) ?_));rfl
 have e3:hT l++aR l.rows++ .sg .rc::rest=hT l++(bF x++(aR xs++ .sg .rc::rest)):=by refine ER (e2 ..) (ER (hx ..) (EL (append_assoc (bF x) ..) ?_));rfl
 have noRC:Tk.sg .rc∉hT l++aR l.rows:=fun z=>(mem_append.mp z).elim n2 fun z=>by obtain⟨y,_,z⟩:=mem_flatMap.mp z;exact Pf z
 have last:∀{v t},dS σ.length (yb (hT l++aR l.rows++ .sg .rc::rest) x (hT l++aR l.rows).length (hT l).length v t) σ (fun o ah=>cz σ.length ah o Q) (back σ.length E):=fun {v t}=>by
  rw[e2]at ts len ⊢;exact PY hl ts len (dc q)
 have nine:∀{v},jz σ.length (yb (hT l++aR l.rows++ .sg .rc::rest) x (hT l++aR l.rows).length (hT l).length v []) σ (fun o ah=>cz σ.length ah o Q) (back σ.length E):=fun {v}=>by
  refine aF.pp (b7 _ _) (aT.mk (fun h=>?_) fun h=>?_)
  ·obtain⟨p,back',ins,ahead,rfl⟩:=vC (dz.trans h);have fin:∀w,w=(kR (!p)).str→az σ.length σ [.p (.str w),.p (.str "a"),.p (.str "'"),.p (.str ";")] fun xs ah=>(ae (dP (e7 (au (ay aD [(ay c9 [(aa 12),(aa 30),(aa 82)]),(aa 30)]))) (kE σ.length) ak) ak) (yb (hT l++aR l.rows++ .sg .rc::rest) (.chain p back' ins ahead) (hT l++aR l.rows).length (hT l).length (.p (.list xs)) []) ah (cB (dS σ.length) (fun o ah=>cz σ.length ah o Q) (back σ.length E)) (back σ.length E):=fun w e=>by
    subst e;exact az.p4 (step (C:=ak) (Ei (y:=.chain (!p) [] [(["a"],[])] []) hl ts len (Vy _) (by induction p<;>decide) (by refine ER hx ?_;exact AP (.inr (show(kR (!p)).str≠(kR p).str by induction p<;>decide))) (gv rfl) (gv rfl) (gv rfl)) last)
   refine aW.pp AG (aW.pp (aO (k:=0) rfl (zero_le _)) ?_);cases p
   ·exact .a rfl (fin _ rfl)
   ·exact .b rfl (fin _ rfl)
  ·have hc:cY x=false:=dz.trans h;have n4:Tk.sg .semi∉hT l++ .kw (d7 x)::(i8 x++jF x):=fun z=>(mem_append.mp z).elim n3 fun z=>(mem_cons.mp z).elim (fun e=>by cases e) fun z=>absurd (all_eq_true.mp (rk (f:=fun c=> !decide (c= .sg .semi)) (x:=x) (fun U=>rfl) (fun U=>rfl) rfl fun U=>rfl) _ z) (by decide);have cut:=VE (a:=hT l) (m:=bF x) (b:=aR xs++ .sg .rc::rest) (i:=((hT l++ .kw (d7 x)::(i8 x++jF x)).length:Nat)+1) (e3▸cS) (by simp[bF];simp+arith [*]);rw[←e3]at cut;exact⟨.index _ rfl,vE (t:=.sg .semi) rfl ts cS ((by rw[e3];simp[bF]):hT l++aR l.rows++ .sg .rc::rest=(hT l++ .kw (d7 x)::(i8 x++jF x))++ .sg .semi::(aR xs++ .sg .rc::rest)) n4 (aU.pp add_int (jK.mk _ _ _ _ rfl rfl rfl cut (step (C:=ak) (Ei (y:=x) hl ts len dx.ok dx.len (by refine ER hx ?_;exact Sp hc) (gv rfl) (gv rfl) (gv rfl)) last)))⟩
 have fineN:o8 (hT l++ .sg .rc::rest):=⟨fun t ht=>ts t (by
  rcases mem_append.mp ht with h|h
  ·exact mem_append_left _ (mem_append_left _ h)
  ·exact mem_append_right _ h),by simp only[length_append]at cS ⊢;grind only⟩
 have eV:(hT l++aR l.rows++ .sg .rc::rest).drop (hT l++aR l.rows).length= .sg .rc::rest:=drop_left;have cont:∀{m y},m=bF y→eX y→m.length≤60→cj (l.rows.map bw) (bw y)=false→jA σ.length [(12,.p (.list (aq (wd (hT l++aR l.rows++ .sg .rc::rest))))),(64,.p (fG (bw x))),(7,.p (.str (kindS x))),(30,.p (.int ((hT l++aR l.rows).length:Nat))),(82,.p (.list (aq (wd m))))] σ (fun o ah=>cz σ.length ah o Q) (back σ.length E):=fun {m y} em oy ly cy=>by
  subst em;refine step (C:=ak) (Ei (y:=y) hl ts len oy ly cy (gv rfl) (gv rfl) (gv rfl)) ⟨.index _ rfl,vE (t:=.sg .lc) rfl ts cS e1 n1 (aU.pp (len_eq l eh▸add_int) (step (C:=ak) (wU (k:=(hT l).length) (AR (Zv ((ER e2 (ER take_left rfl)):(hT l++aR l.rows++ .sg .rc::rest).take (hT l).length=hT l) (gv rfl) (gv rfl) cS) (VD eV (gv rfl) (gv rfl) cS) (by simp only[length_append]at cS ⊢;grind only)) (gv rfl) fineN (by refine ER length_append ?_;exact le_add_right _ _) ?_) nine))⟩;have:=PU (r:=rest) hl;rw[show Tk.kw .lookup::(c7 l++ .sg .rc::rest)=hT l++ .sg .rc::rest from rfl]at this;refine ER (this ..) (ER (length_append ..) (ER (Nat.add_sub_cancel_left ..) ?_));rfl
 refine⟨aW.pp vB ⟨.index _ rfl,vE (t:=.sg .rc) rfl ts cS rfl noRC (aF.pp (eY _ _) (aT.mk (fun h=>az.p5 ?_) fun h=>az.p5 ?_))⟩⟩
 ·exact cont (m:=[Ed,nA,nB,.nu "1",semi]) (y:=.pair "a" "b" ⟨0,0,1,0⟩) (by kernel_rfl) XF (by decide) (by refine ER hx ?_;exact AP (.inl fun e=>of_decide_eq_false (nb h) e.symm))
 ·exact cont (m:=[o9,nA,Kc,nB,semi]) (y:=.single "a" "b") rfl ⟨Ye,ZQ⟩ (by decide) (by
   have e:kindS x= "pair" :=of_decide_eq_true (by rwa [not_eq_false']at h);obtain⟨s,_⟩:=L7;refine ER hx ?_;exact AP (.inl fun z=>s "pair" (by decide) (e.symm.trans z.symm)))
end
noncomputable abbrev jH:Tk:=.kw .gp
noncomputable abbrev sC:Tk:=.sg .lc
noncomputable abbrev sE:Tk:=.sg .rc
noncomputable abbrev mh:Tk:=.nm "liga"
noncomputable abbrev Sw:Tk:=.nm "L0"
structure Tail (m:Lk) (k:Nat):Prop where
 err:∀N L F us,(∀n∈names L,n∈N3)→("L0" :Str)∈names L→bD (N+1) L F us m= .err (m.drop k)
 fit:(decide (k≤m.length)&&(decide (m.length≤20)&&m.all A3))=true
theorem Tail.ok{m:Lk}{k:Nat}(h:Tail m k):k≤m.length∧m.length≤20∧dE m:=by
 obtain⟨a,b⟩:=and_eq_true_iff.mp h.fit;obtain⟨b,c⟩:=and_eq_true_iff.mp b;exact⟨of_decide_eq_true a,of_decide_eq_true b,all_eq_true.mp c⟩
theorem ru{r e:Lk}(hd:jo r∉N3)(he:gq r= .err e){N:Nat}{L:List LB}{F:List FR}{us:List eQ}(hL:∀n∈names L,n∈N3):bD (N+1) L F us (.kw .lookup::r)= .err e:=by refine ER oj (ER (if_neg fun z=>hd (hL _ (of_decide_eq_true z))) (ER he ?_));rfl
theorem t1:Tail [jH,mh,sC,sE] 3:=⟨fun U U U U U U=>by kernel_rfl,by decide+kernel⟩
theorem t3:Tail [jH,.nm "liga5",sC,Sw,sE] 1:=⟨fun U U U U U U=>by kernel_rfl,by decide+kernel⟩
theorem t5:Tail [fK,Sw,sC] 1:=⟨fun N L F us U h=>oj.trans (if_pos (decide_eq_true h)),by decide+kernel⟩
theorem t6:Tail [fK,.nm "new",.kw .flag,.nu "65536",sC] 3:=⟨fun U U U U h U=>ru (by decide+kernel) (by kernel_rfl) h,by decide+kernel⟩
theorem t7:Tail [fK,.nm "new",.kw .flag,.nm "N1",sC] 3:=⟨fun U U U U h U=>ru (by decide+kernel) (by kernel_rfl) h,by decide+kernel⟩
theorem t8:Tail [fK,.nm "new",.kw .flag,.nu "-1",sC] 3:=⟨fun U U U U h U=>ru (by decide+kernel) (by kernel_rfl) h,by decide+kernel⟩
theorem t9:Tail [fK,.nu "9",sC] 1:=⟨fun U U U U h U=>ru (by decide+kernel) (by kernel_rfl) h,by decide+kernel⟩
theorem t10:Tail [.nm "rows"] 0:=⟨fun U U U U U U=>by kernel_rfl,by decide+kernel⟩
theorem t11:Tail [semi] 0:=⟨fun U U U U U U=>by kernel_rfl,by decide+kernel⟩
def M4:List (Lk):=[[.kw .bk,sC],[.kw .bk,.nm "latin",sC],[.kw .aC,.nm "DEUT5",sC],[.kw .bk,.nm "latn",.kw .aC,sC]]
noncomputable def XG(x:Lk):Nat:=if x.length=4 then 5 else 3
theorem t4:∀x∈M4,Tail ([jH,mh]++x++[Sw,sE]) (XG x):=by
 simp only[M4,List.forall_mem_cons,not_mem_nil,false_imp_iff,implies_true,and_true];exact⟨⟨fun U U U U U U=>by kernel_rfl,by decide+kernel⟩,⟨fun U U U U U U=>by kernel_rfl,by decide+kernel⟩,⟨fun U U U U U U=>by kernel_rfl,by decide+kernel⟩,⟨fun U U U U U U=>by kernel_rfl,by decide+kernel⟩⟩
section
variable {aY:List LL}{fs:List FL}{σ:LM}{le:ai}{E:ME}{m:Lk}{k k0:Nat}
theorem PZ(d:cF aY fs)(h:Tail m k):dD (bz aY++bI fs++m)= .error ((bz aY++bI fs++m).length - ((bz aY++bI fs).length+k)):=by
 refine ER (append_assoc ..) (ER (gO d.ok.l d.ok.f d.ok.nd (e:=m.drop k) fun N L F us hL U=>h.err N L F us (fun n hn=>d.sub n (hL▸hn)) (by
  rw[hL];obtain⟨j,hj,_,e⟩:=d.names;rw[e];induction j with
  |zero=>exact absurd hj (by decide)
  |succ j=>exact .head _) ..) ?_)
 have:=h.ok.1
 congr 1
 simp only[length_append,length_drop];grind only
theorem Mr(d:cF aY fs)(h:Tail m k):o8 (bz aY++bI fs++m):=⟨cG d.ts h.ok.2.2,by rw[length_append];exact le_trans (Nat.add_le_add d.len h.ok.2.1) (bl rfl)⟩
theorem G5(d:cF aY fs):dD (bz aY++bI fs++[jH,mh,sC,.nm "nowhere",sE])= .error 2:=by
 obtain⟨N,hN,e⟩:=nG d.ok.l d.ok.f d.ok.nd [jH,mh,sC,.nm "nowhere",sE];obtain⟨N,rfl⟩:∃M,N=M+1:=⟨N - 1,by simp only[length_cons]at hN;grind only⟩;refine ER (append_assoc ..) (ER (e ..) ?_);have go:∀{L F us},bD (N+1+1) L F us [jH,mh,sC,.nm "nowhere",sE]= .ok ((L,F++[⟨"liga","DFLT","dflt",[(("nowhere" :Str),2)]⟩]),us++[(("nowhere" :Str),2)]) []:=fun {L F us}=>by kernel_rfl
 refine ER go ?_;show(match cW (aY.map LL.lb) _ with|some n=>Except.error n|none=>_)=_;refine ER (tS ..) (ER (qC fun u hu=>d.wy (d.uses u hu) ..) ?_);have:cW (aY.map LL.lb) [(("nowhere" :Str),2)]=some 2:=if_neg fun z=>by
  have z:=of_decide_eq_true z
  rw[ya,qD]at z;exact(fun h=>(IV _ (d.sub _ h)).2.1 rfl:("nowhere" :Str)∉aY.map (·.name)) z
 refine ER this ?_;rfl
noncomputable def signs:Ls:=["!","-","é","@","("]
theorem Sx:∀w∈signs,Ht w=false∧w.length=1:=by decide+kernel
theorem Sy:∀w∈signs,Wd w:=by
 simp only[signs,List.forall_mem_cons,not_mem_nil,false_imp_iff,implies_true,and_true];exact⟨⟨⟨_,_,rfl,by decide+kernel⟩,by decide+kernel,fun ws=>by induction ws<;>kernel_rfl⟩,⟨⟨_,_,rfl,by decide+kernel⟩,by decide+kernel,fun ws=>by induction ws<;>kernel_rfl⟩,⟨⟨_,_,rfl,by decide+kernel⟩,by decide+kernel,fun ws=>by induction ws<;>kernel_rfl⟩,⟨⟨_,_,rfl,by decide+kernel⟩,by decide+kernel,fun ws=>by induction ws<;>kernel_rfl⟩,⟨⟨_,_,rfl,by decide+kernel⟩,by decide+kernel,fun ws=>by induction ws<;>kernel_rfl⟩⟩
theorem P0{w:Str}{bX:Ls}(hw:Ht w=false):∀(pre:Ls) (k:Nat),(∀x∈pre,Ht x=true)→ents k (pre++w::bX)= .error (k+eK pre):=by
 intro rv;induction rv with
 |nil=>exact fun k o=>if_neg (nt hw)
 |cons x pre ih=>
  intro k h;show(if Ht x then(ents (k+x.length+1) (pre++w::bX)).map _ else _)=_;refine ER (if_pos (h x (.head _))) (ER (ih _ fun y hy=>h y (.tail _ hy)) ?_);show Except.error _=Except.error (k+((x.length+1)+eK pre));exact congrArg _ (by simp+arith [*])
theorem Sz{T:Lk}{j:Nat}{w:Str}{Q:MQ V}(ho:dE T)(hl:T.length≤500)(hj:j≤T.length)(hw:w∈signs)(q:Q (.p (.bool true)) σ):Run aD [.p (.list (aq ((wd T).take j++[w]++(wd T).drop j))),.p (.int (j:Int))] σ Q E:=by
 obtain⟨s1,s3⟩:=Sx w hw;have all:∀x∈wd T,Wd x∧Ht x=true:=fun x hx=>by
  obtain⟨t,ht,rfl⟩:=mem_map.mp hx;exact Il (DL (ho t ht))
 have O:eK ((wd T).take j++[w]++(wd T).drop j)=eK (wd T)+2:=by
  have e2:eK [w]=2:=by simp[eK,s3]
  refine ER (qw ..) (ER (qw ..) (ER (((EL (qw ..) (ER (List.take_append_drop ..) rfl)):eK (wd T)=eK ((wd T).take j)+eK ((wd T).drop j)) ..) (ER (e2 ..) ?_)));simp+arith [*]
 have hN:eK (wd T)≤65 * T.length:=by have:=DM T ho;rwa [←qu]at this
 have len:((wd T).take j++[w]++(wd T).drop j).length=T.length+1:=by simp;simp+arith [*]
 have tk:((wd T).take j++[w]++(wd T).drop j).take j=(wd T).take j:=by
  have:((wd T).take j).length=j:=by refine ER (length_take ..) (ER (length_map ..) ?_);simp+arith [*]
  exact ER (append_assoc ..) (ER (take_left' this ..) rfl)
 refine OJ (m:=eK ((wd T).take j)) (fun q=>LH (fun x hx=>?_) (by rw[len];exact le_trans (add_le_add_right (by assumption) _) (bl rfl)) (by rw[O];omega) (by have:=P0 s1 ((wd T).take j) 0 (bX:=(wd T).drop j) fun x hx=>(all x (mem_of_mem_take hx)).2;rw[zero_add]at this;refine ER (append_assoc ..) ?_;exact this) q) (by rw[O];omega) ?_ q
 ·rcases mem_append.mp hx with hx|hx
  ·rcases mem_append.mp hx with hx|hx
   ·exact(all x (mem_of_mem_take hx)).1
   ·rw[mem_singleton.mp hx];exact Sy w hw
  ·exact(all x (List.mem_of_mem_drop hx)).1
 ·unfold Zp;exact ER (if_pos (decide_eq_true (by rw[len];simp+arith [*]))) (ER tk rfl)
end
section
variable {aY:List LL}{fs:List FL}{σ aj:LM}{le:ai}{E:ME}{Q:MQ V}{m:Lk}{k k0:Nat}
theorem P1{c12 ci:CV}(d:cF aY fs)(h:Tail m k)(ha:Gives c12 le σ E (.p (.list (aq (wd (bz aY++bI fs++m))))))(hi:Gives ci le σ E (.p (.int ((bz aY++bI fs).length+k:Nat)))):Vz (au (ay aD [c12,ci])) le σ E:=
 wU ha hi (Mr d h) (by rw[length_append (bs:=m)];exact add_le_add_left h.ok.1 _) (PZ d h)
theorem SA(L:List (Lk))(hL:L.length≤1000)(h:∀x∈L,x.length≤1000):Gives (aw k0 (L.map fun x=>aw k0 (x.map fun t=>cP (.str t.str)))) le σ E (.p (.list (L.map fun x=>.list (aq (wd x))))):=⟨fun K q=>Eh (g:=fun x=>P.list (aq (wd x))) (fun x hx=>oq x (h x hx)) (az.mk _ _ IU (by rw[length_map];exact le_trans hL (bl rfl)) q)⟩
theorem VG(d:cF aY fs)(w:PW aj k σ)(hk:k≤50000)(q:∀ah,bC [0] σ ah→PW aj (k+2) ah→Q (.p (.bool true)) ah):Run gZ [.ref 0,.p (.list (aq (wd (bz aY++bI fs))))] σ Q E:=by
 have len:=d.len
 have ts:=d.ts
 have yes:=fun {m k E le c12 ci}=>P1 (σ:=σ) (E:=E) (le:=le) (m:=m) (k:=k) (c12:=c12) (ci:=ci) d
 have bad:=G5 d
 generalize bz aY++bI fs=T at *;have cS:T.length≤1000:=le_trans len (bl rfl);have more:∀{m:Lk},m.length≤20→(T++m).length≤1000:=fun h=>by rw[length_append];omega
 have cat:∀{le k0} (m:Lk),m.length≤20→bW le 12=some (.p (.list (aq (wd T))))→Gives (aJ .Add (aa 12) (aw k0 (m.map fun t=>cP (.str t.str)))) le σ (back σ.length E) (.p (.list (aq (wd (T++m))))):=fun m hm h=>AR (gv h) (oq m (le_trans (by assumption) (bl rfl))) (more hm);have at_:∀{le} (n:Nat),bW le 12=some (.p (.list (aq (wd T))))→Gives (aJ .Add (cT .len (aa 12)) (cP (.int (n:Nat)))) le σ (back σ.length E) (.p (.int (T.length+n:Nat))):=fun n h=>PX (Ke (gv h) cS) TH;have end_:∀t,iW σ.length ((53,.ref 0)::(12,.p (.list (aq (wd T))))::t) σ (fun o ah=>cz σ.length ah o Q) (back σ.length E):=fun t=>by
  refine dC.pp (Eg cS) (aU.pp add_int (kT (m:=T.length+1) w.start (le_trans (by assumption) (bl rfl)) (succ_pos _) (le_trans (add_le_add_right (by assumption) _) (bl rfl)) fun j fU hj s1 w1=>az.p5 (qB (l:=signs) (m:=5) w1 (le_trans (add_le_add_right (by assumption) _) (bl rfl)) (bl rfl) (by decide) rfl fun x σ2 hx s2 w2=>?_)));show(bW (bx (bx t 70 (.p (.int (j:Nat)))) 32 (.p (.str x))) 70).elim _ _;rw[iO _ _ (by decide),bQ];show(bW (bx (bx t 70 (.p (.int (j:Nat)))) 32 (.p (.str x))) 32).elim _ _;rw[bQ];refine az.p1 (Kd (ws:=wd T) (more:=[x]) (by rw[length_map,length_singleton];omega) ?_);show(bW (bx (bx t 70 (.p (.int (j:Nat)))) 32 (.p (.str x))) 70).elim _ _;rw[iO _ _ (by decide),bQ];exact Sz ts len (Nat.le_of_lt_succ hj) hx (w.give w2 (le_refl _) q)
 have rest:∀t,fD σ.length ((53,.ref 0)::(12,.p (.list (aq (wd T))))::t) σ (fun o ah=>cz σ.length ah o Q) (back σ.length E):=fun t=>
  step (C:=ak) (yes t5 (cat [fK,Sw,sC] (by decide) rfl) (at_ 1 rfl)) (step (C:=ak) (yes t6 (cat [fK,.nm "new",.kw .flag,.nu "65536",sC] (by decide) rfl) (at_ 3 rfl)) (step (C:=ak) (yes t7 (cat [fK,.nm "new",.kw .flag,.nm "N1",sC] (by decide) rfl) (at_ 3 rfl))
   (TJ (C:=ak) (yes t8 (cat [fK,.nm "new",.kw .flag,.nu "-1",sC] (by decide) rfl) (at_ 3 rfl)) (yes t9 (cat [fK,.nu "9",sC] (by decide) rfl) (at_ 1 rfl)) (TJ (C:=ak) (yes t10 (cat [.nm "rows"] (by decide) rfl) (Ke (gv rfl) cS)) (yes t11 (cat [semi] (by decide) rfl) (Ke (gv rfl) cS)) (end_ t)))))
 have loop:iX σ.length [(53,.ref 0),(12,.p (.list (aq (wd T))))] σ (fun o ah=>cz σ.length ah o Q) (back σ.length E):=by
  refine(SA (E:=back σ.length E) (σ:=σ) (k0:=σ.length) (le:=[(53,.ref 0),(12,.p (.list (aq (wd T))))]) M4 (by decide) (by decide)).q (fun v ah=>Nj ah v fun src ah=>WC src (.one 74) (f9 σ.length) [(53,.ref 0),(12,.p (.list (aq (wd T))))] ah (cB (fD σ.length) (fun o ah=>cz σ.length ah o Q) (back σ.length E)) (back σ.length E)) ?_;refine .mk _ (.list _) (by rw[length_map];exact bl rfl) ⟨AS (nK:=fun x:Lk=>P.list (aq (wd x))) (L:=fun t=>(53,.ref 0)::(12,.p (.list (aq (wd T))))::t) M4 (fun x hx t K qK=>⟨_,rfl,?_⟩) [] rest⟩;have xl:x.length≤10:=(show ∀x∈M4,x.length≤10 by decide) x hx;have g74:bW (bx t 74 (V.p (.list (aq (wd x))))) 74=some (V.p (.list (aq (wd x)))):=bQ ..;show f9 σ.length ((53,.ref 0)::(12,.p (.list (aq (wd T))))::bx t 74 (V.p (.list (aq (wd x))))) σ K (back σ.length E);generalize bx t 74 (V.p (.list (aq (wd x))))=t' at g74 ⊢;have five:jB σ.length ((53,.ref 0)::(12,.p (.list (aq (wd T))))::bx t' 43 (.p (.int (T.length+XG x:Nat)))) σ K (back σ.length E):=by
   refine step (C:=ak) (yes (t4 x hx) ?_ (gv (bQ ..))) (qK _);have:=AR (a:=T++[jH,mh]++x) (b:=[Sw,sE]) (AR (a:=T++[jH,mh]) (b:=x) (cat (le:=(53,.ref 0)::(12,.p (.list (aq (wd T))))::bx t' 43 (.p (.int (T.length+XG x:Nat)))) (k0:=σ.length) [jH,mh] (by decide) rfl) (gv (i:=74) ((iO _ _ (by decide)).trans g74)) (by simp only[length_append,length_cons,length_nil];omega)) (oq (k0:=σ.length) [Sw,sE] (by decide)) (by simp only[length_append,length_cons,length_nil];omega)
   rwa [show T++[jH,mh]++x++[Sw,sE]=T++([jH,mh]++x++[Sw,sE]) by simp]at this
  refine dC.pp (Eg cS) ?_;show(bW t' 74).elim _ _;rw[g74];refine dC.pp (Eg (le_trans xl (bl rfl))) (aF.pp eq_int (aT.mk (fun h=>aU.pp add_int ?_) fun h=>aU.pp add_int ?_))
  ·have:XG x=5:=if_pos (Int.ofNat.inj (of_decide_eq_true h));rw[this]at five;exact five
  ·have:XG x=3:=if_neg fun z=>of_decide_eq_false h (congrArg _ z);rw[this]at five;exact five
 refine⟨step (C:=ak) (yes t1 ?_ (at_ 3 rfl)) (step (C:=ak) (wU (cat [jH,mh,sC,.nm "nowhere",sE] (by decide) rfl) (at_ 3 rfl) (⟨cG ts (by decide+kernel),le_trans (more (by decide)) (bl rfl)⟩:o8 (T++[jH,mh,sC,.nm "nowhere",sE])) (by rw[length_append];exact add_le_add_left (by decide) _) (by rw[bad,length_append,Nat.add_sub_add_left];rfl)) (step (C:=ak) (yes t3 (cat [jH,.nm "liga5",sC,Sw,sE] (by decide) rfl) (at_ 1 rfl)) loop))⟩;have:=PV (E:=back σ.length E) (σ:=σ) (le:=[(53,.ref 0),(12,.p (.list (aq (wd T))))]) (ca:=aa 12) (cb:=cT .len (aa 12)) (cc:=aw σ.length ([jH,mh,sC,sE].map fun t=>cP (.str t.str))) (a:=T) (b:=[]) (m:=[jH,mh,sC,sE]) (by rw[append_nil];exact gv rfl) (Ke (gv rfl) cS) (oq _ (by decide)) (by rw[append_nil];omega) (by decide)
 rwa [append_nil]at this
end
theorem P4(ns:List Int)(h:ns.length≤63):N2 0 [(idOf "script",.p (.list (ns.map P.int)))] [] (fun o U=>o= .ret (.p (.bool true))) (fun U U=>False):=by
 rw[show idOf "script" =10 by kernel_rfl];refine Zr h fun w0=>Xz w0 (zero_le _) fun aY fs fU d s1 w1=>?_;have p:Part (aY,fs):=d.part (by
  have:=tT (l1:=aY) (l2:=[]) (f1:=fs) (f2:=[]) (.inr rfl) (by
   obtain⟨l,ls,rfl⟩:=d.ne;exact fun z=>nomatch z)
  rwa [append_nil,append_nil]at this)
 refine p.words ?_;refine Io (ts:=bz aY++bI fs) d.tR ?_;rw[(G3 p.cS p.ll p.fl d.whole:tN (bz aY++bI fs)=mf aY fs)];refine aF.pp (Mi (n:=9) (J4 aY fs) rfl) (aT.mk (fun z=>nomatch z) fun U=>?_);refine TG d w1 (by simp+arith [*]) fun σ2 s2 w2=>?_;refine aT.mk (fun z=>nomatch z) fun U=>?_;refine TG d w2 (by omega) fun σ3 s3 w3=>?_;refine aT.mk (fun z=>nomatch z) fun U=>?_;obtain⟨l,ls,rfl⟩:=d.ne;have hl:=d.Vl l (.head _);obtain⟨x,xs,hx⟩:∃x xs,l.rows=x::xs:=by
  generalize hz:l.rows=gg;induction gg with
  |nil=>exact absurd hz hl.ne
  |cons x xs=>exact⟨x,xs,rfl⟩
 obtain⟨hd,eh,n1,_,_⟩:=AV l;have len:(bz (l::ls)++bI fs).length≤1000:=le_trans d.len (bl rfl);have e:bz (l::ls)++bI fs=hd++ .sg .lc::(aR l.rows++ .sg .rc::(bz ls++bI fs)):=by rw[tU,eh,append_assoc];rfl
 refine⟨.index _ rfl,vE (t:=.sg .lc) rfl d.ts len e n1 (aU.pp (len_eq l eh▸add_int) (kT (m:=3) w3 (by grind only) (by decide) (by decide) fun j σ4 hj s4 w4=>?_))⟩;refine aF.pp eq_int (aT.mk (fun U=>?_) fun U=>aF.pp eq_int (aT.mk (fun U=>?_) fun U=>?_))
 ·have e0:l.rows.map (fun x=>fG (bw x))=fG (bw x)::xs.map fun x=>fG (bw x):=by rw[hx];rfl
  exact aW.pp vB (aW.pp (aO (k:=0) rfl (zero_le _)) (aW.pp (aO (k:=2) rfl (by decide)) (aW.pp (aO (k:=0) (congrArg (·[0]?) e0) (zero_le _)) (VF hx d rfl))))
 ·exact VC d rfl
 ·exact VG d w4 (by grind only) fun U U U=>rfl
noncomputable abbrev KP(P:Params):Frag:=hd.heap_1 P
section
local macro_rules |`(tactic|rfl)=>`(tactic|kernel_rfl)
abbrev CG(P:Params)(T:Tab)(a:Nat)(t:Ls)(c:Nat→CO):Prop:=FC (KP P) T a (fdOf (KP P) a).scope t (bodyOf (fdOf (KP P) a)) c
abbrev DG(P:Params)(a:Nat)(ns:Ls):Prop:=XY (KP P) a (fdOf (KP P) a) (bodyOf (fdOf (KP P) a)) ns
theorem oQ{P:Params}{H0:Heap}{n:Nat}{T:Tab}(h:dh (KP P) H0 n T):dh (KP P) H0 (n+2) T:=h.more (le_add_right _ 2)
theorem wV(P:Params):CG P T0 78 [] oB:=fun k0=>by rfl
theorem wW(P:Params):DG P 78 ["self","lookups","features"]:=aI (by rfl) (yh fun a b c=>by rfl)
theorem mE(P:Params):CG P T0 88 [] gI:=fun k0=>by rfl
theorem mF(P:Params):DG P 88 ["self","name"]:=aI (by rfl) (gw fun a b=>by rfl)
theorem rP(P:Params):CG P T0 109 [] j3:=fun k0=>by rfl
theorem rQ(P:Params):DG P 109 ["self","name","flag","rows"]:=aI (by rfl) (UE fun a b c d=>by rfl)
theorem yu(P:Params):CG P T0 149 [] pD:=fun k0=>by rfl
theorem yw(P:Params):DG P 149 ["self","kind","parts"]:=aI (by rfl) (yh fun a b c=>by rfl)
theorem yx(P:Params):CG P T0 156 [] pF:=fun k0=>by rfl
theorem yy(P:Params):DG P 156 ["self"]:=aI (by rfl) (iz fun a=>by rfl)
theorem yz(P:Params):CG P T0 163 [] pH:=fun k0=>by rfl
theorem yC(P:Params):DG P 163 ["self"]:=aI (by rfl) (iz fun a=>by rfl)
theorem yD(P:Params):CG P T0 170 [] pI:=fun k0=>by rfl
theorem yE(P:Params):DG P 170 ["self"]:=aI (by rfl) (iz fun a=>by rfl)
theorem tV(P:Params):CG P T0 191 [] lE:=fun k0=>by rfl
theorem tW(P:Params):DG P 191 ["self","tag","script","language","lookups"]:=aI (by rfl) (Zh fun a b c d e=>by rfl)
theorem tX(P:Params):CG P T0 198 [] lF:=fun k0=>by rfl
theorem tY(P:Params):DG P 198 ["self"]:=aI (by rfl) (iz fun a=>by rfl)
theorem IW(P:Params):CG P T0 212 [] B4:=fun k0=>by rfl
theorem IX(P:Params):DG P 212 ["text","at","signs"]:=aI (by rfl) (yh fun a b c=>by rfl)
theorem IY(P:Params):CG P T0 219 [] B5:=fun k0=>by rfl
theorem IZ(P:Params):DG P 219 ["text","at"]:=aI (by rfl) (gw fun a b=>by rfl)
theorem I0(P:Params):CG P T0 240 [] B6:=fun k0=>by rfl
theorem I1(P:Params):DG P 240 ["word"]:=aI (by rfl) (iz fun a=>by rfl)
theorem tZ(P:Params):CG P T0 261 [] lH:=fun k0=>by rfl
theorem ua(P:Params):DG P 261 ["self"]:=aI (by rfl) (iz fun a=>by rfl)
theorem rR(P:Params):CG P T0 268 [] j6:=fun k0=>by rfl
theorem rS(P:Params):DG P 268 ["self","what"]:=aI (by rfl) (gw fun a b=>by rfl)
theorem uc(P:Params):CG P T0 275 [] lJ:=fun k0=>by rfl
theorem ud(P:Params):DG P 275 ["self"]:=aI (by rfl) (iz fun a=>by rfl)
theorem Ej(P:Params):CG P T0 369 [] xF:=fun k0=>by rfl
theorem Ek(P:Params):DG P 369 ["items"]:=aI (by rfl) (iz fun a=>by rfl)
theorem I2(P:Params):CG P T0 429 ["return"] B7:=fun k0=>by rfl
theorem I3(P:Params):DG P 429 ["script"]:=aI (by rfl) (iz fun a=>by rfl)
theorem G6(P:Params):CG P T0 436 [] zF:=fun k0=>by rfl
theorem G8(P:Params):DG P 436 ["pen","many"]:=aI (by rfl) (gw fun a b=>by rfl)
theorem El(P:Params):CG P T0 444 [] xG:=fun k0=>by rfl
theorem Em(P:Params):DG P 444 []:=aI (by rfl) (len0 (by rfl))
theorem G9(P:Params):CG P T0 480 [] zG:=fun k0=>by rfl
theorem Hf(P:Params):DG P 480 ["row"]:=aI (by rfl) (iz fun a=>by rfl)
theorem wX(P:Params):CG P T0 497 [] oE:=fun k0=>by rfl
theorem wY(P:Params):DG P 497 ["glyphs","is_long"]:=aI (by rfl) (gw fun a b=>by rfl)
theorem ue(P:Params):CG P T0 502 [] lM:=fun k0=>by rfl
theorem uf(P:Params):DG P 502 ["worth","is_long"]:=aI (by rfl) (gw fun a b=>by rfl)
theorem qE(P:Params):CG P T0 523 [] jv:=fun k0=>by rfl
theorem qF(P:Params):DG P 523 ["feature","longs"]:=aI (by rfl) (gw fun a b=>by rfl)
theorem Ms(P:Params):CG P T0 544 [] FQ:=fun k0=>by rfl
theorem Mt(P:Params):DG P 544 ["words","index"]:=aI (by rfl) (gw fun a b=>by rfl)
theorem En(P:Params):CG P T0 556 [] xH:=fun k0=>by rfl
theorem Eo(P:Params):DG P 556 ["words","wanted"]:=aI (by rfl) (gw fun a b=>by rfl)
theorem I4(P:Params):CG P T0 563 [] B8:=fun k0=>by rfl
theorem I5(P:Params):DG P 563 ["words","index","more"]:=aI (by rfl) (yh fun a b c=>by rfl)
theorem XH{P:Params}{H0:Heap}(kd:KD (KP P)):dh (KP P) H0 2 T1:=have h:=dh.none;(((((((((((((((((((((((((((oQ h).wa (a9 h kd (wW P) (by rfl) [] (wV P)) (by rfl) (by rfl) (by rfl)).fu (a9 h kd (mF P) (by rfl) [] (mE P)) (by rfl) (by rfl)).wa (a9 h kd (rQ P) (by rfl) [] (rP P)) (by rfl) (by rfl) (by rfl)).wa (a9 h kd (yw P) (by rfl) [] (yu P)) (by rfl) (by rfl) (by rfl)).fu (a9 h kd (yy P) (by rfl) [] (yx P)) (by rfl) (by rfl)).fu (a9 h kd (yC P) (by rfl) [] (yz P)) (by rfl) (by rfl)).fu (a9 h kd (yE P) (by rfl) [] (yD P)) (by rfl) (by rfl)).wa (a9 h kd (tW P) (by rfl) [] (tV P)) (by rfl) (by rfl) (by rfl)).fu (a9 h kd (tY P) (by rfl) [] (tX P)) (by rfl) (by rfl)).bh (a9 h kd (IX P) (by rfl) [] (IW P)) (by rfl)).bh (a9 h kd (IZ P) (by rfl) [] (IY P)) (by rfl)).bh (a9 h kd (I1 P) (by rfl) [] (I0 P)) (by rfl)).fu (a9 h kd (ua P) (by rfl) [] (tZ P)) (by rfl) (by rfl)).fu (a9 h kd (rS P) (by rfl) [] (rR P)) (by rfl) (by rfl)).fu (a9 h kd (ud P) (by rfl) [] (uc P)) (by rfl) (by rfl)).bh (a9 h kd (Ek P) (by rfl) [] (Ej P)) (by rfl)).bh (a9 h kd (I3 P) (by rfl) ["return"] (I2 P)) (by rfl)).bh (a9 h kd (G8 P) (by rfl) [] (G6 P)) (by rfl)).bh (a9 h kd (Em P) (by rfl) [] (El P)) (by rfl)).bh (a9 h kd (Hf P) (by rfl) [] (G9 P)) (by rfl)).bh (a9 h kd (wY P) (by rfl) [] (wX P)) (by rfl)).bh (a9 h kd (uf P) (by rfl) [] (ue P)) (by rfl)).bh (a9 h kd (qF P) (by rfl) [] (qE P)) (by rfl)).bh (a9 h kd (Mt P) (by rfl) [] (Ms P)) (by rfl)).bh (a9 h kd (Eo P) (by rfl) [] (En P)) (by rfl)).bh (a9 h kd (I5 P) (by rfl) [] (I4 P)) (by rfl))
theorem rT(P:Params):CG P T1 114 [] j7:=fun k0=>by rfl
theorem rU(P:Params):DG P 114 ["self"]:=aI (by rfl) (iz fun a=>by rfl)
theorem Hg(P:Params):CG P T1 226 [] zI:=fun k0=>by rfl
theorem Hh(P:Params):DG P 226 ["text","at"]:=aI (by rfl) (gw fun a b=>by rfl)
theorem ug(P:Params):CG P T1 282 [] lN:=fun k0=>by rfl
theorem uh(P:Params):DG P 282 ["self","word"]:=aI (by rfl) (gw fun a b=>by rfl)
theorem um(P:Params):CG P T1 296 [] lP:=fun k0=>by rfl
theorem uo(P:Params):DG P 296 ["self"]:=aI (by rfl) (iz fun a=>by rfl)
theorem rV(P:Params):CG P T1 303 [] j9:=fun k0=>by rfl
theorem rW(P:Params):DG P 303 ["self"]:=aI (by rfl) (iz fun a=>by rfl)
theorem qG(P:Params):CG P T1 310 [] jw:=fun k0=>by rfl
theorem qH(P:Params):DG P 310 ["self","low","high"]:=aI (by rfl) (yh fun a b c=>by rfl)
theorem vF(P:Params):CG P T1 317 [] mS:=fun k0=>by rfl
theorem vG(P:Params):DG P 317 ["self"]:=aI (by rfl) (iz fun a=>by rfl)
theorem AW(P:Params):CG P T1 345 [] se:=fun k0=>by rfl
theorem AX(P:Params):DG P 345 ["reader"]:=aI (by rfl) (iz fun a=>by rfl)
theorem Ep(P:Params):CG P T1 357 ["actions"] xJ:=fun k0=>by rfl
theorem Er(P:Params):DG P 357 ["word","items","uses"]:=aI (by rfl) (yh fun a b c=>by rfl)
theorem AY(P:Params):CG P T1 391 [] sf:=fun k0=>by rfl
theorem AZ(P:Params):DG P 391 ["reader","begun"]:=aI (by rfl) (gw fun a b=>by rfl)
theorem Es(P:Params):CG P T1 403 [] xK:=fun k0=>by rfl
theorem Et(P:Params):DG P 403 ["reader","rows","row","where"]:=aI (by rfl) (UE fun a b c d=>by rfl)
theorem Eu(P:Params):CG P T1 451 [] xM:=fun k0=>by rfl
theorem Ew(P:Params):DG P 451 ["pen"]:=aI (by rfl) (iz fun a=>by rfl)
theorem Ey(P:Params):CG P T1 463 [] xN:=fun k0=>by rfl
theorem Ez(P:Params):DG P 463 ["pen"]:=aI (by rfl) (iz fun a=>by rfl)
theorem wZ(P:Params):CG P T1 509 [] oF:=fun k0=>by rfl
theorem w9(P:Params):DG P 509 ["row","longs"]:=aI (by rfl) (gw fun a b=>by rfl)
theorem XI{P:Params}{H0:Heap}(kd:KD (KP P)):dh (KP P) H0 4 T2:=have h:=XH kd;(((((((((((((((oQ h).fu (a9 h kd (rU P) (by rfl) [] (rT P)) (by rfl) (by rfl)).bh (a9 h kd (Hh P) (by rfl) [] (Hg P)) (by rfl)).fu (a9 h kd (uh P) (by rfl) [] (ug P)) (by rfl) (by rfl)).fu (a9 h kd (uo P) (by rfl) [] (um P)) (by rfl) (by rfl)).fu (a9 h kd (rW P) (by rfl) [] (rV P)) (by rfl) (by rfl)).fu (a9 h kd (qH P) (by rfl) [] (qG P)) (by rfl) (by rfl)).fu (a9 h kd (vG P) (by rfl) [] (vF P)) (by rfl) (by rfl)).bh (a9 h kd (AX P) (by rfl) [] (AW P)) (by rfl)).bh (a9 h kd (Er P) (by rfl) ["actions"] (Ep P)) (by rfl)).bh (a9 h kd (AZ P) (by rfl) [] (AY P)) (by rfl)).bh (a9 h kd (Et P) (by rfl) [] (Es P)) (by rfl)).bh (a9 h kd (Ew P) (by rfl) [] (Eu P)) (by rfl)).bh (a9 h kd (Ez P) (by rfl) [] (Ey P)) (by rfl)).bh (a9 h kd (w9 P) (by rfl) [] (wZ P)) (by rfl))
theorem xd(P:Params):CG P T2 83 [] oG:=fun k0=>by rfl
theorem xe(P:Params):DG P 83 ["self"]:=aI (by rfl) (iz fun a=>by rfl)
theorem xf(P:Params):CG P T2 233 ["found"] oJ:=fun k0=>by rfl
theorem xg(P:Params):DG P 233 ["text"]:=aI (by rfl) (iz fun a=>by rfl)
theorem uq(P:Params):CG P T2 289 [] lX:=fun k0=>by rfl
theorem ur(P:Params):DG P 289 ["self","word"]:=aI (by rfl) (gw fun a b=>by rfl)
theorem vH(P:Params):CG P T2 331 ["found"] mU:=fun k0=>by rfl
theorem vI(P:Params):DG P 331 ["reader"]:=aI (by rfl) (iz fun a=>by rfl)
theorem Bu(P:Params):CG P T2 364 ["found"] uW:=fun k0=>by rfl
theorem Bv(P:Params):DG P 364 ["reader"]:=aI (by rfl) (iz fun a=>by rfl)
theorem Hi(P:Params):CG P T2 458 ["found"] zK:=fun k0=>by rfl
theorem Hj(P:Params):DG P 458 ["pen","least_count","most"]:=aI (by rfl) (yh fun a b c=>by rfl)
theorem rX(P:Params):CG P T2 516 [] kq:=fun k0=>by rfl
theorem rY(P:Params):DG P 516 ["lookup","longs"]:=aI (by rfl) (gw fun a b=>by rfl)
theorem XJ{P:Params}{H0:Heap}(kd:KD (KP P)):dh (KP P) H0 6 T3:=have h:=XI kd;((((((((oQ h).fu (a9 h kd (xe P) (by rfl) [] (xd P)) (by rfl) (by rfl)).bh (a9 h kd (xg P) (by rfl) ["found"] (xf P)) (by rfl)).fu (a9 h kd (ur P) (by rfl) [] (uq P)) (by rfl) (by rfl)).bh (a9 h kd (vI P) (by rfl) ["found"] (vH P)) (by rfl)).bh (a9 h kd (Bv P) (by rfl) ["found"] (Bu P)) (by rfl)).bh (a9 h kd (Hj P) (by rfl) ["found"] (Hi P)) (by rfl)).bh (a9 h kd (rY P) (by rfl) [] (rX P)) (by rfl))
theorem uu(P:Params):CG P T3 254 [] lZ:=fun k0=>by rfl
theorem uw(P:Params):DG P 254 ["self","text","names"]:=aI (by rfl) (yh fun a b c=>by rfl)
theorem EA(P:Params):CG P T3 338 ["lookups"] xO:=fun k0=>by rfl
theorem EB(P:Params):DG P 338 ["reader"]:=aI (by rfl) (iz fun a=>by rfl)
theorem mG(P:Params):CG P T3 374 [] gK:=fun k0=>by rfl
theorem mH(P:Params):DG P 374 ["reader","items"]:=aI (by rfl) (gw fun a b=>by rfl)
theorem Bw(P:Params):CG P T3 379 [] uY:=fun k0=>by rfl
theorem Bx(P:Params):DG P 379 ["reader"]:=aI (by rfl) (iz fun a=>by rfl)
theorem yF(P:Params):CG P T3 417 ["lookups"] pT:=fun k0=>by rfl
theorem yG(P:Params):DG P 417 ["reader","uses"]:=aI (by rfl) (gw fun a b=>by rfl)
theorem EC(P:Params):CG P T3 468 ["actions"] xP:=fun k0=>by rfl
theorem ED(P:Params):DG P 468 ["pen","names"]:=aI (by rfl) (gw fun a b=>by rfl)
theorem EF(P:Params):CG P T3 530 [] xQ:=fun k0=>by rfl
theorem EG(P:Params):DG P 530 ["tree","longs"]:=aI (by rfl) (gw fun a b=>by rfl)
theorem XK{P:Params}{H0:Heap}(kd:KD (KP P)):dh (KP P) H0 8 T4:=have h:=XJ kd;((((((((oQ h).wa (a9 h kd (uw P) (by rfl) [] (uu P)) (by rfl) (by rfl) (by rfl)).bh (a9 h kd (EB P) (by rfl) ["lookups"] (EA P)) (by rfl)).bh (a9 h kd (mH P) (by rfl) [] (mG P)) (by rfl)).bh (a9 h kd (Bx P) (by rfl) [] (Bw P)) (by rfl)).bh (a9 h kd (yG P) (by rfl) ["lookups"] (yF P)) (by rfl)).bh (a9 h kd (ED P) (by rfl) ["actions"] (EC P)) (by rfl)).bh (a9 h kd (EG P) (by rfl) [] (EF P)) (by rfl))
theorem By(P:Params):CG P T4 352 ["items"] uZ:=fun k0=>by rfl
theorem BA(P:Params):DG P 352 ["reader"]:=aI (by rfl) (iz fun a=>by rfl)
theorem qI(P:Params):CG P T4 384 [] jy:=fun k0=>by rfl
theorem qJ(P:Params):DG P 384 ["reader","items"]:=aI (by rfl) (gw fun a b=>by rfl)
theorem I6(P:Params):CG P T4 473 [] B9:=fun k0=>by rfl
theorem I7(P:Params):DG P 473 ["pen","kind","names"]:=aI (by rfl) (yh fun a b c=>by rfl)
theorem XM{P:Params}{H0:Heap}(kd:KD (KP P)):dh (KP P) H0 10 T5:=have h:=XK kd;((((oQ h).bh (a9 h kd (BA P) (by rfl) ["items"] (By P)) (by rfl)).bh (a9 h kd (qJ P) (by rfl) [] (qI P)) (by rfl)).bh (a9 h kd (I7 P) (by rfl) [] (I6 P)) (by rfl))
theorem Hl(P:Params):CG P T5 398 [] zQ:=fun k0=>by rfl
theorem Ho(P:Params):DG P 398 ["reader","uses"]:=aI (by rfl) (gw fun a b=>by rfl)
theorem BB(P:Params):CG P T5 485 ["rows"] u1:=fun k0=>by rfl
theorem BC(P:Params):DG P 485 ["pen","name","names"]:=aI (by rfl) (yh fun a b c=>by rfl)
theorem XN{P:Params}{H0:Heap}(kd:KD (KP P)):dh (KP P) H0 12 T6:=have h:=XM kd;(((oQ h).bh (a9 h kd (Ho P) (by rfl) [] (Hl P)) (by rfl)).bh (a9 h kd (BC P) (by rfl) ["rows"] (BB P)) (by rfl))
theorem A0(P:Params):CG P T6 410 ["rows"] sF:=fun k0=>by rfl
theorem A1(P:Params):DG P 410 ["reader","uses"]:=aI (by rfl) (gw fun a b=>by rfl)
theorem xh(P:Params):CG P T6 490 ["features"] oM:=fun k0=>by rfl
theorem xj(P:Params):DG P 490 ["pen"]:=aI (by rfl) (iz fun a=>by rfl)
theorem XO{P:Params}{H0:Heap}(kd:KD (KP P)):dh (KP P) H0 14 T7:=have h:=XN kd;(((oQ h).bh (a9 h kd (A1 P) (by rfl) ["rows"] (A0 P)) (by rfl)).bh (a9 h kd (xj P) (by rfl) ["features"] (xh P)) (by rfl))
theorem BD(P:Params):CG P T7 424 ["uses"] u3:=fun k0=>by rfl
theorem BE(P:Params):DG P 424 ["text","names"]:=aI (by rfl) (gw fun a b=>by rfl)
theorem XQ{P:Params}{H0:Heap}(kd:KD (KP P)):dh (KP P) H0 16 T8:=have h:=XO kd;((oQ h).bh (a9 h kd (BE P) (by rfl) ["uses"] (BD P)) (by rfl))
theorem EH(P:Params):CG P T8 537 [] xR:=fun k0=>by rfl
theorem EI(P:Params):DG P 537 ["words"]:=aI (by rfl) (iz fun a=>by rfl)
theorem XR{P:Params}{H0:Heap}(kd:KD (KP P)):dh (KP P) H0 18 T9:=have h:=XQ kd;((oQ h).bh (a9 h kd (EI P) (by rfl) [] (EH P)) (by rfl))
theorem EJ(P:Params):CG P T9 551 [] xS:=fun k0=>by rfl
theorem EK(P:Params):DG P 551 ["words","index"]:=aI (by rfl) (gw fun a b=>by rfl)
theorem VH{P:Params}{H0:Heap}(kd:KD (KP P)):dh (KP P) H0 20 VU:=have h:=XR kd;((oQ h).bh (a9 h kd (EK P) (by rfl) [] (EJ P)) (by rfl))
theorem vJ(P:Params):CG P VU 568 [] mZ:=fun k0=>by rfl
theorem vK(P:Params):DG P 568 ["tree","row"]:=aI (by rfl) (gw fun a b=>by rfl)
theorem vL(P:Params):CG P VU 582 [] m5:=fun k0=>by rfl
theorem vM(P:Params):DG P 582 ["words","first"]:=aI (by rfl) (gw fun a b=>by rfl)
theorem rZ(P:Params):CG P VU 589 [] kG:=fun k0=>by rfl
theorem r7(P:Params):DG P 589 ["words","begun"]:=aI (by rfl) (gw fun a b=>by rfl)
theorem ux(P:Params):CG P VU 596 [] l8:=fun k0=>by rfl
theorem uy(P:Params):DG P 596 ["pen","words"]:=aI (by rfl) (gw fun a b=>by rfl)
theorem VI{P:Params}{H0:Heap}(kd:KD (KP P)):dh (KP P) H0 22 Zi:=have h:=VH kd;(((((oQ h).bh (a9 h kd (vK P) (by rfl) [] (vJ P)) (by rfl)).bh (a9 h kd (vM P) (by rfl) [] (vL P)) (by rfl)).bh (a9 h kd (r7 P) (by rfl) [] (rZ P)) (by rfl)).bh (a9 h kd (uy P) (by rfl) [] (ux P)) (by rfl))
theorem vN(P:Params):CG P Zi 575 [] m6:=fun k0=>by rfl
theorem vO(P:Params):DG P 575 ["pen","words","tree"]:=aI (by rfl) (yh fun a b c=>by rfl)
theorem VJ{P:Params}{H0:Heap}(kd:KD (KP P)):dh (KP P) H0 24 ZM:=have h:=VI kd;((oQ h).bh (a9 h kd (vO P) (by rfl) [] (vN P)) (by rfl))
theorem VK(P:Params):CG P ZM 603 [] N2:=fun k0=>by rfl
end
noncomputable def Kl(l:List (Str×NameKind)):Bool:=l.all fun x=> !decide (x.2= .cell)
theorem uz{l:List (Str×NameKind)}(h:Kl l=true):∀x∈l,x.2≠ .cell:=fun x hx q=>by have:=all_eq_true.mp h x hx;simp[q]at this
theorem VL(P:Params)(p:Program)(hp:Ja p):K3 (KP P) p fY 48 38 25 37 where
 cls:=⟨⟨_,_,_,_,_,_,_,_,_,_,_,_,_,_,_,_⟩,rfl,by kernel_rfl,by kernel_rfl,by kernel_rfl⟩
 init:=by kernel_rfl
 call:=by kernel_rfl
 typ:=by kernel_rfl
 mro:=⟨(clsIn (KP P) fY).get (by kernel_rfl),(some_get _).symm,by kernel_rfl,by kernel_rfl⟩
 along:=by kernel_rfl
 ZJ:=by kernel_rfl
 Uy:=by kernel_rfl
 NI:=by kernel_rfl
 WO:=by kernel_rfl
 cell:=⟨_,_,_,rfl⟩
 WQ:=⟨(clsIn (KP P) 48).get (by kernel_rfl),(some_get _).symm⟩
 super:=by kernel_rfl
 top:=hp.1
 code:=⟨_,_,_,_,_,_,rfl,rfl,hp.2⟩
 fn:=⟨⟨_,_,_,_,_,_,_,_,_,_,_,_,_,_,_,_,_,_,_,_,_,_,_,_,_,_⟩,rfl,by kernel_rfl,by kernel_rfl,by kernel_rfl,by kernel_rfl,by kernel_rfl,uz (by kernel_rfl),by kernel_rfl,by kernel_rfl,by kernel_rfl,by kernel_rfl,by kernel_rfl,⟨_,rfl,rfl⟩,fun a b c S=>by kernel_rfl⟩
theorem kd(P:Params):KD (KP P) where
 exc:=⟨48,38,25,37,VL P,by decide,by kernel_rfl⟩
 keep:=by kernel_rfl
 base:=by kernel_rfl
 self:=by kernel_rfl
 cls:=fun p Q=>by kernel_rfl
 typ:=by kernel_rfl
 ga:=by kernel_rfl
 gt:=by kernel_rfl
 HK:=by kernel_rfl
 at_:=by kernel_rfl
theorem attrs(P:Params):∀c i,Hp c i=true→i<ids.length∧CJ (KP P) c (ident i)=true:=by
 have h:(CH.all fun p=>p.2.all fun x=>decide (MH.idxOf x<ids.length)&&CJ (KP P) p.1 (ident (MH.idxOf x)))=true:=by kernel_rfl
 intro c i hi;simp only[Hp,any_eq_true,and_eq_true,beq_iff_eq,List.contains_iff_mem,mem_map]at hi;obtain⟨p,hp,rfl,x,hx,rfl⟩:=hi;have:=all_eq_true.mp (all_eq_true.mp h p hp) x hx
 simpa using this
end
section
open PySem PySem.W PySem.Calls PyProof.Rows
noncomputable def Zw(h:Heap)(v:Value)(d:WData):Prop:=match d with| .list U=>∃a,∃vs:Lv,v= .ref a∧h.get? a=some {cls:=.type "list",data:=.seq vs.toArray}|U=>True
theorem SD{Q:Params}{h:Heap}{v:Value}{d:WData}(W:Well Q h v d):Zw h v d:=by
 induction W using Well.casesOn with
 |list e U=>exact⟨_,_,rfl,e⟩
 |_=>trivial
theorem P5{B:Fz}{vs:Lv}{ns:List Int}(h:IntsAre vs ns):aG B vs (ns.map P.int):=by
 induction h with
 |nil=>exact .nil
 |cons x t h ih=>exact .cons (.int _ _) ih
theorem SG{h:Heap}{Q:Params}{a:Addr}{ns:List Int}{its:Lv}(W:Well Q h (.ref a) (ofPy (.list (ns.map PyData.int))))(hI:IntsAre its ns)(hL:h.IsList a its.toArray):Is (fun b=>h.get? b) (.ref a) (.list (ns.map P.int)):=by
 obtain⟨o,ho,hc,n,hd⟩:=hL;obtain⟨b,vs,eb,hv⟩:=SD W;injection eb with eb;rw[←eb]at hv;obtain rfl:=Option.some.inj (ho.symm.trans hv);injection hd with q;have q:vs=its:=congrArg Array.toList q;exact .list hv (q▸P5 hI)
noncomputable abbrev SH:Program:=Challenge.rw_nu0231_01.row.prog
theorem VM:Ja SH:=⟨by kernel_rfl,by kernel_rfl⟩
def X0(w:World)(h:Heap)(en:Env)(s:Shared):Fx:={prog:=SH,w:=w,K:=KP w.params,H0:=h,A:=callerA.deeper en,P:=fun _=>none,n0:=en.locals,k0:=0,s0:=s,outer:=[en],envs:=[en]}
section
variable {w:World}{h:Heap}{en:Env}{s:Shared}{m:Str→Option Value}
theorem Zx(pr:(X0 w h en s).eS=[en.locals,en.locals])(fr:en.frame=some en.locals)(kd:en.scope.kind≠ .module)(KX:(KP w.params).In h)(T:∃p loose mg mb,TopRead p loose mg mb h)(F:Fr h en.locals s.heap m)(new:h.get? en.locals=none):Rel (X0 w h en s) (fun b=>h.get? b) [] [] s where
 gl:=⟨KX,attrs _,T,VM⟩
 same:=⟨s.heap,s.toks,rfl⟩
 kH:=fun U V h=>h
 kP:=fun b o h=>by have h:none=some o:=h;contradiction
 kB:=F.keep
 len:=rfl
 objs:=fun i ad o h=>by trivial
 own:=fun i ad o a h=>by trivial
 inj:=fun i j ad o ic o' a h=>by trivial
 young:=fun i ad U h=>by contradiction
 cA:=fun x hx=>by
  rw[pr]at hx;have hx:x=en.locals:=(mem_cons.mp hx).elim id mem_singleton.mp;rw[hx];exact⟨new,rfl,F.ns.casesOn fun o e=>e.casesOn fun U e=>e.casesOn fun V e=>⟨o,e.1⟩⟩
 pg:=fun e he=>by rw[mem_singleton.mp he];exact⟨kd,_,_,fr,F.ns⟩
 sz:=by rw[pr];exact .head _
 k0:=le_refl _
theorem Zy{v:P}{a:Value}{x:Str}(F:Fr h en.locals s.heap m)(cl:en.cells=[])(lc:en.scope.names.lookup x=some .local)(hm:m x=some a)(W:Is (fun b=>h.get? b) a v):iw (fun b=>h.get? b) [] en [(idOf x,.p v)] s.heap:=by
 refine⟨⟨⟨m,F.ns⟩,fun y u hx hi=>?_⟩,fun c hc=>by rw[cl]at hc;contradiction⟩;have hx:(if idOf x=idOf y then some (V.p v)else none)=some u:=hx;by_cases e:idOf x=idOf y
 ·rw[if_pos e]at hx;rw[←Option.some.inj hx,idOf_inj hi e.symm];exact .inl ⟨lc,_,_,F.ns,hm,W⟩
 ·rw[if_neg e]at hx;contradiction
theorem SI{T:Tab}{sc:Scope}{le:ai}{b:List Stmt}{c:Nat→CO}(hc:FC (KP w.params) T 603 sc [] b c)(S:UD ⟨KP w.params,sc,0,T,true,[]⟩ (X0 w h en s) en 100)(fr:en.frame=some en.locals)
  (R:Rel (X0 w h en s) (fun b=>h.get? b) [] [] s) (L:iw (fun b=>h.get? b) [] en le s.heap) (F:h.objs.size≤en.locals)
  (VN:c 0 le [] (fun o _=>o= .ret (.p (.bool true))) (fun _ _=>False)) {Q:Flow→Shared→Prop} {E:Value→Shared→Prop}
  (q:∀s' m,Fr h en.locals s'.heap m→s'.gens=s.gens→s'.os=s.os→Q (.ret (.bool true)) s'):
  wpAny (model SH w) (callerA.deeper en) (execs b en) Q E s:=by
 refine wpAny_mono (hc.ok S _ _ _ _ _ R L _ _ VN) (fun f s' z=>?_) fun x s' z=>z.casesOn fun U U U U U U U U U k=>k.elim;induction z with
 |mk B' aP ah o R' a hq e=>
  rw[e]at hq;obtain⟨val,ef,hv⟩:=hq;obtain⟨h',t',e'⟩:=R'.same;obtain⟨U,L,n,hf,hn⟩:=R'.pg en (.head _);rw[ef];refine Is.I9 (G:=fun v=>Q (.ret v) s') hv (q s' n ⟨Option.some.inj (fr.symm.trans hf)▸hn,fun b o h=>R'.kB b o (R'.kH b o h),F⟩ ?_ ?_)
  ·rw[e'];rfl
  ·rw[e'];rfl
end
theorem P6{w:World}{h:Heap}{s:Shared}{a fa:Addr}{cd:Value}{ns:List Int}{name:Str}{m:Str→Option Value}
  (KX:(KP w.params).In h) (T:∃p loose mg mb,TopRead p loose mg mb h) (W:Is (fun b=>h.get? b) (.ref a) (.list (ns.map P.int)))
  (F:Fr h h.objs.size s.heap m) (hm:m "script" =some (.ref a))
  (VN:N2 0 [(idOf "script",.p (.list (ns.map P.int)))] [] (fun o _=>o= .ret (.p (.bool true))) (fun _ _=>False))
  {Q:Flow→Shared→Prop} {E:Value→Shared→Prop}
  (q:∀s' m,Fr h h.objs.size s'.heap m→s'.gens=s.gens→s'.os=s.os→Q (.ret (.bool true)) s'):
  wpAny (model SH w) (callerA.deeper (envOf name (fdOf (KP w.params) 603).scope h.objs.size fa cd)) (execs (bodyOf (fdOf (KP w.params) 603)) (envOf name (fdOf (KP w.params) 603).scope h.objs.size fa cd)) Q E s:=by
 have hk:(fdOf (KP w.params) 603).scope.kind= .function:=by kernel_rfl
 have YX:Kl (fdOf (KP w.params) 603).scope.names=true:=by kernel_rfl
 have hS:vQ (X0 w h (envOf name (fdOf (KP w.params) 603).scope h.objs.size fa cd) s) (envOf name (fdOf (KP w.params) 603).scope h.objs.size fa cd) 100:={
  kind:=hk
  Qq:=rfl,blt:=rfl,mem:=.head _
  room:=⟨rfl,Nat.le_of_ble_eq_true (by kernel_rfl),Nat.le_of_ble_eq_true (by kernel_rfl)⟩
  code:=rfl,MP:=rfl,ne:=cons_ne_nil _ _
  envs:=rfl
  inter:=by kernel_rfl
  frame:=rfl
  apart:=fun e he=>by contradiction
  cells:=fun c hc=>by contradiction
  pair:=.nil
  cellOf:=fun x hx=>absurd rfl (uz YX _ (mem_of_lookup hx))}
 refine SI (VK w.params) ⟨hS,hS.toEnOK,rfl,rfl,le_refl _,⟨24,VJ (kd _),by decide⟩,kd _,fun U=>hS.cellOf⟩ rfl (Zx rfl rfl (fun e=>?_) KX T F ?_) (Zy F rfl (by kernel_rfl) hm W) (le_refl _) VN q
 ·have e:(fdOf (KP w.params) 603).scope.kind= .module:=e;rw[hk]at e;contradiction
 ·show h.get? h.objs.size=none;generalize e:h.get? h.objs.size=g;induction g with
  |none=>rfl
  |some o=>exact absurd (lt_size e) (lt_irrefl _)
noncomputable abbrev XS:=Challenge.rw_nu0231_01.row
theorem XT{b:Bool}(h:(!b)=true):b=false:=by cases b;rfl;contradiction
theorem Zz{aaR:List WData}(VO:XS.claim.pre aaR=true):∃ns:List Int,aaR=[ofPy (.list (ns.map PyData.int))]∧ns.length≤63:=by
 obtain⟨hs,hc⟩:=pre_splitW VO;obtain⟨d,r,e,h1,h2⟩:=hasAllW_cons hs;obtain⟨p,e2,h3⟩:=open_sealed (.list .int) h1;obtain⟨ns,e3⟩:=has_list_int h3;have e:aaR=[ofPy (.list (ns.map .int))]:=by rw[e,hasAllW_nil h2,e2,e3]
 rw[e]at hc;have q:=condW_of (holds_andW hc).1 (w_sealed (.not (.lt (.lit (.int 63)) (.len (.arg 0)))) none (.yes _ .nil) .nil .nil (res_none none) (by rfl) (v_not (v_lt v_lit (v_len_ints_list (v_arg rfl)))));exact⟨ns,e,Int.ofNat_le.mp (Int.not_lt.mp (of_decide_eq_false (XT q)))⟩
theorem ZA{cl:Str→Option Addr}{R:WRecords}{h:Heap}{Q:Params}{vals:Lv}{ns:List Int}{as:List Addr}(Yg:ReadsAllW R cl h vals [ofPy (.list (ns.map PyData.int))] as)(XU:WellAll Q h vals [ofPy (.list (ns.map PyData.int))]):
  ∃a,vals=[.ref a]∧Is (fun b=>h.get? b) (.ref a) (.list (ns.map P.int)):=by
 obtain⟨v,vs,b,c,e,U,h1,h2⟩:=readsAllW_cons_inv Yg;obtain⟨a,l,U,ev,U,hL,h3⟩:=reads_list_items (reads_of_readsW _ h1);rw[e,(readsAllW_nil_inv h2).1,ev]at XU ⊢;exact⟨a,rfl,SG (wellAll_head XU).1 (readsAll_intsAre h3).1 hL⟩
theorem XW{p:PyData}:XS.claim.post [ofPy p] (.bool true) [ofPy p]=true:=postW_of (X:=true ==true) (by rfl) (w_eq_bool (w_res rfl) w_lit) (by rfl)
theorem TL(P:Params):dR.body=bodyOf (fdOf (KP P) 603)∧dR.scope=(fdOf (KP P) 603).scope:=⟨by kernel_rfl,by kernel_rfl⟩
theorem x:PySem.Challenge.rw_nu0231_01.Holds:=
 hd fun w s₀ s mg mb G Y fa o pm cd doc dV kV ho hd hcd hD hmg hg aaR vals as VO hlay Yg XU hlo=>by
  obtain⟨ns,e,hn⟩:=Zz VO;rw[e]at Yg XU ⊢;obtain⟨a,e,hl⟩:=ZA Yg XU;rw[e];rw[hD.none (by kernel_rfl)]at hd;refine enter_call (codeAny_mono (call_fullW (binds:=[("script",.ref a)]) (by decide) ho hd G.T.nolimit hcd (BindsTo.of_eq (by kernel_rfl)) (locs (by kernel_rfl)) (fun h F=>?_) (by kernel_rfl) (by kernel_rfl) (by kernel_rfl) (uz (by kernel_rfl))) fun U V g=>GoodW.toG g);rw[(TL w.params).1,(TL w.params).2];exact P6 (kIn_of Y) ⟨_,_,_,_,topRead_of G.T⟩ hl F rfl (P4 _ hn) fun s' m F' q r=>goodW_bool F' (q.trans hg) (raisesW_false (allW_false_nil)) XW r
end
end
end Mine.Internal
theorem PySem.Challenge.cw_nu0231_01_holds : PySem.Challenge.rw_nu0231_01.Holds :=
  Mine.Internal.x
