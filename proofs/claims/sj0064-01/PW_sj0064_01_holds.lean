import PyProof.Rows.All
import Wide.All
import OpenK.AllK
import Wide.FinOn
import KE.KNestM
import PySem.Challenge.RW_sj0064_01
open Nat renaming le_of_ble_eq_true→Ja0,le_trans→Ja1,eq_of_beq_eq_true→Jb9,le_of_lt→Jc4,beq→Jc5,le_add_right→Jc6,lt_of_lt_of_le→Jc8,lt_of_le_of_lt→Jc9,le_refl→Jd7,le_of_not_lt→Je3,add_le_add_left→Je4,le_of_eq→Je5,succ_le_succ→Je9,le_add_left→Jf3,succ_add_eq_add_succ→Jf4,add_le_add→Jg1,le_succ_of_le→Jg3,le_of_lt_succ→Jg6,add_le_add_right→Jh0,lt_succ_self→Jh4,succ_pos→Ji0,beq_refl→Ji1,zero_le→Ji4
open List renaming length_map→Ja2,getElem?_eq_some_iff→Ja3,mem_singleton→Ja4,getElem?_eq_getElem→Ja5,getD_eq_getElem?_getD→Ja6,forall_mem_cons→Ja7,getElem?_map→Ja8,mem_of_getElem?→Ja9,replicate→Jb1,length_append→Jb2,all_eq_true→Jb3,getElem?_append_left→Jb4,map_append→Jb5,nodup_cons→Jb6,forall_mem_append→Jb8,mem_cons→Jc0,nodup_append→Jc2,not_mem_nil→Jc3,getElem_mem→Jc7,mem_append→Jd0,mem_append_left→Jd2,append_nil→Jd3,length_range→Jd4,length_replicate→Jd6,getElem?_append_right→Jd8,append_assoc→Jd9,map_set→Je0,range→Je1,take_length→Je2,mem_of_mem_take→Je6,mem_append_right→Je8,mem_map→Jf2,getElem?_eq_none→Jf5,prefix_rfl→Jf7,length_filter_le→Jf8,length_take_le'→Jg0,mem_filterMap→Jg4,getElem?_concat_length→Jg5,nodup_nil→Jg8,reverse_cons→Jh1,ext_getElem?→Jh2,length_pos_iff→Jh3,mem_or_eq_of_mem_set→Jh6,getElem?_set→Jh7,foldl_append→Jh8,map_map→Jh9,length_reverse→Ji3,any_eq_true→Ji5,mem_range→Ji6,mem_replicate→Ji8
open Int renaming natCast_nonneg→Jb0,ofNat_lt→Jc1,toNat_natCast→Jf1,ofNat_le→Jf6,fdiv_eq_ediv_of_nonneg→Jf9,toNat_of_nonneg→Jg7,pow_succ→Ji2,lt_of_le_of_lt→Ji9
open Option.some renaming inj→Jb7
open Bool renaming and_eq_true→Jd1,and_eq_true_iff→Jd5,not_eq_true'→Jg2,not_eq_false'→Jh5
open Option renaming map→Je7,isSome_iff_exists→Jg9
open Array renaming length_toList→Jf0
open PyProof.Rows renaming callWith_type→Ji7
set_option genSizeOf false
set_option genInjectivity false
set_option tactic.hygienic false
set_option linter.unusedVariables false
set_option maxRecDepth 100000
open PySem PySem.W PySem.Calls PyProof.Rows
namespace Mine
section
@[elab_as_elim] theorem gen {α:Type} {motive:α→Prop} (a:α) (h:∀ x,motive x):motive a:=h a
theorem ns {α:Type} {a:α} {P:Prop} (h:none=some a):P:=by cases h
theorem ft {P:Prop} (h:false=true):P:=by cases h
theorem tf {P:Prop} (h:true=false):P:=by cases h
theorem gabs {X:Prop} (h:∀ G:Prop,(X→G)→G):X:=h X id
inductive Ex2 {α1 α2:Type} (p:α1→α2→Prop):Prop | mk (a1:α1) (a2:α2) (h:p a1 a2):Ex2 p
inductive Ex3 {α1 α2 α3:Type} (p:α1→α2→α3→Prop):Prop | mk (a1:α1) (a2:α2) (a3:α3) (h:p a1 a2 a3):Ex3 p
inductive Ex4 {α1 α2 α3 α4:Type} (p:α1→α2→α3→α4→Prop):Prop | mk (a1:α1) (a2:α2) (a3:α3) (a4:α4) (h:p a1 a2 a3 a4):Ex4 p
inductive Ex5 {α1 α2 α3 α4 α5:Type} (p:α1→α2→α3→α4→α5→Prop):Prop | mk (a1:α1) (a2:α2) (a3:α3) (a4:α4) (a5:α5) (h:p a1 a2 a3 a4 a5):Ex5 p
inductive Ex7 {α1 α2 α3 α4 α5 α6 α7:Type} (p:α1→α2→α3→α4→α5→α6→α7→Prop):Prop | mk (a1:α1) (a2:α2) (a3:α3) (a4:α4) (a5:α5) (a6:α6) (a7:α7) (h:p a1 a2 a3 a4 a5 a6 a7):Ex7 p
inductive Ex8 {α1 α2 α3 α4 α5 α6 α7 α8:Type} (p:α1→α2→α3→α4→α5→α6→α7→α8→Prop):Prop | mk (a1:α1) (a2:α2) (a3:α3) (a4:α4) (a5:α5) (a6:α6) (a7:α7) (a8:α8) (h:p a1 a2 a3 a4 a5 a6 a7 a8):Ex8 p
inductive And3 (A1 A2 A3:Prop):Prop | mk (h1:A1) (h2:A2) (h3:A3):And3 A1 A2 A3
inductive And4 (A1 A2 A3 A4:Prop):Prop | mk (h1:A1) (h2:A2) (h3:A3) (h4:A4):And4 A1 A2 A3 A4
inductive And5 (A1 A2 A3 A4 A5:Prop):Prop | mk (h1:A1) (h2:A2) (h3:A3) (h4:A4) (h5:A5):And5 A1 A2 A3 A4 A5
inductive And6 (A1 A2 A3 A4 A5 A6:Prop):Prop | mk (h1:A1) (h2:A2) (h3:A3) (h4:A4) (h5:A5) (h6:A6):And6 A1 A2 A3 A4 A5 A6
inductive And7 (A1 A2 A3 A4 A5 A6 A7:Prop):Prop | mk (h1:A1) (h2:A2) (h3:A3) (h4:A4) (h5:A5) (h6:A6) (h7:A7):And7 A1 A2 A3 A4 A5 A6 A7
inductive And8 (A1 A2 A3 A4 A5 A6 A7 A8:Prop):Prop | mk (h1:A1) (h2:A2) (h3:A3) (h4:A4) (h5:A5) (h6:A6) (h7:A7) (h8:A8):And8 A1 A2 A3 A4 A5 A6 A7 A8
inductive And11 (A1 A2 A3 A4 A5 A6 A7 A8 A9 A10 A11:Prop):Prop | mk (h1:A1) (h2:A2) (h3:A3) (h4:A4) (h5:A5) (h6:A6) (h7:A7) (h8:A8) (h9:A9) (h10:A10) (h11:A11):And11 A1 A2 A3 A4 A5 A6 A7 A8 A9 A10 A11
inductive And14 (A1 A2 A3 A4 A5 A6 A7 A8 A9 A10 A11 A12 A13 A14:Prop):Prop | mk (h1:A1) (h2:A2) (h3:A3) (h4:A4) (h5:A5) (h6:A6) (h7:A7) (h8:A8) (h9:A9) (h10:A10) (h11:A11) (h12:A12) (h13:A13) (h14:A14):And14 A1 A2 A3 A4 A5 A6 A7 A8 A9 A10 A11 A12 A13 A14
noncomputable def syms:List Str:=(["int","str","__init__","CodeMaker","Thread","_law_bag","_law_call","_law_changed","_law_closed","_law_context","_law_drawn","_law_enter","_law_fits","_law_get","_law_given","_law_host","_law_leave","_law_now","_law_number","_law_poke","_law_pull","_law_put","_law_routine","_law_row","_law_second","_law_set","_law_target","_law_task","_law_value","_law_vector","_law_wide","_law_write","a","address","again","aim","all_x","append","assign","at","b","back","bag","block","body","c","call","call_task","calls","cell","changed","children","close","close_context","code","compile_routine","compiled","const","context","ctx","ctxt","design","direction","disable_scope","done","due","e","emit","end","enter","evaluate","evaluate_in","extend","fill","first","found","frame","frames","full","get","given","got","here","holder","holder_width","host","i","index","inner","inout","input","inputs","jump","keep","key","kind","law","leave","left","length","lo","local","locate","looking","low","lv","machine","make","maker","many","mask","new_slot","number","one","opened","output","outs","parent","part","parts","path","pc","pick","piece","place","pop","ports","ref","repeat","repetition","resolve_target","return","return_from_task","reverse","routine","routine_code","row","rows","s","scope","scoped","scopes","script","self","set","set_bits","sig","signal","signals","signed","sigs","slot","slots","spot","spots","stamp","start","store","stored","swap","sys","tag","take","task","tasks","thread","times","to_int","told","top","total","turn","turns","v","value","values","vec","w","wait","where","whole_of","width","wild","word","write","control","d","opened_","nba","if","case","fork","for","while","forever","delay","await","direction_","n","len","range","list","max","min","sum","tuple","x","bin","un","ext","slice","cond","cat","pow","looping"]:List String).map Str.ofString
theorem syms_nodup:syms.Nodup:=by decide +kernel
noncomputable def sy (n:Nat):Str:=syms.getD n ⟨#[]⟩
noncomputable def symId (x:Str):Option Nat:=syms.findIdx? (· == x)
noncomputable def nsym:Nat:=syms.length
theorem symId_sy {x:Str} {n:Nat} (h:symId x=some n):sy n=x∧n<nsym:=by
 unfold symId at h
 refine gabs fun gG gK=>?_
 obtain ⟨h1,h2,_⟩:=List.findIdx?_eq_some_iff_getElem.mp h
 refine gK ?_
 refine ⟨?_,h1⟩
 unfold sy
 rw [Ja6,Ja5 h1]
 exact eq_of_beq h2
theorem sy_inj {n m:Nat} (hn:n<nsym) (hm:m<nsym) (h:sy n=sy m):n=m:=by
 unfold sy at h
 rw [Ja6,Ja6,Ja5 hn,Ja5 hm] at h
 exact (List.getElem_inj syms_nodup).mp h
set_option genInjectivity true in
inductive V where
 | none
 | bool (b:Bool)
 | int (i:Int)
 | str (n:Nat)
 | tup (vs:List V)
 | loc (l:Nat)
set_option genInjectivity true in
inductive Cell where
 | list (vs:List V)
 | inst (c:Nat) (as:List (Nat×V))
 | dict (es:List (Int×V))
 | cell (v:V)
 | unset
 | tab
 | any
 | ro (vs:List V)
 | fn (k:Nat) (cl:List (Nat×Nat))
noncomputable abbrev St:=Nat→Option Cell
noncomputable def upd (σ:St) (l:Nat) (c:Cell):St:=fun i=>if i=l then some c else σ i
@[simp] theorem upd_self (σ:St) (l:Nat) (c:Cell):upd σ l c l=some c:=if_pos rfl
theorem upd_ne (σ:St) {l i:Nat} (c:Cell) (h:i≠l):upd σ l c i=σ i:=if_neg h
inductive Slot where
 | one (a:Addr)
 | two (a d:Addr)
noncomputable def Slot.main:Slot→Addr
 | .one a=>a
 | .two a _=>a
noncomputable def Slot.addrs:Slot→List Addr
 | .one a=>[a]
 | .two a d=>[a,d]
theorem Slot.main_mem (s:Slot):s.main∈s.addrs:=by cases s <;> simp [Slot.main,Slot.addrs]
noncomputable def foot (ρ:List Slot):List Addr:=ρ.flatMap Slot.addrs
theorem foot_append (ρ ρ':List Slot):foot (ρ++ρ')=foot ρ++foot ρ':=by simp [foot]
theorem mem_foot {ρ:List Slot} {sl:Slot} {a:Addr} (h:sl∈ρ) (ha:a∈sl.addrs):a∈foot ρ:=List.mem_flatMap.mpr ⟨sl,h,ha⟩
theorem foot_prefix {ρ ρ':List Slot} (h:ρ <+: ρ') {a:Addr} (ha:a∈foot ρ):a∈foot ρ':=by
 obtain ⟨r,rfl⟩:=h
 rw [foot_append];exact Jd2 _ ha
noncomputable abbrev tupObj (its:Array Value) (n:Nat):Obj:={ cls:=.type "tuple",data:=.seq its n }
noncomputable def NT (o:Obj):Prop:=∀ its n,o≠tupObj its n
theorem nt_cls {o:Obj} {x:String} (c:o.cls=.type x) (h:x≠"tuple":=by decide):NT o:=fun _ _ q=>h (Value.type.inj (c.symm.trans (congrArg Obj.cls q)))
inductive Rd (h:Heap) (ρ:List Slot):Value→V→Prop
 | none:Rd h ρ .none .none
 | bool (b:Bool):Rd h ρ (.bool b) (.bool b)
 | int (i:Int) (t:Tok):Rd h ρ (.int i t) (.int i)
 | str (n:Nat) (t:Tok) (x:Str):x=sy n→n<nsym→Rd h ρ (.str x t) (.str n)
 | tups {a:Addr} {its:List Value} {n:Nat} {vs:List V}:h.get? a=some (tupObj its.toArray n)→a∉foot ρ→its.length=vs.length→(∀ (i:Nat) (v:Value) (r:V),its[i]?=some v→vs[i]?=some r→Rd h ρ v r)→Rd h ρ (.ref a) (.tup vs)
 | loc {l:Nat} {sl:Slot} {a:Addr}:ρ[l]?=some sl→a=sl.main→Rd h ρ (.ref a) (.loc l)
inductive RdL (h:Heap) (ρ:List Slot):List Value→List V→Prop
 | nil:RdL h ρ [] []
 | cons {v:Value} {vs:List Value} {r:V} {rs:List V}:Rd h ρ v r→RdL h ρ vs rs→RdL h ρ (v::vs) (r::rs)
section
variable {h h':Heap} {ρ ρ':List Slot}
structure Grow (h:Heap) (ρ:List Slot) (h':Heap) (ρ':List Slot):Prop where
 pre:ρ <+: ρ'
 tups:∀ a its n,h.get? a=some (tupObj its n)→a∉foot ρ→h'.get? a=some (tupObj its n)∧a∉foot ρ'
theorem Rd.mono (g:Grow h ρ h' ρ') {v:Value} {r:V} (x:Rd h ρ v r):Rd h' ρ' v r:=by
 induction x with
 | none=>exact .none
 | bool b=>exact .bool b
 | int i t=>exact .int i t
 | str n t x e l=>exact .str n t x e l
 | tups e n hl _ ih=>exact .tups (g.tups _ _ _ e n).1 (g.tups _ _ _ e n).2 hl ih
 | loc e ea=>exact .loc (g.pre.elim fun r hr=>hr▸(Jb4 (Ja3.mp e).1).trans e) ea
theorem RdL.mono (g:Grow h ρ h' ρ') {vs:List Value} {rs:List V} (x:RdL h ρ vs rs):RdL h' ρ' vs rs:=by
 induction x with
 | nil=>exact .nil
 | cons a _ ih=>exact .cons (a.mono g) ih
theorem RdL.length {vs:List Value} {rs:List V} (x:RdL h ρ vs rs):vs.length=rs.length:=by
 induction x with
 | nil=>rfl
 | cons _ _ ih=>exact congrArg (· + 1) ih
theorem RdL.at {vs:List Value} {rs:List V} (x:RdL h ρ vs rs):∀ (i:Nat) (v:Value) (r:V),vs[i]?=some v→rs[i]?=some r→Rd h ρ v r:=by
 induction x with
 | nil=>exact fun _ _ _ e=>(by cases e)
 | cons a _ ih=>exact fun i v r e1 e2=>i.casesOn (fun e1 e2=>Jb7 e1▸Jb7 e2▸a) (fun i e1 e2=>ih i v r e1 e2) e1 e2
theorem RdL.of {vs:List Value} {rs:List V} (hl:vs.length=rs.length) (f:∀ (i:Nat) (v:Value) (r:V),vs[i]?=some v→rs[i]?=some r→Rd h ρ v r):RdL h ρ vs rs:=by
 induction vs generalizing rs with
 | nil=>cases rs with
  | nil=>exact .nil
  | cons r rs=>cases hl
 | cons v vs ih=>cases rs with
  | nil=>cases hl
  | cons r rs=>exact .cons (f 0 v r rfl rfl) (ih (Nat.succ.inj hl) fun i=>f (i+1))
theorem Rd.tup {a:Addr} {its:List Value} {n:Nat} {vs:List V} (e:h.get? a=some (tupObj its.toArray n)) (nf:a∉foot ρ) (r:RdL h ρ its vs):Rd h ρ (.ref a) (.tup vs):=.tups e nf r.length r.at
theorem RdL.get {vs:List Value} {rs:List V} {i:Nat} {r:V} (x:RdL h ρ vs rs) (e:rs[i]?=some r):∃ v,vs[i]?=some v∧Rd h ρ v r:=
 have hi:i<vs.length:=x.length▸(Ja3.mp e).1
 ⟨_,Ja5 hi,x.at _ _ _ (Ja5 hi) e⟩
theorem RdL.append {vs:List Value} {rs:List V} {ws:List Value} {ss:List V} (a:RdL h ρ vs rs) (b:RdL h ρ ws ss):RdL h ρ (vs++ws) (rs++ss):=by
 induction vs generalizing rs with
 | nil=>cases a;exact b
 | cons v vs ih=>cases a with | cons x y=>exact .cons x (ih y)
theorem RdL.set {vs:List Value} {rs:List V} {v:Value} {r:V} (i:Nat) (a:RdL h ρ vs rs) (b:Rd h ρ v r):RdL h ρ (vs.set i v) (rs.set i r):=by
 induction vs generalizing rs i with
 | nil=>cases a;exact .nil
 | cons w vs ih=>
  cases a with
  | cons x y=>
   cases i with
   | zero=>exact .cons b y
   | succ i=>exact .cons x (ih i y)
theorem RdL.take {vs:List Value} {rs:List V} (i:Nat) (a:RdL h ρ vs rs):RdL h ρ (vs.take i) (rs.take i):=by
 induction vs generalizing rs i with
 | nil=>cases a;simp;exact .nil
 | cons w vs ih=>
  cases a with
  | cons x y=>
   cases i with
   | zero=>exact .nil
   | succ i=>exact .cons x (ih i y)
theorem RdL.drop {vs:List Value} {rs:List V} (i:Nat) (a:RdL h ρ vs rs):RdL h ρ (vs.drop i) (rs.drop i):=by
 induction vs generalizing rs i with
 | nil=>cases a;simp;exact .nil
 | cons w vs ih=>
  cases a with
  | cons x y=>
   cases i with
   | zero=>exact .cons x y
   | succ i=>exact ih i y
theorem RdL.eraseIdx {vs:List Value} {rs:List V} (i:Nat) (a:RdL h ρ vs rs):RdL h ρ (vs.eraseIdx i) (rs.eraseIdx i):=by
 rw [List.eraseIdx_eq_take_drop_succ,List.eraseIdx_eq_take_drop_succ];exact (a.take i).append (a.drop (i+1))
theorem RdL.reverse {vs:List Value} {rs:List V} (a:RdL h ρ vs rs):RdL h ρ vs.reverse rs.reverse:=by
 induction vs generalizing rs with
 | nil=>cases a;exact .nil
 | cons w vs ih=>cases a with | cons x y=>rw [Jh1,Jh1];exact (ih y).append (.cons x .nil)
theorem RdL.replicate {v:Value} {r:V} (n:Nat) (a:Rd h ρ v r):RdL h ρ (Jb1 n v) (Jb1 n r):=by
 induction n with
 | zero=>exact .nil
 | succ n ih=>exact .cons a ih
end
inductive Ents (P:Params) (h:Heap) (ρ:List Slot):List DictEntry→List (Nat×V)→Prop
 | nil:Ents P h ρ [] []
 | cons {e:DictEntry} {es:List DictEntry} {n:Nat} {r:V} {as:List (Nat×V)} {t:Tok}:e.key=.str (sy n) t→n<nsym→e.hash=PyData.keyHash P (sy n)→Rd h ρ e.val r→Ents P h ρ es as→Ents P h ρ (e::es) ((n,r)::as)
noncomputable def clsName (x:Str):Bool:=x == ("Thread" : Str) || x == ("CodeMaker" : Str)
noncomputable def fieldIds:List Nat:=[112,54,121,76,120,48,141,117,51,64,178,155,103,34,152,126,63,172,44,157,56,79,145,148,181,61,134,71,58,53,184,50]
noncomputable def fieldOk (n:Nat):Bool:=fieldIds.any fun x=>Jc5 x n
theorem fieldIds_lt:fieldIds.all (fun x=>decide (x<nsym))=true:=by decide +kernel
theorem fieldOk_lt {n:Nat} (h:fieldOk n=true):n<nsym:=by
 refine gabs fun gG gK=>?_
 obtain ⟨x,hx,e⟩:=Ji5.mp h
 refine gK ?_
 rw [← Jb9 e]
 simpa using Jb3.mp fieldIds_lt x hx
noncomputable def methIds:List Nat:=[67,82,111,35,140,52,107,43,129,214]
noncomputable def methOk (c n:Nat):Bool:=Jc5 c 3 && methIds.any fun x=>Jc5 x n
noncomputable def initId:Nat:=2
theorem sy_init:sy initId=("__init__" : Str):=by decide +kernel
structure ClsOk (K:Frag) (C:Addr):Prop where
 cd:∃ cd,clsIn K C=some cd∧cd.hasDict=true
 ga:findIn K (.ref C) "__getattribute__" = some (some (.builtin "object.__getattribute__"))
 gt:findIn K (.ref C) "__getattr__" = some none
 sa:findIn K (.ref C) "__setattr__" = some (some (.builtin "object.__setattr__"))
 over:plainOver K C=true
 makes:makesIn K C=true
 field:∀ n,fieldOk n=true→findIn K (.ref C) (sy n)=some none
noncomputable def fnNames:List Str:=(["_law_bag","_law_call","_law_drawn","_law_enter","_law_fits","_law_given","_law_host","_law_leave","_law_number","_law_poke","_law_pull","_law_put","_law_row","_law_second","_law_target","_law_task","_law_value","_law_vector","_law_wide","all_x","assign","call_task","code","compile_routine","evaluate","extend","holder_width","locate","mask","resolve_target","return_from_task","routine_code","to_int","vec","whole_of"]:List String).map Str.ofString
noncomputable def biNames:List Str:=(["int","len","list","max","sum","tuple","range"]:List String).map Str.ofString
structure Gl where
 prog:Program
 w:World
 h₀:Heap
 K:Frag
 mg:Str→Option Value
 mb:Str→Option Value
 X:K.In h₀
 g:h₀.Ns mainGlobals mg
 b:h₀.Ns builtinsNs mb
 nolimit:h₀.NoLimit
 bi:∀ x:Str,x≠"__name__"→mb x=bootBuiltins x
 sm:sysModules<h₀.objs.size
 top:∀ h:Heap,(∀ b o,h₀.get? b=some o→h.get? b=some o)→h₀.objs.size≤h.objs.size
 cls:Nat→Addr
 clsOk:∀ c,clsName (sy c)=true→ClsOk K (cls c)
 clsAt:∀ c,clsName (sy c)=true→mg (sy c)=some (.ref (cls c))∧keepIn K (.ref (cls c))=true
 fnAt:∀ n,fnNames.contains (sy n)=true→∃ a,mg (sy n)=some (.ref a)∧keepIn K (.ref a)=true
 biAt:∀ n,biNames.contains (sy n)=true→mg (sy n)=none
 methAt:∀ c n,methOk c n=true→∃ a,findIn K (.ref (cls c)) (sy n)=some (some (.ref a))
 init:∀ c,clsName (sy c)=true→∃ a,findIn K (.ref (cls c)) "__init__" = some (some (.ref a))∧typeIn K (.ref a)=some (.type "function")
 meths:∀ c n a,clsName (sy c)=true→findIn K (.ref (cls c)) (sy n)=some (some (.ref a))→typeIn K (.ref a)=some (.type "function")∧keepIn K (.ref a)=true
 fnObj:Nat→List (Str×Addr)→Addr→Obj→Prop
 codeObj:Nat→Obj→Prop
 fnData:∀ k cs d o,fnObj k cs d o→∃ fd,o.data=.func fd
 P:Addr
 arg:Obj
noncomputable def look:List (Nat×V)→Nat→Option V
 | [],_=>none
 | (y,v)::r,x=>match Jc5 y x with | true=>some v | false=>look r x
noncomputable def put:List (Nat×V)→Nat→V→List (Nat×V)
 | [],x,v=>[(x,v)]
 | (y,w)::r,x,v=>match Jc5 y x with | true=>(x,v)::r | false=>(y,w)::put r x v
theorem look_put (m:List (Nat×V)) (x y:Nat) (v:V):look (put m x v) y=if y=x then some v else look m y:=by
 induction m with
 | nil=>
  simp only [put,look]
  by_cases h:y=x
  ·subst h;simp [Ji1]
  ·rw [if_neg h]
   cases q:Jc5 x y with
   | true=>exact absurd (Jb9 q).symm h
   | false=>rfl
 | cons p r ih=>
  obtain ⟨z,w⟩:=p
  simp only [put]
  cases q:Jc5 z x with
  | true=>
   have:=Jb9 q;subst this
   simp only [look]
   by_cases h:y=z
   ·subst h;simp [Ji1]
   ·rw [if_neg h]
    cases q2:Jc5 z y with
    | true=>exact absurd (Jb9 q2).symm h
    | false=>rfl
  | false=>
   simp only [look]
   cases q2:Jc5 z y with
   | true=>
    have:=Jb9 q2;subst this
    have:z≠x:=fun e=>by subst e;rw [Ji1] at q;cases q
    rw [if_neg this]
   | false=>exact ih
noncomputable def ilook:List (Int×V)→Int→Option V
 | [],_=>none
 | (y,v)::r,x=>if y=x then some v else ilook r x
inductive KVs (h:Heap) (ρ:List Slot):List (Int×Value)→List (Int×V)→Prop
 | nil:KVs h ρ [] []
 | cons {k:Int} {v:Value} {r:V} {kvs:List (Int×Value)} {es:List (Int×V)}:Rd h ρ v r→KVs h ρ kvs es→KVs h ρ ((k,v)::kvs) ((k,r)::es)
theorem KVs.mono {h h':Heap} {ρ ρ':List Slot} (g:Grow h ρ h' ρ') {kvs:List (Int×Value)} {es:List (Int×V)} (x:KVs h ρ kvs es):KVs h' ρ' kvs es:=by
 induction x with
 | nil=>exact .nil
 | cons a _ ih=>exact .cons (a.mono g) ih
theorem KVs.snoc {h:Heap} {ρ:List Slot} {kvs:List (Int×Value)} {es:List (Int×V)} {k:Int} {v:Value} {r:V} (x:KVs h ρ kvs es) (y:Rd h ρ v r):KVs h ρ (kvs++[(k,v)]) (es++[(k,r)]):=by
 induction x with
 | nil=>exact .cons y .nil
 | cons a _ ih=>exact .cons a ih
theorem KVs.length {h:Heap} {ρ:List Slot} {kvs:List (Int×Value)} {es:List (Int×V)} (x:KVs h ρ kvs es):kvs.length=es.length:=by
 induction x with
 | nil=>rfl
 | cons a _ ih=>simp [ih]
theorem valueAt_hit {kvs:List (Int×Value)} {k:Int} {v:Value}:valueAt ((k,v)::kvs) k=some v:=congrArg (Je7 Prod.snd) (List.find?_cons_of_pos (p:=fun kv:Int×Value=>decide (kv.1=k)) (decide_eq_true rfl))
theorem valueAt_miss {kvs:List (Int×Value)} {k k':Int} {v:Value} (q:k'≠k):valueAt ((k',v)::kvs) k=valueAt kvs k:=congrArg (Je7 Prod.snd) (List.find?_cons_of_neg (p:=fun kv:Int×Value=>decide (kv.1=k)) fun e=>q (of_decide_eq_true e))
theorem KVs.look {h:Heap} {ρ:List Slot} {kvs:List (Int×Value)} {es:List (Int×V)} (x:KVs h ρ kvs es) (k:Int):(∀ r,ilook es k=some r→∃ v,valueAt kvs k=some v∧Rd h ρ v r)∧(ilook es k=none→valueAt kvs k=none∧kvs.any (fun kv=>decide (kv.1=k))=false):=by
 induction x with
 | nil=>exact ⟨fun r e=>(by cases e),fun _=>⟨rfl,rfl⟩⟩
 | @cons k' v r kvs es a _ ih=>
  by_cases q:k'=k
  ·subst q
   refine ⟨fun r' e=>?_,fun e=>?_⟩
   ·cases (if_pos rfl).symm.trans e;exact ⟨v,valueAt_hit,a⟩
   ·cases (if_pos rfl).symm.trans e
  ·exact ⟨fun r' e=>(ih.1 r' ((if_neg q).symm.trans e)).elim fun u x=>⟨u,(valueAt_miss q).trans x.1,x.2⟩,fun e=>⟨(valueAt_miss q).trans (ih.2 ((if_neg q).symm.trans e)).1,by rw [List.any_cons,(ih.2 ((if_neg q).symm.trans e)).2,Bool.or_false];exact decide_eq_false q⟩⟩
noncomputable def CellAt (Γ:Gl) (h:Heap) (ρ:List Slot):Slot→Cell→Prop
 | .one a,.list vs=>∃ its n,h.get? a=some (listOf its n)∧RdL h ρ its.toList vs
 | .two a d,.inst c as=>clsName (sy c)=true∧h.get? a=some (instObj (Γ.cls c) d)∧∃ es n,h.get? d=some (dictOf es n)∧Ents Γ.w.params h ρ es as
 | .one a,.dict es=>(a == sysModules)=false∧∃ kvs,h.DictOf (intKind Γ.prog Γ.w) a kvs∧KVs h ρ kvs es
 | .one a,.cell v=>∃ x,h.IsCell a (some x)∧Rd h ρ x v
 | .one a,.unset=>h.IsCell a none
 | .one a,.tab=>a=Γ.P∧h.get? a=some (tabObj #[])
 | .one a,.any=>∃ ps,h.get? a=some (tabObj ps)
 | .one a,.ro vs=>∃ its n,Γ.arg.cls=.type "list"∧Γ.arg.data=.seq its n∧h.get? a=some Γ.arg∧RdL h ρ its.toList vs
 | .two a d,.fn k cl=>∃ cs o od,h.get? a=some o∧h.get? d=some od∧Γ.fnObj k cs d o∧Γ.codeObj k od∧∀ x l,(x,l)∈cl→∃ c,cs.lookup (sy x)=some c∧ρ[l]?=some (.one c)
 | _,_=>False
structure Rel (Γ:Gl) (ρ:List Slot) (σ:St) (h:Heap):Prop where
 base:∀ b o,Γ.h₀.get? b=some o→h.get? b=some o
 nd:(foot ρ).Nodup
 old:∀ a∈foot ρ,Γ.h₀.get? a=none
 live:∀ a∈foot ρ,∃ o,h.get? a=some o∧NT o
 dom:∀ l c,σ l=some c→l<ρ.length
 cells:∀ l c sl,σ l=some c→ρ[l]?=some sl→CellAt Γ h ρ sl c
structure FrR (Γ:Gl) (env:Env) (own:List Addr) (fr:List (Nat×Nat)) (ρ:List Slot) (m:List (Nat×V)) (h:Heap):Prop where
 kind:env.scope.kind=.function
 globs:env.globals=mainGlobals
 bui:env.builtins=builtinsNs
 ns:∃ mm,h.Ns env.locals mm∧∀ x pv,look m x=some pv→env.kindOf (sy x)=some .local→∃ v,mm (sy x)=some v∧Rd h ρ v pv
 ccell:∀ x,env.kindOf (sy x)=some .cell→∃ c,env.cells.lookup (sy x)=some c
 floc:∀ x l,(x,l)∈fr→env.kindOf (sy x)≠some .local
 cell:∀ x,env.kindOf (sy x)=some .cell→(∀ l,(x,l)∉fr)→∃ c v,env.cells.lookup (sy x)=some c∧h.IsCell c v∧c∈own∧c≠env.locals∧∀ pv,look m x=some pv→∃ u,v=some u∧Rd h ρ u pv
 cinj:∀ x y c,env.cells.lookup (sy x)=some c→env.cells.lookup (sy y)=some c→env.kindOf (sy x)=some .cell→env.kindOf (sy y)=some .cell→sy x=sy y
 me:env.locals∈own
 own:∀ a∈own,a∉foot ρ∧Γ.h₀.objs.size≤a∧∃ o,h.get? a=some o∧NT o
 free:∀ x l,(x,l)∈fr→(env.kindOf (sy x)=some .free∨env.kindOf (sy x)=some .cell)→∃ c,env.cells.lookup (sy x)=some c∧ρ[l]?=some (.one c)
 fcell:∀ x,env.kindOf (sy x)=some .free→∃ c,env.cells.lookup (sy x)=some c
 names:∀ x pv,look m x=some pv→x<nsym
structure Step (own:List Addr) (ρ ρ':List Slot) (s s':Shared):Prop where
 pre:ρ <+: ρ'
 new:∀ a∈foot ρ',a∈foot ρ∨s.heap.get? a=none
 keep:∀ b o,b∉foot ρ→b∉own→s.heap.get? b=some o→s'.heap.get? b=some o
 dom:∀ b o,s.heap.get? b=some o→∃ o',s'.heap.get? b=some o'
 gens:s'.gens=s.gens
 os:s'.os=s.os
theorem Step.refl (own:List Addr) (ρ:List Slot) (s:Shared):Step own ρ ρ s s:=
 ⟨Jf7,fun _ h=>.inl h,fun _ _ _ _ e=>e,fun _ o e=>⟨o,e⟩,rfl,rfl⟩
theorem Step.trans {own:List Addr} {ρ ρ' ρ'':List Slot} {s s' s'':Shared} (x:Step own ρ ρ' s s') (y:Step own ρ' ρ'' s' s''):Step own ρ ρ'' s s'' where
 pre:=x.pre.trans y.pre
 new:=fun a ha=>by
  rcases y.new a ha with h | h
  ·exact x.new a h
  ·right
   cases q:s.heap.get? a with
   | none=>rfl
   | some o=>obtain ⟨o',e⟩:=x.dom a o q;rw [h] at e;cases e
 keep:=fun b o h1 h2 e=>y.keep b o (fun hb=>by rcases x.new b hb with q | q;exact h1 q;rw [e] at q;cases q) h2 (x.keep b o h1 h2 e)
 dom:=fun b o e=>by obtain ⟨o',e'⟩:=x.dom b o e;exact y.dom b o' e'
 gens:=y.gens.trans x.gens
 os:=y.os.trans x.os
theorem Step.wider {own own':List Addr} {ρ ρ':List Slot} {s s':Shared} (x:Step own ρ ρ' s s') (h:∀ a∈own,a∈own'):Step own' ρ ρ' s s':=
 ⟨x.pre,x.new,fun b o h1 h2 e=>x.keep b o h1 (fun q=>h2 (h b q)) e,x.dom,x.gens,x.os⟩
theorem Step.grow {own:List Addr} {ρ ρ':List Slot} {s s':Shared} (x:Step own ρ ρ' s s') (ho:∀ a∈own,∃ o,s.heap.get? a=some o∧NT o):Grow s.heap ρ s'.heap ρ' where
 pre:=x.pre
 tups:=fun a its n e h=>⟨x.keep a _ h (fun q=>by obtain ⟨o,e2,hc⟩:=ho a q;rw [e] at e2;cases e2;exact hc _ _ rfl) e,
  fun q=>by rcases x.new a q with q | q;exact h q;rw [e] at q;cases q⟩
noncomputable def Room (k:Nat) (A:Around):Prop:=A.depth+4 * k<recursionLimit∧A.units+16 * k+200<cLine∧A.handled=none
theorem Room.less {k j:Nat} {A:Around} (h:Room k A) (hj:j≤k):Room j A:=by
 refine gabs fun gG gK=>?_
 obtain ⟨a,b,c⟩:=h
 refine gK ?_
 exact ⟨Jc9 (by lia) a,Jc9 (by lia) b,c⟩
noncomputable def RoomB (k:Nat) (A:Around):Prop:=A.depth+4 * k+3<recursionLimit∧A.units+16 * k+212<cLine∧A.handled=none
theorem Room.dep {k:Nat} {A:Around} (h:Room k A):A.depth<recursionLimit:=Jc9 (Jc6 _ _) h.1
theorem RoomB.under {k:Nat} {A:Around} (h:RoomB k A):A.depth+1+4 * k<recursionLimit∧A.units+1+16 * k+200<cLine:=⟨Jc9 (Nat.add_right_comm A.depth 1 (4 * k)▸Je4 (Ja0 rfl) _) h.1,Jc9 (Nat.add_right_comm A.units 1 (16 * k)▸Je4 (Ja0 rfl:201≤212) (A.units+16 * k)) h.2.1⟩
theorem RoomB.room {k:Nat} {A:Around} (h:RoomB k A):Room k A:=⟨Jc9 (Jc6 _ 3) h.1,Jc9 (Je4 (Ja0 rfl) _) h.2.1,h.2.2⟩
theorem Room.deeper {k:Nat} {A:Around} (h:Room (k+1) A) (env:Env):RoomB k (A.deeper env):=⟨by have:=h.1;delta Around.deeper;dsimp only;lia,by have:=h.2.1;delta Around.deeper;dsimp only;lia,h.2.2⟩
inductive Post (Γ:Gl) (env:Env) (own:List Addr) (fr:List (Nat×Nat)) (m:List (Nat×V)) (ρ:List Slot) (s:Shared) (Q:V→St→Prop) (v:Value) (s':Shared):Prop
 | intro (r:V) (σ':St) (ρ':List Slot) (st:Step [env.locals] ρ ρ' s s') (R:Rel Γ ρ' σ' s'.heap) (F:FrR Γ env own fr ρ' m s'.heap) (rd:Rd s'.heap ρ' v r) (q:Q r σ'):Post Γ env own fr m ρ s Q v s'
noncomputable def WE (Γ:Gl) (k:Nat) (env:Env) (own:List Addr) (fr:List (Nat×Nat)) (t:Sem Value) (m:List (Nat×V)) (σ:St) (Q:V→St→Prop):Prop:=
 ∀ (A:Around) (E:Value→Shared→Prop) (s:Shared) (ρ:List Slot),RoomB k A→Rel Γ ρ σ s.heap→FrR Γ env own fr ρ m s.heap→
  wpAny (model Γ.prog Γ.w) A t (Post Γ env own fr m ρ s Q) E s
end
section
theorem Grow.of_keeps {h h':Heap} {ρ:List Slot} (k:∀ b o,h.get? b=some o→h'.get? b=some o):Grow h ρ h' ρ:=⟨Jf7,fun _ _ _ e n=>⟨k _ _ e,n⟩⟩
theorem Ents.mono {P:Params} {h h':Heap} {ρ ρ':List Slot} (g:Grow h ρ h' ρ') {es:List DictEntry} {as:List (Nat×V)} (x:Ents P h ρ es as):Ents P h' ρ' es as:=by
 induction x with
 | nil=>exact .nil
 | cons a b c d _ ih=>exact .cons a b c (d.mono g) ih
theorem CellAt.mono {Γ:Gl} {h h':Heap} {ρ ρ':List Slot} (g:Grow h ρ h' ρ') {sl:Slot} {c:Cell} (x:CellAt Γ h ρ sl c) (k:∀ a∈sl.addrs,∀ o,h.get? a=some o→h'.get? a=some o):CellAt Γ h' ρ' sl c:=by
 cases sl with
 | one a=>
  have ka:=k a (by simp [Slot.addrs])
  cases c with
  | list vs=>obtain ⟨its,n,e,r⟩:=x;exact ⟨its,n,ka _ e,r.mono g⟩
  | inst=>exact x.elim
  | dict es=>
   refine gabs fun gG gK=>?_
   obtain ⟨lo,kvs,⟨o,es',ep,ho,q⟩,r⟩:=x
   refine gK ?_
   exact ⟨lo,kvs,⟨o,es',ep,ka _ ho,q⟩,r.mono g⟩
  | cell v=>obtain ⟨y,hy,r⟩:=x;exact ⟨y,(by obtain ⟨o,ho,hd⟩:=hy;exact ⟨o,ka _ ho,hd⟩),r.mono g⟩
  | fn=>exact x.elim
  | unset=>obtain ⟨o,ho,hd⟩:=x;exact ⟨o,ka _ ho,hd⟩
  | tab=>exact ⟨x.1,ka _ x.2⟩
  | any=>obtain ⟨ps,e⟩:=x;exact ⟨ps,ka _ e⟩
  | ro vs=>obtain ⟨its,n,e0,e1,e2,r⟩:=x;exact ⟨its,n,e0,e1,ka _ e2,r.mono g⟩
 | two a d=>
  have ka:=k a (by simp [Slot.addrs])
  have kd:=k d (by simp [Slot.addrs])
  cases c with
  | inst c as=>obtain ⟨e0,e,es,n,e2,r⟩:=x;exact ⟨e0,ka _ e,es,n,kd _ e2,r.mono g⟩
  | fn kk cl=>
   refine gabs fun gG gK=>?_
   obtain ⟨cs,o,od,e,e2,f,f2,q⟩:=x
   refine gK ?_
   refine ⟨cs,o,od,ka _ e,kd _ e2,f,f2,fun y l hl=>?_⟩
   refine gabs fun gG gK=>?_
   obtain ⟨c,h1,h2⟩:=q y l hl
   refine gK ?_
   refine ⟨c,h1,?_⟩
   obtain ⟨r,rfl⟩:=g.pre
   rw [Jb4 (Ja3.mp h2).1];exact h2
  | _=>exact x.elim
theorem Rel.keeps {Γ:Gl} {ρ:List Slot} {σ:St} {h h':Heap} (R:Rel Γ ρ σ h) (k:∀ b o,h.get? b=some o→h'.get? b=some o):Rel Γ ρ σ h' where
 base:=fun b o e=>k _ _ (R.base b o e)
 nd:=R.nd
 old:=R.old
 live:=fun a ha=>let ⟨o,e,c⟩:=R.live a ha;⟨o,k _ _ e,c⟩
 dom:=R.dom
 cells:=fun l c sl h1 h2=>(R.cells l c sl h1 h2).mono (Grow.of_keeps k) fun _ _ o e=>k _ _ e
theorem FrR.mono {Γ:Gl} {env:Env} {own:List Addr} {fr:List (Nat×Nat)} {ρ ρ':List Slot} {m:List (Nat×V)} {h h':Heap} (F:FrR Γ env own fr ρ m h) (g:Grow h ρ h' ρ')
  (k:∀ a∈own,∀ o,h.get? a=some o→h'.get? a=some o) (n:∀ a∈foot ρ',a∈foot ρ∨h.get? a=none):FrR Γ env own fr ρ' m h' where
 kind:=F.kind
 globs:=F.globs
 bui:=F.bui
 ns:=by
  refine gabs fun gG gK=>?_
  obtain ⟨mm,⟨o,es,ep,ho,q⟩,r⟩:=F.ns
  refine gK ?_
  exact ⟨mm,⟨o,es,ep,k _ F.me _ ho,q⟩,fun x pv a b=>let ⟨v,e1,e2⟩:=r x pv a b;⟨v,e1,e2.mono g⟩⟩
 ccell:=F.ccell
 floc:=F.floc
 cell:=fun x hx hnf=>by
  refine gabs fun gG gK=>?_
  obtain ⟨c,v,e1,⟨o,ho,hd⟩,e3,e4,e5⟩:=F.cell x hx hnf
  refine gK ?_
  exact ⟨c,v,e1,⟨o,k _ e3 _ ho,hd⟩,e3,e4,fun pv hp=>let ⟨u,a,b⟩:=e5 pv hp;⟨u,a,b.mono g⟩⟩
 cinj:=F.cinj
 me:=F.me
 own:=fun a ha=>by
  refine gabs fun gG gK=>?_
  obtain ⟨e1,e2,o,e3,e4⟩:=F.own a ha
  refine gK ?_
  exact ⟨fun q=>(by rcases n a q with q | q;exact e1 q;rw [e3] at q;cases q),e2,o,k a ha _ e3,e4⟩
 fcell:=F.fcell
 free:=fun x l hl hx=>by
  refine gabs fun gG gK=>?_
  obtain ⟨c,e2,e3⟩:=F.free x l hl hx
  refine gK ?_
  refine ⟨c,e2,?_⟩
  obtain ⟨r,rfl⟩:=g.pre
  rw [Jb4 (Ja3.mp e3).1];exact e3
 names:=F.names
theorem FrR.keeps {Γ:Gl} {env:Env} {own:List Addr} {fr:List (Nat×Nat)} {ρ:List Slot} {m:List (Nat×V)} {h h':Heap} (F:FrR Γ env own fr ρ m h) (k:∀ b o,h.get? b=some o→h'.get? b=some o):FrR Γ env own fr ρ m h':=
 F.mono (Grow.of_keeps k) (fun _ _ o e=>k _ _ e) fun _ ha=>.inl ha
theorem Step.of_keeps {own:List Addr} {ρ:List Slot} {s s':Shared} (k:∀ b o,s.heap.get? b=some o→s'.heap.get? b=some o) (hg:s'.gens=s.gens) (ho:s'.os=s.os):Step own ρ ρ s s':=
 ⟨Jf7,fun _ h=>.inl h,fun b o _ _ e=>k b o e,fun b o e=>⟨o,k b o e⟩,hg,ho⟩
theorem Post.of_keeps {Γ:Gl} {env:Env} {own:List Addr} {fr:List (Nat×Nat)} {m:List (Nat×V)} {ρ:List Slot} {σ:St} {s s':Shared} {Q:V→St→Prop} {v:Value} {r:V} (R:Rel Γ ρ σ s.heap) (F:FrR Γ env own fr ρ m s.heap)
  (k:∀ b o,s.heap.get? b=some o→s'.heap.get? b=some o) (hr:Rd s'.heap ρ v r) (q:Q r σ) (hg:s'.gens=s.gens:=by rfl) (ho:s'.os=s.os:=by rfl):Post Γ env own fr m ρ s Q v s':=
 ⟨r,σ,ρ,Step.of_keeps k hg ho,R.keeps k,F.keeps k,hr,q⟩
theorem Post.trans {Γ:Gl} {env:Env} {own:List Addr} {fr:List (Nat×Nat)} {m:List (Nat×V)} {ρ ρ':List Slot} {s s':Shared} {Q:V→St→Prop} {v:Value} {s'':Shared} (x:Step [env.locals] ρ ρ' s s') (p:Post Γ env own fr m ρ' s' Q v s''):Post Γ env own fr m ρ s Q v s'':=
 let ⟨r,σ',ρ'',a,b,c,d,e⟩:=p;⟨r,σ',ρ'',x.trans a,b,c,d,e⟩
theorem FrR.ownLive {Γ:Gl} {env:Env} {own:List Addr} {fr:List (Nat×Nat)} {ρ:List Slot} {m:List (Nat×V)} {h:Heap} (F:FrR Γ env own fr ρ m h):∀ a∈[env.locals],∃ o,h.get? a=some o∧NT o:=fun a ha=>(F.own a (by simp at ha;rw [ha];exact F.me)).2.2
theorem get_of_nodup {ρ:List Slot} (nd:(foot ρ).Nodup):∀ {l l':Nat} {sl sl':Slot} {a:Addr},ρ[l]?=some sl→ρ[l']?=some sl'→a∈sl.addrs→a∈sl'.addrs→l=l':=by
 induction ρ with
 | nil=>intro l l' sl sl' a h;simp at h
 | cons s ρ ih=>
  intro l l' sl sl' a h h' ha ha'
  rw [foot,List.flatMap_cons,Jc2] at nd
  refine gabs fun gG gK=>?_
  obtain ⟨n1,n2,n3⟩:=nd
  refine gK ?_
  cases l with
  | zero=>
   cases l' with
   | zero=>rfl
   | succ l'=>
    simp only [List.getElem?_cons_zero,Option.some.injEq] at h
    simp only [List.getElem?_cons_succ] at h'
    subst h
    exact absurd rfl (n3 a ha a (mem_foot (Ja9 h') ha'))
  | succ l=>
   cases l' with
   | zero=>
    simp only [List.getElem?_cons_zero,Option.some.injEq] at h'
    simp only [List.getElem?_cons_succ] at h
    subst h'
    exact absurd rfl (n3 a ha' a (mem_foot (Ja9 h) ha))
   | succ l'=>exact congrArg Nat.succ (ih n2 (by simpa using h) (by simpa using h') ha ha')
theorem Rel.change {Γ:Gl} {ρ:List Slot} {σ:St} {h h':Heap} {l:Nat} {sl:Slot} {a:Addr} {c:Cell} {o':Obj} (R:Rel Γ ρ σ h) (hl:ρ[l]?=some sl) (ha:a∈sl.addrs) (hs:Heap.SameBut a h h')
  (ho:h'.get? a=some o') (ht:NT o') (hc:CellAt Γ h' ρ sl c):Rel Γ ρ (upd σ l c) h':=by
 have hf:a∈foot ρ:=mem_foot (Ja9 hl) ha
 refine gabs fun gG gK=>?_
 obtain ⟨o,e0,c0⟩:=R.live a hf
 refine gK ?_
 have g:Grow h ρ h' ρ:=⟨Jf7,fun b its n e nf=>⟨(hs.2 b (fun q=>nf (q▸hf))).trans e,nf⟩⟩
 refine ⟨fun b o e=>(hs.2 b (fun q=>?_)).trans (R.base b o e),R.nd,R.old,fun b hb=>?_,fun i c' hi=>?_,fun i c' sl' hi hsl=>?_⟩
 ·subst q;have:=R.old b hf;rw [e] at this;cases this
 ·by_cases q:b=a
  ·subst q;exact ⟨o',ho,ht⟩
  ·obtain ⟨o,e,c⟩:=R.live b hb;exact ⟨o,(hs.2 b q).trans e,c⟩
 ·by_cases q:i=l
  ·subst q;exact (Ja3.mp hl).1
  ·rw [upd_ne _ _ q] at hi;exact R.dom i c' hi
 ·by_cases q:i=l
  ·subst q
   rw [upd_self] at hi;cases hi
   rw [hl] at hsl;cases hsl
   exact hc
  ·rw [upd_ne _ _ q] at hi
   refine (R.cells i c' sl' hi hsl).mono g fun b hb o e=>(hs.2 b fun qq=>q ?_).trans e
   subst qq
   exact get_of_nodup R.nd hsl hl hb ha
theorem FrR.change {Γ:Gl} {env:Env} {own:List Addr} {fr:List (Nat×Nat)} {ρ:List Slot} {m:List (Nat×V)} {h h':Heap} {a:Addr} (F:FrR Γ env own fr ρ m h) (hf:a∈foot ρ) (hs:Heap.SameBut a h h'):FrR Γ env own fr ρ m h':=
 F.mono ⟨Jf7,fun b its n e nf=>⟨(hs.2 b (fun q=>nf (q▸hf))).trans e,nf⟩⟩ (fun b hb o e=>(hs.2 b fun q=>(F.own b hb).1 (q▸hf)).trans e) fun _ ha=>.inl ha
theorem Step.change {own:List Addr} {ρ:List Slot} {s s':Shared} {a:Addr} {o o':Obj} (hf:a∈foot ρ) (hs:Heap.SameBut a s.heap s'.heap) (ho':s'.heap.get? a=some o') (hg:s'.gens=s.gens) (ho:s'.os=s.os):Step own ρ ρ s s':=
 ⟨Jf7,fun _ h=>.inl h,fun b o h1 _ e=>(hs.2 b fun q=>h1 (q▸hf)).trans e,fun b o e=>by
  by_cases q:b=a
  ·subst q;exact ⟨o',ho'⟩
  ·exact ⟨o,(hs.2 b q).trans e⟩,hg,ho⟩
noncomputable def exts (σ:St) (n:Nat) (cs:List Cell):St:=fun i=>if i<n then σ i else cs[i - n]?
theorem Rel.adds {Γ:Gl} {ρ:List Slot} {σ:St} {h h2:Heap} {sls:List Slot} {cs:List Cell} (R:Rel Γ ρ σ h) (g:Grow h ρ h2 (ρ++sls)) (kb:∀ b o,Γ.h₀.get? b=some o→h2.get? b=some o) (kf:∀ b∈foot ρ,∀ o,h.get? b=some o→h2.get? b=some o) (hlen:cs.length=sls.length)
  (hn:∀ a∈foot sls,a∉foot ρ∧Γ.h₀.get? a=none∧∃ o,h2.get? a=some o∧NT o) (nd:(foot sls).Nodup) (hc:∀ (j:Nat) sl c,sls[j]?=some sl→cs[j]?=some c→CellAt Γ h2 (ρ++sls) sl c):Rel Γ (ρ++sls) (exts σ ρ.length cs) h2:=by
 have hm:∀ a∈foot (ρ++sls),a∈foot ρ∨a∈foot sls:=fun a ha=>Jd0.mp (foot_append ρ sls▸ha)
 refine ⟨kb,?_,fun a ha=>(hm a ha).elim (R.old a) fun q=>(hn a q).2.1,fun a ha=>(hm a ha).elim (fun q=>(R.live a q).elim fun o x=>⟨o,kf _ q _ x.1,x.2⟩) fun q=>(hn a q).2.2,fun i c hi=>?_,fun i c sl hi hsl=>?_⟩
 ·rw [foot_append]
  exact Jc2.mpr ⟨R.nd,nd,fun a ha b hb q=>(hn b hb).1 (q▸ha)⟩
 ·rw [Jb2]
  by_cases q:i<ρ.length
  ·exact Jc8 q (Jc6 _ _)
  ·have hi:cs[i - ρ.length]?=some c:=(if_neg q).symm.trans hi
   exact (Nat.sub_lt_iff_lt_add' (Je3 q)).mp (hlen▸(Ja3.mp hi).1)
 ·by_cases q:i<ρ.length
  ·rw [Jb4 q] at hsl
   exact (R.cells i c sl ((if_pos q).symm.trans hi) hsl).mono g fun b hb o e=>kf b (mem_foot (Ja9 hsl) hb) o e
  ·rw [Jd8 (Je3 q)] at hsl
   exact hc _ sl c hsl ((if_neg q).symm.trans hi)
theorem Rel.dead {Γ:Gl} {ρ:List Slot} {σ:St} {h:Heap} (R:Rel Γ ρ σ h) {a:Addr} (n:h.get? a=none):a∉foot ρ∧Γ.h₀.get? a=none:=by
 constructor
 ·intro q
  obtain ⟨o,e,_⟩:=R.live a q
  rw [n] at e;cases e
 ·cases e:Γ.h₀.get? a with
  | none=>rfl
  | some o=>have:=R.base a o e;rw [n] at this;cases this
theorem Rel.freshs {Γ:Gl} {ρ:List Slot} {σ:St} {h h2:Heap} {sls:List Slot} {cs:List Cell} (R:Rel Γ ρ σ h) (k:∀ b o,h.get? b=some o→h2.get? b=some o) (hlen:cs.length=sls.length) (hn:∀ a∈foot sls,h.get? a=none∧∃ o,h2.get? a=some o∧NT o) (nd:(foot sls).Nodup)
  (hc:Grow h ρ h2 (ρ++sls)→∀ (j:Nat) sl c,sls[j]?=some sl→cs[j]?=some c→CellAt Γ h2 (ρ++sls) sl c):Rel Γ (ρ++sls) (exts σ ρ.length cs) h2∧Grow h ρ h2 (ρ++sls)∧∀ a∈foot (ρ++sls),a∈foot ρ∨h.get? a=none:=by
 have hm:∀ a∈foot (ρ++sls),a∈foot ρ∨a∈foot sls:=fun a ha=>Jd0.mp (foot_append ρ sls▸ha)
 have g:Grow h ρ h2 (ρ++sls):=⟨⟨sls,rfl⟩,fun a its n e nf=>⟨k _ _ e,fun q=>(hm a q).elim nf fun q=>by rw [(hn a q).1] at e;cases e⟩⟩
 exact ⟨R.adds g (fun b o e=>k _ _ (R.base b o e)) (fun b _ o e=>k b o e) hlen (fun a ha=>⟨(R.dead (hn a ha).1).1,(R.dead (hn a ha).1).2,(hn a ha).2⟩) nd (hc g),g,fun a ha=>(hm a ha).imp id fun q=>(hn a q).1⟩
theorem exts_one {Γ:Gl} {ρ:List Slot} {σ:St} {h:Heap} (R:Rel Γ ρ σ h) (c:Cell):exts σ ρ.length [c]=upd σ ρ.length c:=funext fun i=>by
 unfold exts
 by_cases q:i<ρ.length
 ·rw [if_pos q,upd_ne _ _ (Nat.ne_of_lt q)]
 ·rw [if_neg q]
  by_cases e:i=ρ.length
  ·rw [e,upd_self,Nat.sub_self];rfl
  ·rw [upd_ne _ _ e,Jf5 (Nat.succ_le_of_lt (Nat.sub_pos_of_lt (Nat.lt_of_le_of_ne (Je3 q) (Ne.symm e))))]
   cases hi:σ i with
   | none=>rfl
   | some d=>exact absurd (R.dom i d hi) q
theorem one_c {α β:Type} {P:α→β→Prop} {a:α} {b:β} (h:P a b) (j:Nat) (x:α) (y:β) (h1:[a][j]?=some x) (h2:[b][j]?=some y):P x y:=by
 cases j with
 | zero=>cases h1;cases h2;exact h
 | succ j=>cases h1
theorem foot_one (sl:Slot):foot [sl]=sl.addrs:=Jd3 _
theorem Rel.fresh {Γ:Gl} {ρ:List Slot} {σ:St} {h h':Heap} {sl:Slot} {c:Cell} (R:Rel Γ ρ σ h) (k:∀ b o,h.get? b=some o→h'.get? b=some o) (hn:∀ a∈sl.addrs,h.get? a=none∧∃ o,h'.get? a=some o∧NT o) (nd:sl.addrs.Nodup)
  (hc:CellAt Γ h' (ρ++[sl]) sl c):Rel Γ (ρ++[sl]) (upd σ ρ.length c) h'∧Grow h ρ h' (ρ++[sl])∧∀ a∈foot (ρ++[sl]),a∈foot ρ∨h.get? a=none:=
 exts_one R c▸R.freshs k rfl (fun a ha=>hn a (foot_one sl▸ha)) ((foot_one sl).symm▸nd) fun _=>one_c hc
theorem Rel.unused {Γ:Gl} {ρ:List Slot} {σ:St} {h:Heap} (R:Rel Γ ρ σ h):σ ρ.length=none:=by
 cases q:σ ρ.length with
 | none=>rfl
 | some c=>exact absurd (R.dom _ _ q) (Nat.lt_irrefl _)
theorem Post.alloc {Γ:Gl} {env:Env} {own:List Addr} {fr:List (Nat×Nat)} {m:List (Nat×V)} {ρ:List Slot} {σ:St} {s s':Shared} {Q:V→St→Prop} {a:Addr} {o:Obj} {c:Cell} (R:Rel Γ ρ σ s.heap) (F:FrR Γ env own fr ρ m s.heap)
  (k:∀ b o,s.heap.get? b=some o→s'.heap.get? b=some o) (hn:s.heap.get? a=none) (ho:s'.heap.get? a=some o) (ht:NT o) (hc:Grow s.heap ρ s'.heap (ρ++[.one a])→CellAt Γ s'.heap (ρ++[.one a]) (.one a) c)
  (q:∀ l,σ l=none→Q (.loc l) (upd σ l c)) (hg:s'.gens=s.gens:=by rfl) (hos:s'.os=s.os:=by rfl):Post Γ env own fr m ρ s Q (.ref a) s':=by
 have g:Grow s.heap ρ s'.heap (ρ++[.one a]):=⟨⟨[.one a],rfl⟩,fun b its n e nf=>⟨k _ _ e,fun q=>by
  rw [foot_append] at q
  rcases Jd0.mp q with q | q
  ·exact nf q
  ·rw [Ja4.mp (show b∈[a] from q),hn] at e;cases e⟩⟩
 refine gabs fun gG gK=>?_
 obtain ⟨R',g',nw⟩:=R.fresh (sl:=.one a) k (Ja7.mpr ⟨⟨hn,o,ho,ht⟩,fun _ h=>(Jc3 h).elim⟩) (Jb6.mpr ⟨Jc3,Jg8⟩) (hc g)
 refine gK ?_
 exact ⟨.loc ρ.length,_,ρ++[.one a],⟨⟨[.one a],rfl⟩,nw,fun b o _ _ e=>k b o e,fun b o e=>⟨o,k b o e⟩,hg,hos⟩,R',F.mono g' (fun _ _ o e=>k _ _ e) nw,.loc (sl:=.one a) Jg5 rfl,q _ R.unused⟩
end
section
inductive Cm where | eq | ne | lt | le | gt | ge
inductive Ex where
 | bad | none | bool (b:Bool) | int (i:Int) | str (n:Nat)
 | var (x:Nat) | free (x:Nat)
 | bin (op:Operator) (a b:Ex) | neg (a:Ex)
 | cmp (c:Cm) (a b:Ex) | isN (a:Ex) | notN (a:Ex) | inn (a b:Ex) | notIn (a b:Ex)
 | chain (c d:Cm) (a b e:Ex)
 | not (a:Ex) | ands (es:List Ex) | ors (es:List Ex) | ite (c a b:Ex)
 | attr (a:Ex) (n:Nat) | item (a i:Ex) | slice (a:Ex) (lo hi:Option Ex)
 | list (es:List Ex) | tup (es:List Ex) | dict
 | comp (elt:Ex) (x:Nat) (rng:Bool) (it:Ex) (c:Option Ex)
 | call (f:Nat) (es:List Ex) | new (c:Nat) (es:List Ex) | bi (b:Nat) (es:List Ex)
 | meth (a:Ex) (n:Nat) (es:List Ex)
inductive S where
 | bad | cont | retN
 | asg (x:Nat) (e:Ex) | unp (xs:List Nat) (e:Ex)
 | setI (a i e:Ex) | setA (a:Ex) (n:Nat) (e:Ex)
 | aug (x:Nat) (op:Operator) (e:Ex) | augA (a:Ex) (n:Nat) (op:Operator) (e:Ex)
 | ifs (c:Ex) (t e:List S) | for1 (x:Nat) (rng:Bool) (it:Ex) (b:List S) | forU (xs:List Nat) (rng:Bool) (it:Ex) (b:List S)
 | while_ (c:Ex) (b:List S) | ret (e:Ex) | expr (e:Ex)
noncomputable def trCm:CmpOp→Option Cm
 | .Eq=>some .eq | .NotEq=>some .ne | .Lt=>some .lt | .LtE=>some .le | .Gt=>some .gt | .GtE=>some .ge | _=>none
noncomputable abbrev Kd:=Str→Option NameKind
noncomputable def isNone:Expr→Bool
 | .Constant .none _ _=>true
 | _=>false
noncomputable def kdComp (kd:Kd) (names:List (Str×NameKind)):Kd:=fun y=>match names.lookup y with
 | some .free=>if kd y=some .cell then some .cell else some .free
 | r=>r
inductive BI where | int | len | list | max | sum | tuple
noncomputable def biOf0 (x:Str):Option BI:=
 if x == ("int" : Str) then some .int else if x == ("len" : Str) then some .len else if x == ("list" : Str) then some .list
 else if x == ("max" : Str) then some .max else if x == ("sum" : Str) then some .sum else if x == ("tuple" : Str) then some .tuple else none
noncomputable def biName (x:Str):Bool:=(biOf0 x).isSome
noncomputable def rangeOf? (kd:Kd):Expr→Option Expr
 | .Call (.Name f _) [e] [] _=>if f == ("range" : Str) && kd f == some .globalImplicit then some e else none
 | _=>none
noncomputable def isSetE (e:Expr):Bool:=Jc5 e.ctorIdx 7
noncomputable def plainArg (e:Expr):Bool:=!Jc5 e.ctorIdx 22
noncomputable def compOkB (kd:Kd) (scope:Scope) (x:Str):Bool:=scope.names.all (fun y=>y.2 != .cell && (y.2 != .local || ((y.1 == x || y.1 == (".0" : Str)) && scope.names.lookup y.1 == some .local)) && (y.2 != .free || ((symId y.1).isSome && (kd y.1 == some .free || kd y.1 == some .cell)))) && scope.names.lookup x == some .local
noncomputable def oB {α:Type} (o:Option α) (f:α→Ex):Ex:=match o with
 | some a=>f a
 | none=>.bad
noncomputable def iB (b:Bool) (e:Ex):Ex:=match b with
 | true=>e
 | false=>.bad
noncomputable def trC:Const→Ex
 | .none=>.none
 | .bool b=>.bool b
 | .int i=>.int i
 | .str x=>oB (symId x) .str
 | _=>.bad
noncomputable def trN (kk:Option NameKind) (k:Nat):Ex:=match kk with
 | some .local=>.var k
 | some .cell=>.var k
 | some .free=>.free k
 | _=>.bad
noncomputable def trU (op:UnaryOp) (x:Ex):Ex:=match op with
 | .USub=>.neg x
 | .Not=>.not x
 | _=>.bad
noncomputable def trBo (op:BoolOp) (es:List Ex):Ex:=match op with
 | .And=>.ands es
 | .Or=>.ors es
noncomputable def trCmp (op:CmpOp) (r:Expr) (a b:Ex):Ex:=match op with
 | .Is=>iB (isNone r) (.isN a)
 | .IsNot=>iB (isNone r) (.notN a)
 | .In=>iB (!isSetE r) (.inn a b)
 | .NotIn=>iB (!isSetE r) (.notIn a b)
 | op=>oB (trCm op) fun c=>.cmp c a b
noncomputable def trCall (b c d:Bool) (k:Nat) (es:List Ex):Ex:=match b with
 | true=>.bi k es
 | false=>match c with
  | true=>.new k es
  | false=>iB d (.call k es)
noncomputable def isFnSc:ScopeKind→Bool
 | .function=>true
 | _=>false
noncomputable def trRng (kd:Kd) (it:Expr) (f:Expr→Ex) (g:Bool→Ex→Ex):Ex:=match rangeOf? kd it with
 | some e=>g true (f e)
 | none=>g false (f it)
noncomputable def genOf:List Comprehension→Option (Str×Pos×Expr×List Expr)
 | [⟨.Name x px,it,ifs,a⟩]=>cond (Int.beq' a 0) (some (x,px,it,ifs)) none
 | _=>none
noncomputable def ifsOf (f:Expr→Ex):List Expr→Option (Option Ex)
 | []=>some none
 | [c]=>some (some (f c))
 | _=>none
noncomputable def trE:Nat→Kd→Expr→Ex
 | 0,_,_=>.bad
 | n+1,kd,e=>match e with
  | .Constant c _ _=>trC c
  | .Name x _=>oB (symId x) (trN (kd x))
  | .BinOp l op r _=>.bin op (trE n kd l) (trE n kd r)
  | .UnaryOp op x _=>trU op (trE n kd x)
  | .BoolOp op vs _=>iB (!vs.isEmpty) (trBo op (vs.map (trE n kd)))
  | .Compare l ops rs _=>match ops with
   | [op]=>match rs with
    | [r]=>trCmp op r (trE n kd l) (trE n kd r)
    | _=>.bad
   | [o,p]=>match rs with
    | [r,q]=>oB (trCm o) fun c=>oB (trCm p) fun d=>.chain c d (trE n kd l) (trE n kd r) (trE n kd q)
    | _=>.bad
   | _=>.bad
  | .IfExp t a b _=>.ite (trE n kd t) (trE n kd a) (trE n kd b)
  | .Attribute v a _=>oB (symId a) fun k=>.attr (trE n kd v) k
  | .Subscript v s _=>match s with
   | .Slice lo hi none _=>.slice (trE n kd v) (lo.map (trE n kd)) (hi.map (trE n kd))
   | s=>.item (trE n kd v) (trE n kd s)
  | .List es _=>iB (es.all plainArg && es.length<1000) (.list (es.map (trE n kd)))
  | .Tuple es _ _=>iB (es.all plainArg && es.length<1000) (.tup (es.map (trE n kd)))
  | .Dict ks vs _=>iB (ks.isEmpty && vs.isEmpty) .dict
  | .ListComp elt gens scope _=>oB (genOf gens) fun g=>oB (symId g.1) fun k=>iB (isFnSc scope.kind) (iB (compOkB kd scope g.1) (oB (ifsOf (trE n (kdComp kd scope.names)) g.2.2.2) fun c=>
    trRng kd g.2.2.1 (trE n kd) fun r e=>.comp (trE n (kdComp kd scope.names) elt) k r e c))
  | .Call f args kws pos=>match kws with
   | []=>iB (args.all plainArg) (match f with
    | .Name g _=>iB (kd g == some .globalImplicit) (oB (symId g) fun k=>trCall (biName g) (clsName g) (fnNames.contains g) k (args.map (trE n kd)))
    | .Attribute o a apos=>oB (symId a) fun k=>iB (apos.endLine == pos.line && args.length<20) (.meth (trE n kd o) k (args.map (trE n kd)))
    | _=>.bad)
   | _=>.bad
  | _=>.bad
noncomputable def trNames:List Expr→Option (List Nat)
 | []=>some []
 | .Name x _::r=>match symId x,trNames r with | some k,some ks=>some (k::ks) | _,_=>none
 | _=>none
noncomputable def okStore (kd:Kd):Expr→Bool
 | .Name x _=>kd x == some .local || kd x == some .cell
 | _=>false
noncomputable def isTupE (e:Expr):Bool:=Jc5 e.ctorIdx 25
noncomputable def isCompE (e:Expr):Bool:=Nat.ble 8 e.ctorIdx && Nat.ble e.ctorIdx 10
noncomputable def oBS {α:Type} (o:Option α) (f:α→S):S:=match o with
 | some a=>f a
 | none=>.bad
noncomputable def iBS (b:Bool) (e:S):S:=match b with
 | true=>e
 | false=>.bad
noncomputable def isSlE (e:Expr):Bool:=Jc5 e.ctorIdx 26
noncomputable def trRngS (kd:Kd) (it:Expr) (f:Expr→Ex) (g:Bool→Ex→S):S:=match rangeOf? kd it with
 | some e=>g true (f e)
 | none=>g false (f it)
noncomputable def trS:Nat→Kd→Stmt→S
 | 0,_,_=>.bad
 | n+1,kd,s=>match s with
  | .Return v _=>match v with | some e=>.ret (trE 60 kd e) | none=>.retN
  | .Continue _=>.cont
  | .Assign ts v _=>match ts with
   | [t]=>match t with
    | .Name x _=>iBS (okStore kd t) (oBS (symId x) fun k=>.asg k (trE 60 kd v))
    | .Tuple es _ _=>iBS (es.all (okStore kd) && !isTupE v) (oBS (trNames es) fun ks=>.unp ks (trE 60 kd v))
    | .Attribute o a _=>oBS (symId a) fun k=>.setA (trE 60 kd o) k (trE 60 kd v)
    | .Subscript o i _=>iBS (!isSlE i) (.setI (trE 60 kd o) (trE 60 kd i) (trE 60 kd v))
    | _=>.bad
   | _=>.bad
  | .AugAssign t op v _=>match t with
    | .Name x _=>iBS (okStore kd t) (oBS (symId x) fun k=>.aug k op (trE 60 kd v))
    | .Attribute a nm _=>oBS (symId nm) fun k=>.augA (trE 60 kd a) k op (trE 60 kd v)
    | _=>.bad
  | .If t a b _=>.ifs (trE 60 kd t) (a.map (trS n kd)) (b.map (trS n kd))
  | .For t it b o _=>match o with
   | []=>iBS (!isSetE it) (match t with
    | .Name x _=>iBS (okStore kd t) (oBS (symId x) fun k=>trRngS kd it (trE 60 kd) fun g e=>.for1 k g e (b.map (trS n kd)))
    | .Tuple es _ _=>iBS (es.all (okStore kd)) (oBS (trNames es) fun ks=>iBS (rangeOf? kd it).isNone (.forU ks false (trE 60 kd it) (b.map (trS n kd))))
    | _=>.bad)
   | _=>.bad
  | .While t b o _=>match o with | []=>.while_ (trE 60 kd t) (b.map (trS n kd)) | _=>.bad
  | .Expr e _=>iBS (!isCompE e) (.expr (trE 60 kd e))
  | _=>.bad
noncomputable def bopI (op:Operator) (a b:Int) (Q:Int→Prop):Prop:=match op with
 | .Add=>Q (a+b)
 | .Sub=>Q (a - b)
 | .Mult=>(a.natAbs<2 ^ 63∨b.natAbs<2 ^ 63)∧Q (a * b)
 | .FloorDiv=>(b≠0∧b.natAbs<1073741824)∧Q (a.fdiv b)
 | .Mod=>b≠0∧Q (a.fmod b)
 | .LShift=>(0≤b∧b≤1000000∧a.natAbs<2 ^ 64)∧Q (a * 2 ^ b.toNat)
 | .RShift=>0≤b∧Q (a.fdiv (2 ^ b.toNat))
 | .BitAnd=>Q (Builtin.bitAnd a b)
 | .BitOr=>Q (Builtin.bitOr a b)
 | .BitXor=>Q (Builtin.bitXor a b)
 | _=>False
noncomputable def rep (k:Nat) (xs:List V):List V:=match k with | 0=>[] | k+1=>xs++rep k xs
noncomputable def bop (op:Operator) (a b:V) (σ:St) (Q:V→St→Prop):Prop:=match a with
 | .int i=>match b with
  | .int j=>bopI op i j fun r=>Q (.int r) σ
  | _=>False
 | .loc l=>match b with
  | .loc r=>op=.Add∧∃ xs ys,σ l=some (.list xs)∧σ r=some (.list ys)∧xs.length+ys.length≤10000∧∀ n,σ n=none→Q (.loc n) (upd σ n (.list (xs++ys)))
  | .int k=>op=.Mult∧∃ xs,σ l=some (.list xs)∧k.natAbs≤1000∧xs.length≤1000∧∀ n,σ n=none→Q (.loc n) (upd σ n (.list (rep k.toNat xs)))
  | _=>False
 | .tup xs=>match b with
  | .tup ys=>op=.Add∧xs≠[]∧ys≠[]∧xs.length+ys.length≤10000∧Q (.tup (xs++ys)) σ
  | _=>False
 | _=>False
mutual
noncomputable def pd:V→PyData
 | .none=>.none
 | .bool b=>.bool b
 | .int i=>.int i
 | .str n=>.str (sy n)
 | .tup vs=>.tuple (pds vs)
 | .loc _=>.none
noncomputable def pds:List V→List PyData
 | []=>[]
 | v::vs=>pd v::pds vs
end
noncomputable def isD:Nat→V→Bool
 | _,.loc _=>false
 | n+1,.tup vs=>vs.all (isD n)
 | 0,.tup _=>false
 | _,_=>true
noncomputable def veq (a b:V):Bool:=PyData.eqv (pd a) (pd b)
noncomputable def veqs (a b:List V):Bool:=PyData.eqvAll (pds a) (pds b)
noncomputable def cmpI (c:Cm) (i j:Int):Bool:=match c with
 | .eq=>decide (i=j)
 | .ne=>!decide (i=j)
 | .lt=>decide (i<j)
 | .le=>decide (i≤j)
 | .gt=>decide (j<i)
 | .ge=>decide (j≤i)
noncomputable def eqOf (c:Cm) (b:Bool) (Q:Bool→Prop):Prop:=match c with
 | .eq=>Q b
 | .ne=>Q (!b)
 | _=>False
noncomputable def cmpV (c:Cm) (a b:V) (σ:St) (Q:V→St→Prop):Prop:=match a with
 | .int i=>match b with
  | .int j=>Q (.bool (cmpI c i j)) σ
  | _=>False
 | .str i=>match b with
  | .str j=>eqOf c (Jc5 i j) fun r=>Q (.bool r) σ
  | _=>False
 | .loc l=>match b with
  | .loc r=>∃ xs ys,σ l=some (.list xs)∧σ r=some (.list ys)∧xs.all (isD 6)=true∧ys.all (isD 6)=true∧eqOf c (veqs xs ys) fun r=>Q (.bool r) σ
  | _=>False
 | .tup xs=>match b with
  | .tup ys=>xs.all (isD 6)=true∧ys.all (isD 6)=true∧eqOf c (veqs xs ys) fun r=>Q (.bool r) σ
  | _=>False
 | _=>False
noncomputable def isNoneV:V→Bool
 | .none=>true
 | _=>false
noncomputable def inV (a b:V) (σ:St) (Q:Bool→Prop):Prop:=match b with
 | .tup xs=>isD 6 a=true∧xs.all (isD 6)=true∧Q (xs.any fun x=>veq x a)
 | .loc l=>match a with
  | .int k=>∃ es,σ l=some (.dict es)∧Q (ilook es k).isSome
  | a=>∃ xs,σ l=some (.list xs)∧isD 6 a=true∧xs.all (isD 6)=true∧Q (xs.any fun x=>veq x a)
 | _=>False
noncomputable def truthyV:V→Option Bool
 | .bool b=>some b
 | .int i=>some (!decide (i=0))
 | .none=>some false
 | _=>none
noncomputable def idx (k:Int) (n:Nat):Option Nat:=match decide (0≤k) with
 | true=>if k<n then some k.toNat else none
 | false=>if 0≤k+n then some (k+n).toNat else none
noncomputable def itemV (a i:V) (σ:St) (Q:V→St→Prop):Prop:=match i with
 | .int k=>match a with
  | .tup xs=>k.natAbs<2 ^ 62∧∃ j r,idx k xs.length=some j∧xs[j]?=some r∧Q r σ
  | .loc l=>∃ c,σ l=some c∧match c with
   | .list xs=>k.natAbs<2 ^ 62∧∃ j r,idx k xs.length=some j∧xs[j]?=some r∧Q r σ
   | .dict es=>∃ r,ilook es k=some r∧Q r σ
   | _=>False
  | _=>False
 | _=>False
noncomputable def partV:V→Option Int
 | .int k=>if k.natAbs<2 ^ 62 then some k else none
 | _=>none
noncomputable def sliceV (a:V) (lo hi:Option Int) (σ:St) (Q:V→St→Prop):Prop:=match a with
 | .tup xs=>lo=none∧hi=some (-1)∧xs≠[]∧xs.length≤10000∧Q (.tup xs.dropLast) σ
 | .loc l=>∃ xs,σ l=some (.list xs)∧xs.length≤10000∧match hi with
  | some h=>0≤h∧match lo with
   | none=>∀ n,σ n=none→Q (.loc n) (upd σ n (.list (xs.take h.toNat)))
   | some k=>0≤k∧k≤h∧h≤xs.length∧∀ n,σ n=none→Q (.loc n) (upd σ n (.list ((xs.drop k.toNat).take (h.toNat - k.toNat))))
  | none=>False
 | _=>False
noncomputable def attrV (a:V) (n:Nat) (σ:St) (Q:V→St→Prop):Prop:=match a with
 | .loc l=>∃ c as r,σ l=some (.inst c as)∧look as n=some r∧Q r σ
 | _=>False
noncomputable def upTo (n:Nat):List V:=(Je1 n).map fun (i:Nat)=>.int (i:Int)
noncomputable def iterV (rng:Bool) (a:V) (σ:St) (Q:List V→(St→Prop)→Prop):Prop:=match rng with
 | true=>match a with
  | .int n=>n.natAbs≤10000∧Q (upTo n.toNat) fun _=>True
  | _=>False
 | false=>match a with
  | .tup xs=>Q xs fun _=>True
  | .loc l=>∃ xs,σ l=some (.list xs)∧xs.length≤10000∧Q xs fun σ'=>σ' l=some (.list xs)
  | _=>False
inductive ifB (b:Bool) (A B:Prop):Prop
 | t:b=true→A→ifB b A B
 | f:b=false→B→ifB b A B
theorem ifB_intro {b:Bool} {A B:Prop} (h1:b=true→A) (h2:b=false→B):ifB b A B:=by cases b;exact .f rfl (h2 rfl);exact .t rfl (h1 rfl)
theorem ifB_true {b:Bool} {A B:Prop} (h:ifB b A B) (e:b=true):A:=by cases h with | t _ a=>exact a | f e' _=>rw [e] at e';cases e'
theorem ifB_false {b:Bool} {A B:Prop} (h:ifB b A B) (e:b=false):B:=by cases h with | f _ a=>exact a | t e' _=>rw [e] at e';cases e'
inductive Fn where
 | glob (n:Nat)
 | meth (c n:Nat)
 | clos (l:Nat)
noncomputable def Fn.At (Γ:Gl) (ρ:List Slot):Fn→Addr→Prop
 | .glob n,a=>Γ.mg (sy n)=some (.ref a)
 | .meth c n,a=>findIn Γ.K (.ref (Γ.cls c)) (sy n)=some (some (.ref a))
 | .clos l,a=>∃ sl,ρ[l]?=some sl∧a=sl.main
inductive RetP (Γ:Gl) (ρ:List Slot) (s:Shared) (Q:V→St→Prop) (res:Result) (s':Shared):Prop
 | intro (v:Value) (r:V) (σ':St) (ρ':List Slot) (e:res=.ok (.ret v)) (st:Step [] ρ ρ' s s') (R:Rel Γ ρ' σ' s'.heap) (rd:Rd s'.heap ρ' v r) (q:Q r σ'):RetP Γ ρ s Q res s'
structure WC (Γ:Gl) (k:Nat) (f:Fn) (args:List V) (σ:St) (Q:V→St→Prop):Prop where
 go:∀ (A:Around) (s:Shared) (ρ:List Slot) (vs:List Value) (a:Addr),Room k A→Rel Γ ρ σ s.heap→RdL s.heap ρ vs args→f.At Γ ρ a→
  codeAny (model Γ.prog Γ.w) A (.call (.ref a) ⟨vs,[]⟩) (RetP Γ ρ s Q) s
noncomputable def biOf (b:Nat):Option BI:=match Jc5 b 0 with
 | true=>some .int
 | false=>match Jc5 b 199 with
  | true=>some .len
  | false=>match Jc5 b 201 with
   | true=>some .list
   | false=>match Jc5 b 202 with
    | true=>some .max
    | false=>match Jc5 b 204 with
     | true=>some .sum
     | false=>match Jc5 b 205 with
      | true=>some .tuple
      | false=>none
noncomputable def biV (b:BI) (args:List V) (σ:St) (Q:V→St→Prop):Prop:=match args with
 | [a]=>match b with
  | .int=>match a with | .int i=>Q (.int i) σ | _=>False
  | .len=>match a with
   | .tup xs=>xs.length≤10000∧Q (.int xs.length) σ
   | .loc l=>∃ xs,σ l=some (.list xs)∧xs.length≤10000∧Q (.int xs.length) σ
   | _=>False
  | .list=>match a with
   | .loc l=>∃ xs,(σ l=some (.list xs)∨σ l=some (.ro xs))∧xs.length≤10000∧∀ n,σ n=none→Q (.loc n) (upd σ n (.list xs))
   | _=>False
  | .max=>match a with
   | .loc l=>∃ ns:List Int,σ l=some (.list (ns.map .int))∧ns.length≤10000∧ns≠[]∧∀ x,x∈ns→(∀ y∈ns,y≤x)→Q (.int x) σ
   | _=>False
  | .sum=>match a with
   | .loc l=>∃ ns:List Int,σ l=some (.list (ns.map .int))∧ns.length≤10000∧Q (.int ns.sum) σ
   | _=>False
  | .tuple=>match a with
   | .loc l=>∃ xs,σ l=some (.list xs)∧xs.length≤10000∧Q (.tup xs) σ
   | _=>False
 | _=>False
inductive MK where
 | list (l:Nat)
 | fn (f:Fn) (first:List V)
noncomputable def methL (a:V) (n:Nat) (σ:St) (Q:MK→Prop):Prop:=match a with
 | .loc l=>∃ c,σ l=some c∧match c with
  | .list _=>Q (.list l)
  | .inst c as=>match look as n with
   | some f=>match f with | .loc fl=>fieldOk n=true∧Q (.fn (.clos fl) []) | _=>False
   | none=>methOk c n=true∧Q (.fn (.meth c n) [a])
  | _=>False
 | _=>False
inductive LM where | append | pop | reverse
noncomputable def lmOf (n:Nat):Option LM:=match Jc5 n 37 with
 | true=>some .append
 | false=>match Jc5 n 125 with
  | true=>some .pop
  | false=>match Jc5 n 133 with
   | true=>some .reverse
   | false=>none
noncomputable def listM (l:Nat) (m:LM) (args:List V) (σ:St) (Q:V→St→Prop):Prop:=∃ xs,σ l=some (.list xs)∧xs.length≤10000∧match m with
 | .append=>match args with
  | [v]=>Q .none (upd σ l (.list (xs++[v])))
  | _=>False
 | .pop=>match args with
  | []=>∃ ys r,xs=ys++[r]∧Q r (upd σ l (.list ys))
  | [i]=>match i with
   | .int k=>0≤k∧∃ r,xs[k.toNat]?=some r∧Q r (upd σ l (.list (xs.eraseIdx k.toNat)))
   | _=>False
  | _=>False
 | .reverse=>match args with
  | []=>Q .none (upd σ l (.list xs.reverse))
  | _=>False
noncomputable def fnOk (f:Fn) (σ:St):Prop:=match f with
 | .clos l=>∃ j cl,σ l=some (.fn j cl)
 | _=>True
noncomputable def arOk (mk:MK) (x n:Nat):Prop:=match mk with
 | .list _=>match lmOf x with
  | some .append=>n=1
  | some .pop=>n≤1
  | some .reverse=>n=0
  | none=>False
 | .fn ..=>True
noncomputable def callM (Γ:Gl) (k:Nat) (n:Nat) (mk:MK) (args:List V) (σ:St) (Q:V→St→Prop):Prop:=match mk with
 | .list l=>match lmOf n with | some m=>listM l m args σ Q | none=>False
 | .fn f first=>fnOk f σ∧WC Γ k f (first++args) σ Q
noncomputable def newV (Γ:Gl) (k:Nat) (c:Nat) (args:List V) (σ:St) (Q:V→St→Prop):Prop:=
 ∀ l,σ l=none→WC Γ k (.meth c initId) (.loc l::args) (upd σ l (.inst c [])) fun r σ'=>isNoneV r=true∧Q (.loc l) σ'
noncomputable abbrev Frees:=List (Nat×Nat)
noncomputable def flook:Frees→Nat→Option Nat
 | [],_=>none
 | (y,v)::r,x=>match Jc5 y x with | true=>some v | false=>flook r x
theorem flook_mem {fr:Frees} {x l:Nat} (h:flook fr x=some l):(x,l)∈fr:=by
 induction fr with
 | nil=>cases h
 | cons p r ih=>
  unfold flook at h
  cases q:Jc5 p.1 x with
  | true=>rw [q] at h;cases h;rw [← Jb9 q];exact .head _
  | false=>rw [q] at h;exact .tail _ (ih h)
theorem flook_none {fr:Frees} {x:Nat} (h:flook fr x=none) (l:Nat):(x,l)∉fr:=by
 induction fr with
 | nil=>exact Jc3
 | cons p r ih=>
  unfold flook at h
  cases q:Jc5 p.1 x with
  | true=>rw [q] at h;cases h
  | false=>
   rw [q] at h
   exact fun hm=>(Jc0.mp hm).elim (fun e=>by rw [← e,Ji1] at q;cases q) (ih h)
noncomputable def fin (mode:Bool) (Q:V→St→Prop) (v:V) (σ:St):Prop:=match mode with
 | false=>Q v σ
 | true=>match truthyV v with | some b=>Q (.bool b) σ | none=>False
noncomputable abbrev Kt:=V→St→Prop
noncomputable abbrev EvT:=Bool→Ex→List (Nat×V)→St→Kt→Prop
noncomputable def evM (E:EvT) (mode:Bool) (m:List (Nat×V)):Ex→St→Kt→Prop:=fun e σ Q=>E mode e m σ Q
noncomputable def evP (E:EvT) (elt:Ex) (m:List (Nat×V)) (x:Nat):V→St→Kt→Prop:=fun y σ Q=>E false elt (put m x y) σ Q
noncomputable def kBop (op:Operator) (v:V) (mode:Bool) (Q:Kt):Kt:=fun w σ2=>bop op v w σ2 (fin mode Q)
noncomputable def kBin (E:EvT) (op:Operator) (b:Ex) (m:List (Nat×V)) (mode:Bool) (Q:Kt):Kt:=fun v σ1=>E false b m σ1 (kBop op v mode Q)
noncomputable def kNeg (mode:Bool) (Q:Kt):Kt:=fun v σ1=>match v with | .int i=>fin mode Q (.int (-i)) σ1 | _=>False
noncomputable def kCm (c:Cm) (v:V) (Q:Kt):Kt:=fun w σ2=>cmpV c v w σ2 Q
noncomputable def kCmp (E:EvT) (c:Cm) (b:Ex) (m:List (Nat×V)) (Q:Kt):Kt:=fun v σ1=>E false b m σ1 (kCm c v Q)
noncomputable def kIsN (Q:Kt):Kt:=fun v σ1=>Q (.bool (isNoneV v)) σ1
noncomputable def kNoN (Q:Kt):Kt:=fun v σ1=>Q (.bool (!isNoneV v)) σ1
noncomputable def kB (σ:St) (Q:Kt):Bool→Prop:=fun r=>Q (.bool r) σ
noncomputable def kNB (σ:St) (Q:Kt):Bool→Prop:=fun r=>Q (.bool (!r)) σ
noncomputable def kIn1 (v:V) (Q:Kt):Kt:=fun w σ2=>inV v w σ2 (kB σ2 Q)
noncomputable def kIn (E:EvT) (b:Ex) (m:List (Nat×V)) (Q:Kt):Kt:=fun v σ1=>E false b m σ1 (kIn1 v Q)
noncomputable def kNi1 (v:V) (Q:Kt):Kt:=fun w σ2=>inV v w σ2 (kNB σ2 Q)
noncomputable def kNi (E:EvT) (b:Ex) (m:List (Nat×V)) (Q:Kt):Kt:=fun v σ1=>E false b m σ1 (kNi1 v Q)
noncomputable def kCh3 (d:Cm) (j:Int) (Q:Kt):Kt:=fun u σ3=>match u with | .int h=>Q (.bool (cmpI d j h)) σ3 | _=>False
noncomputable def kCh2 (E:EvT) (c d:Cm) (e:Ex) (m:List (Nat×V)) (v:V) (Q:Kt):Kt:=fun w σ2=>match v with
 | .int i=>match w with
  | .int j=>ifB (cmpI c i j) (E false e m σ2 (kCh3 d j Q)) (Q (.bool false) σ2)
  | _=>False
 | _=>False
noncomputable def kCh1 (E:EvT) (c d:Cm) (b e:Ex) (m:List (Nat×V)) (Q:Kt):Kt:=fun v σ1=>E false b m σ1 (kCh2 E c d e m v Q)
noncomputable def kNot (Q:Kt):Kt:=fun v σ1=>match v with | .bool b=>Q (.bool (!b)) σ1 | _=>False
noncomputable def kAnd (R:St→Kt→Prop) (Q:Kt):Kt:=fun v σ1=>match v with | .bool b=>ifB b (R σ1 Q) (Q (.bool false) σ1) | _=>False
noncomputable def kOr (R:St→Kt→Prop) (Q:Kt):Kt:=fun v σ1=>match v with | .bool b=>ifB b (Q (.bool true) σ1) (R σ1 Q) | _=>False
noncomputable def wpAnds (f:Ex→St→Kt→Prop):List Ex→St→Kt→Prop
 | [],σ,Q=>Q (.bool true) σ
 | e::es,σ,Q=>f e σ (kAnd (wpAnds f es) Q)
noncomputable def wpOrs (f:Ex→St→Kt→Prop):List Ex→St→Kt→Prop
 | [],σ,Q=>Q (.bool false) σ
 | e::es,σ,Q=>f e σ (kOr (wpOrs f es) Q)
noncomputable def kIte (E:EvT) (mode:Bool) (a b:Ex) (m:List (Nat×V)) (Q:Kt):Kt:=fun v σ1=>match v with | .bool t=>ifB t (E mode a m σ1 Q) (E mode b m σ1 Q) | _=>False
noncomputable def kAttr (x:Nat) (mode:Bool) (Q:Kt):Kt:=fun v σ1=>fieldOk x=true∧attrV v x σ1 (fin mode Q)
noncomputable def kIt (v:V) (mode:Bool) (Q:Kt):Kt:=fun w σ2=>itemV v w σ2 (fin mode Q)
noncomputable def kItem (E:EvT) (i:Ex) (m:List (Nat×V)) (mode:Bool) (Q:Kt):Kt:=fun v σ1=>E false i m σ1 (kIt v mode Q)
noncomputable def kO (Q:Option Int→St→Prop):Kt:=fun v σ1=>match partV v with | some k=>Q (some k) σ1 | none=>False
noncomputable def wpO (f:Ex→St→Kt→Prop) (o:Option Ex) (σ:St) (Q:Option Int→St→Prop):Prop:=match o with
 | none=>Q none σ
 | some e=>f e σ (kO Q)
noncomputable def kSl3 (v:V) (l:Option Int) (mode:Bool) (Q:Kt):Option Int→St→Prop:=fun h σ3=>sliceV v l h σ3 (fin mode Q)
noncomputable def kSl2 (E:EvT) (hi:Option Ex) (m:List (Nat×V)) (v:V) (mode:Bool) (Q:Kt):Option Int→St→Prop:=fun l σ2=>wpO (evM E false m) hi σ2 (kSl3 v l mode Q)
noncomputable def kSl1 (E:EvT) (lo hi:Option Ex) (m:List (Nat×V)) (mode:Bool) (Q:Kt):Kt:=fun v σ1=>wpO (evM E false m) lo σ1 (kSl2 E hi m v mode Q)
noncomputable def kEs2 (v:V) (Q:List V→St→Prop):List V→St→Prop:=fun vs σ2=>Q (v::vs) σ2
noncomputable def kEs (R:St→(List V→St→Prop)→Prop) (Q:List V→St→Prop):Kt:=fun v σ1=>R σ1 (kEs2 v Q)
noncomputable def wpEs (f:Ex→St→Kt→Prop):List Ex→St→(List V→St→Prop)→Prop
 | [],σ,Q=>Q [] σ
 | e::es,σ,Q=>f e σ (kEs (wpEs f es) Q)
noncomputable def kList (mode:Bool) (Q:Kt):List V→St→Prop:=fun vs σ1=>∀ l,σ1 l=none→fin mode Q (.loc l) (upd σ1 l (.list vs))
noncomputable def kTup (mode:Bool) (Q:Kt):List V→St→Prop:=fun vs σ1=>fin mode Q (.tup vs) σ1
noncomputable def kElt (R:List V→St→(List V→St→Prop)→Prop) (acc:List V) (Q:List V→St→Prop):Kt:=fun v σ2=>acc.length≤10000∧R (acc++[v]) σ2 Q
noncomputable def kCond (R:List V→St→(List V→St→Prop)→Prop) (elt:V→St→Kt→Prop) (x:V) (acc:List V) (Q:List V→St→Prop):Kt:=fun b σ1=>match b with
 | .bool b=>ifB b (elt x σ1 (kElt R acc Q)) (R acc σ1 Q)
 | _=>False
noncomputable def wpIt (src:St→Prop) (cond elt:V→St→Kt→Prop):List V→List V→St→(List V→St→Prop)→Prop
 | [],acc,σ,Q=>src σ∧Q acc σ
 | x::xs,acc,σ,Q=>src σ∧cond x σ (kCond (wpIt src cond elt xs) elt x acc Q)
noncomputable def condW (f:Ex→List (Nat×V)→St→Kt→Prop) (c:Option Ex) (m:List (Nat×V)) (x:Nat) (y:V) (σ:St) (Q:Kt):Prop:=match c with
 | none=>Q (.bool true) σ
 | some c=>f c (put m x y) σ Q
noncomputable def kComp2 (E:EvT) (elt:Ex) (x:Nat) (c:Option Ex) (m:List (Nat×V)) (σ1:St) (Q:Kt):List V→(St→Prop)→Prop:=fun xs src=>wpIt src (condW (E true) c m x) (evP E elt m x) xs [] σ1 (kList false Q)
noncomputable def kComp (E:EvT) (elt:Ex) (x:Nat) (rng:Bool) (c:Option Ex) (m:List (Nat×V)) (Q:Kt):Kt:=fun v σ1=>iterV rng v σ1 (kComp2 E elt x c m σ1 Q)
noncomputable def kCall (Γ:Gl) (k f:Nat) (mode:Bool) (Q:Kt):List V→St→Prop:=fun vs σ1=>WC Γ k (.glob f) vs σ1 (fin mode Q)
noncomputable def kNew (Γ:Gl) (k c:Nat) (mode:Bool) (Q:Kt):List V→St→Prop:=fun vs σ1=>newV Γ k c vs σ1 (fin mode Q)
noncomputable def kBi (b:BI) (mode:Bool) (Q:Kt):List V→St→Prop:=fun vs σ1=>biV b vs σ1 (fin mode Q)
noncomputable def kCallM (Γ:Gl) (k x:Nat) (mk:MK) (mode:Bool) (Q:Kt):List V→St→Prop:=fun vs σ2=>callM Γ k x mk vs σ2 (fin mode Q)
noncomputable def kMk (Γ:Gl) (k:Nat) (E:EvT) (x:Nat) (es:List Ex) (m:List (Nat×V)) (σ1:St) (mode:Bool) (Q:Kt):MK→Prop:=fun mk=>arOk mk x es.length∧wpEs (evM E false m) es σ1 (kCallM Γ k x mk mode Q)
noncomputable def kMeth (Γ:Gl) (k:Nat) (E:EvT) (x:Nat) (es:List Ex) (m:List (Nat×V)) (mode:Bool) (Q:Kt):Kt:=fun v σ1=>methL v x σ1 (kMk Γ k E x es m σ1 mode Q)
noncomputable def wpE (Γ:Gl) (k:Nat) (fr:Frees):Nat→Bool→Ex→List (Nat×V)→St→Kt→Prop
 | 0,_,_,_,_,_=>False
 | n+1,mode,e,m,σ,Q=>match e with
  | .bad=>False
  | .none=>fin mode Q .none σ
  | .bool b=>fin mode Q (.bool b) σ
  | .int i=>fin mode Q (.int i) σ
  | .str x=>fin mode Q (.str x) σ
  | .var x=>match flook fr x with
   | some l=>∃ v,σ l=some (.cell v)∧fin mode Q v σ
   | none=>match look m x with | some v=>fin mode Q v σ | none=>False
  | .free x=>match flook fr x with | some l=>∃ v,σ l=some (.cell v)∧fin mode Q v σ | none=>False
  | .bin op a b=>wpE Γ k fr n false a m σ (kBin (wpE Γ k fr n) op b m mode Q)
  | .neg a=>wpE Γ k fr n false a m σ (kNeg mode Q)
  | .cmp c a b=>wpE Γ k fr n false a m σ (kCmp (wpE Γ k fr n) c b m Q)
  | .isN a=>wpE Γ k fr n false a m σ (kIsN Q)
  | .notN a=>wpE Γ k fr n false a m σ (kNoN Q)
  | .inn a b=>wpE Γ k fr n false a m σ (kIn (wpE Γ k fr n) b m Q)
  | .notIn a b=>wpE Γ k fr n false a m σ (kNi (wpE Γ k fr n) b m Q)
  | .chain c d a b e=>match mode with
   | true=>wpE Γ k fr n false a m σ (kCh1 (wpE Γ k fr n) c d b e m Q)
   | false=>False
  | .not a=>match mode with
   | true=>wpE Γ k fr n true a m σ (kNot Q)
   | false=>False
  | .ands es=>wpAnds (evM (wpE Γ k fr n) mode m) es σ Q
  | .ors es=>wpOrs (evM (wpE Γ k fr n) mode m) es σ Q
  | .ite c a b=>wpE Γ k fr n true c m σ (kIte (wpE Γ k fr n) mode a b m Q)
  | .attr a x=>wpE Γ k fr n false a m σ (kAttr x mode Q)
  | .item a i=>wpE Γ k fr n false a m σ (kItem (wpE Γ k fr n) i m mode Q)
  | .slice a lo hi=>wpE Γ k fr n false a m σ (kSl1 (wpE Γ k fr n) lo hi m mode Q)
  | .list es=>wpEs (evM (wpE Γ k fr n) false m) es σ (kList mode Q)
  | .tup es=>wpEs (evM (wpE Γ k fr n) false m) es σ (kTup mode Q)
  | .dict=>∀ l,σ l=none→fin mode Q (.loc l) (upd σ l (.dict []))
  | .comp elt x rng it c=>match mode with
   | true=>False
   | false=>flook fr x=none∧wpE Γ k fr n false it m σ (kComp (wpE Γ k fr n) elt x rng c m Q)
  | .call f es=>wpEs (evM (wpE Γ k fr n) false m) es σ (kCall Γ k f mode Q)
  | .new c es=>wpEs (evM (wpE Γ k fr n) false m) es σ (kNew Γ k c mode Q)
  | .bi b es=>match biOf b with
   | some bi=>wpEs (evM (wpE Γ k fr n) false m) es σ (kBi bi mode Q)
   | none=>False
  | .meth a x es=>wpE Γ k fr n false a m σ (kMeth Γ k (wpE Γ k fr n) x es m mode Q)
inductive Fl where
 | next | cont | brk | ret (v:V)
noncomputable abbrev SPost:=Fl→List (Nat×V)→St→Prop
noncomputable def puts:List (Nat×V)→List Nat→List V→Option (List (Nat×V))
 | m,[],[]=>some m
 | m,x::xs,v::vs=>puts (put m x v) xs vs
 | _,_,_=>none
noncomputable def unpackV (xs:List Nat) (v:V) (m:List (Nat×V)):Option (List (Nat×V)):=match v with
 | .tup vs=>puts m xs vs
 | _=>none
noncomputable def setAV (a:V) (n:Nat) (v:V) (σ:St) (Q:St→Prop):Prop:=match a with
 | .loc l=>∃ c as,σ l=some (.inst c as)∧as.length≤100∧Q (upd σ l (.inst c (put as n v)))
 | _=>False
noncomputable def setIV (a i v:V) (σ:St) (Q:St→Prop):Prop:=match a with
 | .loc l=>match i with
  | .int k=>∃ c,σ l=some c∧match c with
   | .list xs=>k.natAbs<2 ^ 62∧0≤k∧k<xs.length∧Q (upd σ l (.list (xs.set k.toNat v)))
   | .dict es=>es.length≤100∧ilook es k=none∧Q (upd σ l (.dict (es++[(k,v)])))
   | _=>False
  | _=>False
 | _=>False
noncomputable def isCellB:Cell→Bool
 | .cell _=>true
 | .unset=>true
 | _=>false
noncomputable def asgV (fr:Frees) (x:Nat) (v:V) (m:List (Nat×V)) (σ:St) (Q:List (Nat×V)→St→Prop):Prop:=match flook fr x with
 | none=>Q (put m x v) σ
 | some l=>(∃ c,σ l=some c∧isCellB c=true)∧Q m (upd σ l (.cell v))
noncomputable def nofr (fr:Frees):List Nat→Bool
 | []=>true
 | x::xs=>match flook fr x with | none=>nofr fr xs | some _=>false
theorem nofr_cons {fr:Frees} {x:Nat} {xs:List Nat} (h:nofr fr (x::xs)=true):flook fr x=none∧nofr fr xs=true:=by
 have h:(match flook fr x with | none=>nofr fr xs | some _=>false)=true:=h
 cases q:flook fr x with
 | none=>rw [q] at h;exact ⟨rfl,h⟩
 | some _=>rw [q] at h;cases h
theorem nofr_tail {fr:Frees} {x:Nat} {xs:List Nat} (h:nofr fr (x::xs)=true):nofr fr xs=true:=(nofr_cons h).2
theorem nofr_mem {fr:Frees} {xs:List Nat} (h:nofr fr xs=true):∀ x∈xs,flook fr x=none:=by
 induction xs with
 | nil=>exact fun _ h=>(by cases h)
 | cons y ys ih=>exact Ja7.mpr ⟨(nofr_cons h).1,ih (nofr_cons h).2⟩
noncomputable def seqQ (R:List (Nat×V)→St→SPost→Prop) (Q:SPost):SPost:=fun fl m1 σ1=>match fl with | .next=>R m1 σ1 Q | fl=>Q fl m1 σ1
noncomputable def wpSs (f:S→List (Nat×V)→St→SPost→Prop):List S→List (Nat×V)→St→SPost→Prop
 | [],m,σ,Q=>Q .next m σ
 | s::r,m,σ,Q=>f s m σ (seqQ (wpSs f r) Q)
/-- m0 knows no more than m -/
noncomputable def SubE (m0 m:List (Nat×V)):Prop:=∀ x v,look m0 x=some v→look m x=some v
inductive WkR (R:List (Nat×V)→St→SPost→Prop) (Q:SPost) (m:List (Nat×V)) (σ:St):Prop
 | mk (m0:List (Nat×V)) (h:SubE m0 m) (r:R m0 σ Q):WkR R Q m σ
noncomputable def forQ (R:List (Nat×V)→St→SPost→Prop) (Q:SPost):SPost:=fun fl m2 σ2=>match fl with
 | .next=>WkR R Q m2 σ2
 | .cont=>WkR R Q m2 σ2
 | .brk=>Q .next m2 σ2
 | .ret v=>Q (.ret v) m2 σ2
noncomputable def wpFor (src:St→Prop) (bind:V→List (Nat×V)→Option (List (Nat×V))) (body:List (Nat×V)→St→SPost→Prop):List V→List (Nat×V)→St→SPost→Prop
 | [],m,σ,Q=>src σ∧Q .next m σ
 | x::xs,m,σ,Q=>src σ∧match bind x m with
  | some m1=>body m1 σ (forQ (wpFor src bind body xs) Q)
  | none=>False
noncomputable def kWh (R body:List (Nat×V)→St→SPost→Prop) (m:List (Nat×V)) (Q:SPost):Kt:=fun b σ1=>match b with
  | .bool b=>ifB b (body m σ1 (forQ R Q)) (Q .next m σ1)
  | _=>False
noncomputable def wpWh (test:List (Nat×V)→St→Kt→Prop) (body:List (Nat×V)→St→SPost→Prop):Nat→List (Nat×V)→St→SPost→Prop
 | 0,_,_,_=>False
 | n+1,m,σ,Q=>test m σ (kWh (wpWh test body n) body m Q)
noncomputable def nextQ (m:List (Nat×V)) (Q:SPost):St→Prop:=fun σ=>Q .next m σ
noncomputable def kAsg (fr:Frees) (x:Nat) (m:List (Nat×V)) (Q:SPost):Kt:=fun v σ1=>asgV fr x v m σ1 (Q .next)
noncomputable def kUnp (fr:Frees) (xs:List Nat) (m:List (Nat×V)) (Q:SPost):Kt:=fun v σ1=>nofr fr xs=true∧match unpackV xs v m with | some m1=>Q .next m1 σ1 | none=>False
noncomputable def kSI2 (w v:V) (m:List (Nat×V)) (Q:SPost):Kt:=fun j σ3=>setIV w j v σ3 (nextQ m Q)
noncomputable def kSI1 (E:EvT) (i:Ex) (v:V) (m:List (Nat×V)) (Q:SPost):Kt:=fun w σ2=>E false i m σ2 (kSI2 w v m Q)
noncomputable def kSI0 (E:EvT) (a i:Ex) (m:List (Nat×V)) (Q:SPost):Kt:=fun v σ1=>E false a m σ1 (kSI1 E i v m Q)
noncomputable def kSA1 (x:Nat) (v:V) (m:List (Nat×V)) (Q:SPost):Kt:=fun w σ2=>fieldOk x=true∧setAV w x v σ2 (nextQ m Q)
noncomputable def kSA0 (E:EvT) (a:Ex) (x:Nat) (m:List (Nat×V)) (Q:SPost):Kt:=fun v σ1=>E false a m σ1 (kSA1 x v m Q)
noncomputable def putQ (x:Nat) (m:List (Nat×V)) (σ1:St) (Q:SPost):Int→Prop:=fun r=>Q .next (put m x (.int r)) σ1
noncomputable def kAug (x:Nat) (op:Operator) (u:V) (m:List (Nat×V)) (Q:SPost):Kt:=fun v σ1=>match u with
    | .int i=>match v with
     | .int j=>bopI op i j (putQ x m σ1 Q)
     | _=>False
    | _=>False
noncomputable def setQ (w:V) (x:Nat) (σ3:St) (m:List (Nat×V)) (Q:SPost):Int→Prop:=fun r=>setAV w x (.int r) σ3 (nextQ m Q)
noncomputable def kAA2 (x:Nat) (op:Operator) (w u:V) (m:List (Nat×V)) (Q:SPost):Kt:=fun v σ3=>match u with
    | .int i=>match v with
     | .int j=>bopI op i j (setQ w x σ3 m Q)
     | _=>False
    | _=>False
noncomputable def kAA1 (E:EvT) (x:Nat) (op:Operator) (e:Ex) (w:V) (m:List (Nat×V)) (Q:SPost):Kt:=fun u σ2=>E false e m σ2 (kAA2 x op w u m Q)
noncomputable def kAA0 (E:EvT) (x:Nat) (op:Operator) (e:Ex) (m:List (Nat×V)) (Q:SPost):Kt:=fun w σ1=>fieldOk x=true∧attrV w x σ1 (kAA1 E x op e w m Q)
noncomputable def kIfs (R1 R2:List (Nat×V)→St→SPost→Prop) (m:List (Nat×V)) (Q:SPost):Kt:=fun v σ1=>match v with
   | .bool b=>ifB b (R1 m σ1 Q) (R2 m σ1 Q)
   | _=>False
noncomputable def bind1 (x:Nat):V→List (Nat×V)→Option (List (Nat×V)):=fun y m=>some (put m x y)
noncomputable def kFor2 (bind:V→List (Nat×V)→Option (List (Nat×V))) (B:List (Nat×V)→St→SPost→Prop) (m:List (Nat×V)) (σ1:St) (Q:SPost):List V→(St→Prop)→Prop:=fun xs src=>wpFor src bind B xs m σ1 Q
noncomputable def kFor (bind:V→List (Nat×V)→Option (List (Nat×V))) (B:List (Nat×V)→St→SPost→Prop) (rng:Bool) (m:List (Nat×V)) (Q:SPost):Kt:=fun v σ1=>iterV rng v σ1 (kFor2 bind B m σ1 Q)
noncomputable def evT (E:EvT) (c:Ex):List (Nat×V)→St→Kt→Prop:=fun m σ Q=>E true c m σ Q
noncomputable def kRet (m:List (Nat×V)) (Q:SPost):Kt:=fun v σ1=>Q (.ret v) m σ1
noncomputable def okX (v:V):Prop:=match v with | .none=>True | .int _=>True | _=>False
noncomputable def kExpr (m:List (Nat×V)) (Q:SPost):Kt:=fun v σ1=>okX v∧Q .next m σ1
noncomputable def wpS (Γ:Gl) (k:Nat) (fr:Frees):Nat→S→List (Nat×V)→St→SPost→Prop
 | 0,_,_,_,_=>False
 | n+1,s,m,σ,Q=>match s with
  | .bad=>False
  | .cont=>Q .cont m σ
  | .retN=>Q (.ret .none) m σ
  | .asg x e=>wpE Γ k fr 60 false e m σ (kAsg fr x m Q)
  | .unp xs e=>wpE Γ k fr 60 false e m σ (kUnp fr xs m Q)
  | .setI a i e=>wpE Γ k fr 60 false e m σ (kSI0 (wpE Γ k fr 60) a i m Q)
  | .setA a x e=>wpE Γ k fr 60 false e m σ (kSA0 (wpE Γ k fr 60) a x m Q)
  | .aug x op e=>match look m x with
   | some u=>flook fr x=none∧wpE Γ k fr 60 false e m σ (kAug x op u m Q)
   | none=>False
  | .augA a x op e=>wpE Γ k fr 60 false a m σ (kAA0 (wpE Γ k fr 60) x op e m Q)
  | .ifs c t e=>wpE Γ k fr 60 true c m σ (kIfs (wpSs (wpS Γ k fr n) t) (wpSs (wpS Γ k fr n) e) m Q)
  | .for1 x rng it b=>flook fr x=none∧wpE Γ k fr 60 false it m σ (kFor (bind1 x) (wpSs (wpS Γ k fr n) b) rng m Q)
  | .forU ys rng it b=>nofr fr ys=true∧wpE Γ k fr 60 false it m σ (kFor (unpackV ys) (wpSs (wpS Γ k fr n) b) rng m Q)
  | .while_ c b=>∃ j,wpWh (evT (wpE Γ k fr 60) c) (wpSs (wpS Γ k fr n) b) j m σ Q
  | .ret e=>wpE Γ k fr 60 false e m σ (kRet m Q)
  | .expr e=>wpE Γ k fr 60 false e m σ (kExpr m Q)
noncomputable def retV (fl:Fl) (Q:V→Prop):Prop:=match fl with
 | .ret v=>Q v
 | _=>Q .none
noncomputable def retQ (Q:Kt):SPost:=fun fl _ σ'=>retV fl fun v=>Q v σ'
noncomputable def Le (Q Q':SPost):Prop:=∀ fl m σ,Q fl m σ→Q' fl m σ
noncomputable def joinQ (J:List (Nat×V)→St→Prop) (Q:SPost):SPost:=fun fl m1 σ1=>match fl with | .next=>J m1 σ1 | fl=>Q fl m1 σ1
noncomputable def invQ (I:List (Nat×V)→St→Prop) (Q:SPost):SPost:=fun fl m2 σ2=>match fl with | .next=>I m2 σ2 | .cont=>I m2 σ2 | .brk=>Q .next m2 σ2 | .ret v=>Q (.ret v) m2 σ2
/-- what a turn of a loop over β must bring: a state b' with its environment (what is beyond it is forgotten) -/
inductive EnvI {β:Type} (env:β→List (Nat×V)) (I:β→St→Prop) (m:List (Nat×V)) (σ:St):Prop
 | mk (b:β) (h:SubE (env b) m) (i:I b σ):EnvI env I m σ
end
section
theorem veq_rd_none {h:Heap} {ρ:List Slot} {v:Value} {r:V} (x:Rd h ρ v r):(v == Value.none)=isNoneV r:=by
 cases x <;> rfl
section
variable {Γ:Gl} {env:Env} {own:List Addr} {fr:List (Nat×Nat)} {m:List (Nat×V)} {ρ:List Slot} {σ:St} {s:Shared} {A:Around} {E:Value→Shared→Prop} {Q:V→St→Prop} {k:Nat}
theorem Post.val {v:Value} {r:V} {tk:Tok} (R:Rel Γ ρ σ s.heap) (F:FrR Γ env own fr ρ m s.heap) (hr:Rd s.heap ρ v r) (q:Q r σ):Post Γ env own fr m ρ s Q v { s with toks:=tk }:=
 Post.of_keeps (s':={ s with toks:=tk }) R F (fun _ _ e=>e) hr q
theorem Post.val0 {v:Value} {r:V} (R:Rel Γ ρ σ s.heap) (F:FrR Γ env own fr ρ m s.heap) (hr:Rd s.heap ρ v r) (q:Q r σ):Post Γ env own fr m ρ s Q v s:=
 Post.of_keeps R F (fun _ _ e=>e) hr q
theorem Rel.list {l:Nat} {xs:List V} {sl:Slot} (R:Rel Γ ρ σ s.heap) (hl:σ l=some (.list xs)) (hs:ρ[l]?=some sl):∃ its n,sl=.one sl.main∧s.heap.get? sl.main=some (listOf its n)∧RdL s.heap ρ its.toList xs:=by
 have h:=R.cells l _ sl hl hs
 cases sl with
 | one a=>obtain ⟨its,n,e,r⟩:=h;exact ⟨its,n,rfl,e,r⟩
 | two a d=>exact h.elim
theorem loc_main {h:Heap} {v:Value} {l:Nat} (x:Rd h ρ v (.loc l)):∃ sl,ρ[l]?=some sl∧v=.ref sl.main:=by
 cases x with
 | loc e ea=>subst ea;exact ⟨_,e,rfl⟩
theorem Rd.list {v:Value} {l:Nat} {xs:List V} (x:Rd s.heap ρ v (.loc l)) (R:Rel Γ ρ σ s.heap) (hl:σ l=some (.list xs)):∃ a its n,v=.ref a∧ρ[l]?=some (.one a)∧s.heap.get? a=some (listOf its n)∧RdL s.heap ρ its.toList xs:=by
 refine gabs fun gG gK=>?_
 obtain ⟨sl,e,rfl⟩:=loc_main x
 obtain ⟨its,n,e1,e2,r⟩:=R.list hl e
 refine gK ?_
 exact ⟨sl.main,its,n,rfl,by rw [e];exact congrArg some e1,e2,r⟩
theorem Rd.tupOf {h:Heap} {v:Value} {xs:List V} (x:Rd h ρ v (.tup xs)):∃ a its n,v=.ref a∧h.get? a=some (tupObj its.toArray n)∧a∉foot ρ∧RdL h ρ its xs:=by
 cases x with
 | tups e n hl r=>exact ⟨_,_,_,rfl,e,n,.of hl r⟩
theorem Rd.intOf {h:Heap} {v:Value} {i:Int} (x:Rd h ρ v (.int i)):∃ t,v=.int i t:=by cases x;exact ⟨_,rfl⟩
theorem Rd.strOf {h:Heap} {v:Value} {i:Nat} (x:Rd h ρ v (.str i)):∃ t,i<nsym∧v=.str (sy i) t:=by
 cases x with
 | str _ t x e l=>exact ⟨t,l,e▸rfl⟩
theorem Rd.boolOf {h:Heap} {v:Value} {b:Bool} (x:Rd h ρ v (.bool b)):v=.bool b:=by cases x;rfl
theorem abs_lt {a:Int} {n:Nat} (h:a.natAbs<n):a<(n:Int):=Ji9 Int.le_natAbs (Jc1.mpr h)
theorem abs_gt {a:Int} {n:Nat} (h:a.natAbs<n):-(n:Int)<a:=Int.neg_lt_of_neg_lt (Ji9 (Int.natAbs_neg a▸Int.le_natAbs) (Jc1.mpr h))
theorem abs63 {a:Int} (h:a.natAbs<2 ^ 62):-(2 ^ 63)≤a∧a<2 ^ 63:=⟨Int.le_of_lt (Int.lt_trans (by decide) (abs_gt h)),Int.lt_trans (abs_lt h) (by decide)⟩
theorem bits_of {a:Int} (h:a.natAbs<2 ^ 63):Builtin.Int.intBits a≤64:=intBits_le_64 (Int.lt_trans (by decide) (abs_gt h)) (Int.lt_trans (abs_lt h) (by decide))
theorem op_int {op':Operator} {i j:Int} {t u:Tok} {P:Int→Prop} {QV:Value→Shared→Prop} (h:bopI op' i j P) (hq:∀ r tk tk',P r→QV (.int r tk) { s with toks:=tk' }) :
  wpAny (model Γ.prog Γ.w) A (binaryOp op' (.int i t) (.int j u)) QV E s:=by
 cases op' with
 | Add=>exact PySem.P.add_int (hq _ _ _ h)
 | Sub=>exact PySem.P.sub_int (hq _ _ _ h)
 | Mult=>exact PySem.P.mul_int (hq _ _ _ h.2) (h.1.elim (fun e=>IntMulOk.of_left (bits_of e)) fun e=>IntMulOk.of_right (bits_of e))
 | Mod=>exact PyProof.Rows.mod_int h.1 (hq _ _ _ h.2)
 | LShift=>exact PyProof.Rows.lshift_int_small h.1.1 h.1.2.1 h.1.2.2 (hq _ _ _ h.2)
 | RShift=>exact PyProof.Rows.rshift_int h.1 (hq _ _ _ h.2)
 | BitOr=>exact PyProof.Rows.or_int (hq _ _ _ h)
 | BitXor=>exact PyProof.Rows.xor_int (hq _ _ _ h)
 | BitAnd=>exact PyProof.Rows.and_int (hq _ _ _ h)
 | FloorDiv=>exact PyProof.Rows.floordiv_int h.1.1 (hq _ _ _ h.2) (Or.inl (PyProof.noPylong_small h.1.2))
 | _=>exact h.elim
theorem iop_int {op':Operator} {i j:Int} {t u:Tok} {P:Int→Prop} {QV:Value→Shared→Prop} (h:bopI op' i j P) (hq:∀ r tk tk',P r→QV (.int r tk) { s with toks:=tk' }) :
  wpAny (model Γ.prog Γ.w) A (inplaceOp op' (.int i t) (.int j u)) QV E s:=by
 cases op' with
 | Add=>exact PySem.P.iadd_int (hq _ _ _ h)
 | Sub=>exact PySem.P.isub_int (hq _ _ _ h)
 | Mult=>exact PySem.P.imul_int (hq _ _ _ h.2) (h.1.elim (fun e=>IntMulOk.of_left (bits_of e)) fun e=>IntMulOk.of_right (bits_of e))
 | Mod=>exact PyProof.Rows.imod_int h.1 (hq _ _ _ h.2)
 | LShift=>exact PyProof.Rows.ilshift_int_small h.1.1 h.1.2.1 h.1.2.2 (hq _ _ _ h.2)
 | RShift=>exact PyProof.Rows.irshift_int h.1 (hq _ _ _ h.2)
 | BitOr=>exact PyProof.Rows.ior_int (hq _ _ _ h)
 | BitXor=>exact PyProof.Rows.ixor_int (hq _ _ _ h)
 | BitAnd=>exact PyProof.Rows.iand_int (hq _ _ _ h)
 | FloorDiv=>exact PyProof.Rows.ifloordiv_int h.1.1 (hq _ _ _ h.2) (Or.inl (PyProof.noPylong_small h.1.2))
 | _=>exact h.elim
theorem rep_foldl (its:Array Value):∀ (k:Nat) (acc:Array Value),(List.foldl (fun x1 x2=>x1++x2) acc (Jb1 k its)).toList=acc.toList++(Jb1 k its.toList).flatten
 | 0,acc=>by simp
 | k+1,acc=>by
  rw [List.replicate_succ,List.foldl_cons,rep_foldl its k]
  simp [List.replicate_succ]
theorem RdL.rep {h:Heap} {vs:List Value} {xs:List V} (r:RdL h ρ vs xs):∀ k:Nat,RdL h ρ (Jb1 k vs).flatten (rep k xs)
 | 0=>by simp [Mine.rep];exact .nil
 | k+1=>by rw [List.replicate_succ,List.flatten_cons];exact r.append (RdL.rep r k)
theorem push_none (h:Heap):h.get? h.objs.size=none:=by
 cases q:h.get? h.objs.size with
 | none=>rfl
 | some o=>exact absurd (Heap.lt_size q) (Nat.lt_irrefl _)
noncomputable def allNews (h₀ h:Heap) (L:Addr):List (Addr×Obj):=(Je1 h.objs.size).filterMap fun a=>match h.get? a with
 | some o=>if a≠L∧(h₀.get? a).isNone=true then some (a,o) else none
 | none=>none
theorem allNews_mem {h₀ h:Heap} {L a:Addr} {o:Obj} (e:h.get? a=some o) (n:a≠L) (z:h₀.get? a=none):(a,o)∈allNews h₀ h L:=by
 refine Jg4.mpr ⟨a,Ji6.mpr (Heap.lt_size e),?_⟩
 rw [e];simp [n,z]
theorem allNews_ok (h₀ h:Heap) (L:Addr):News h₀ L h (allNews h₀ h L):=fun p hp=>by
 refine gabs fun gG gK=>?_
 obtain ⟨a,_,e⟩:=Jg4.mp hp
 refine gK ?_
 cases q:h.get? a with
 | none=>rw [q] at e;cases e
 | some o=>
  rw [q] at e
  simp only at e
  split at e
  ·rename_i z;cases e;exact ⟨q,z.1,by simpa using z.2⟩
  ·cases e
structure Ledg (Γ:Gl) (L:Addr) (mm:Str→Option Value) (h:Heap):Prop where
 F:Fr Γ.h₀ L h mm
 N:News Γ.h₀ L h (allNews Γ.h₀ h L)
theorem FrR.ledg (F:FrR Γ env own fr ρ m s.heap) (R:Rel Γ ρ σ s.heap):∃ mm,Ledg Γ env.locals mm s.heap∧∀ x pv,look m x=some pv→env.kindOf (sy x)=some .local→∃ v,mm (sy x)=some v∧Rd s.heap ρ v pv:=by
 refine gabs fun gG gK=>?_
 obtain ⟨mm,hn,r⟩:=F.ns
 refine gK ?_
 exact ⟨mm,⟨⟨hn,R.base,(F.own _ F.me).2.1⟩,fun p hp=>allNews_ok _ _ _ p hp⟩,r⟩
theorem Ledg.stays {L:Addr} {mm:Str→Option Value} {h h':Heap} {news':List (Addr×Obj)} (R:∀ b o,Γ.h₀.get? b=some o→h.get? b=some o) (F':Fr Γ.h₀ L h' mm) (N':News Γ.h₀ L h' news') (hs:∀ p∈allNews Γ.h₀ h L,p∈news'):∀ b o,b≠L→h.get? b=some o→h'.get? b=some o:=fun b o n e=>by
 cases q:Γ.h₀.get? b with
 | none=>exact (N' _ (hs _ (allNews_mem e n q))).1
 | some o'=>have:=R b o' q;rw [e] at this;cases this;exact F'.keep b o q
theorem ns_nt {h:Heap} {L:Addr} {mm:Str→Option Value} (x:h.Ns L mm):∃ o,h.get? L=some o∧NT o:=let ⟨o,es,ep,e,d,_⟩:=x;⟨o,e,fun its n q=>by subst q;cases d⟩
structure Tr (Γ:Gl) (env:Env) (own:List Addr) (fr:List (Nat×Nat)) (m:List (Nat×V)) (ρ:List Slot) (σ:St) (s s':Shared):Prop where
 step:Step [env.locals] ρ ρ s s'
 R:Rel Γ ρ σ s'.heap
 F:FrR Γ env own fr ρ m s'.heap
theorem Tr.keeps {s':Shared} (R:Rel Γ ρ σ s.heap) (F:FrR Γ env own fr ρ m s.heap) (k:∀ b o,s.heap.get? b=some o→s'.heap.get? b=some o) (hg:s'.gens=s.gens:=by rfl) (ho:s'.os=s.os:=by rfl):Tr Γ env own fr m ρ σ s s':=
 ⟨Step.of_keeps k hg ho,R.keeps k,F.keeps k⟩
theorem Tr.trans {s' s'':Shared} (x:Tr Γ env own fr m ρ σ s s') (y:Tr Γ env own fr m ρ σ s' s''):Tr Γ env own fr m ρ σ s s'':=⟨x.step.trans y.step,y.R,y.F⟩
theorem Tr.grow {s':Shared} (x:Tr Γ env own fr m ρ σ s s') (F:FrR Γ env own fr ρ m s.heap):Grow s.heap ρ s'.heap ρ:=x.step.grow F.ownLive
theorem Post.tr {v:Value} {r:V} {s':Shared} (x:Tr Γ env own fr m ρ σ s s') (hr:Rd s'.heap ρ v r) (q:Q r σ):Post Γ env own fr m ρ s Q v s':=⟨r,σ,ρ,x.step,x.R,x.F,hr,q⟩
theorem Tr.but {s':Shared} {mm:Str→Option Value} (R:Rel Γ ρ σ s.heap) (F:FrR Γ env own fr ρ m s.heap) (hm:∀ x pv,look m x=some pv→env.kindOf (sy x)=some .local→∃ v,mm (sy x)=some v∧Rd s.heap ρ v pv)
  (k:∀ b o,b≠env.locals→s.heap.get? b=some o→s'.heap.get? b=some o) (hn:s'.heap.Ns env.locals mm) (hc:∃ o,s'.heap.get? env.locals=some o∧NT o) (hg:s'.gens=s.gens:=by rfl) (ho:s'.os=s.os:=by rfl):Tr Γ env own fr m ρ σ s s':=by
 have nL:env.locals∉foot ρ:=(F.own _ F.me).1
 refine gabs fun gG gK=>?_
 obtain ⟨oL,hL,cL⟩:=(F.own _ F.me).2.2
 refine gK ?_
 have g:Grow s.heap ρ s'.heap ρ:=⟨Jf7,fun a its n e nf=>⟨k _ _ (fun q=>by subst q;rw [hL] at e;cases e;exact cL _ _ rfl) e,nf⟩⟩
 have bL:∀ b o,Γ.h₀.get? b=some o→b≠env.locals:=fun b o e q=>by
  have:=(F.own _ F.me).2.1;rw [← q] at this;exact absurd (Heap.lt_size e) (Nat.not_lt.mpr this)
 refine ⟨⟨Jf7,fun _ h=>.inl h,fun b o h1 h2 e=>k b o (fun q=>h2 (q▸.head _)) e,fun b o e=>?_,hg,ho⟩,?_,?_⟩
 ·by_cases q:b=env.locals
  ·subst q;obtain ⟨o',e',_⟩:=hc;exact ⟨o',e'⟩
  ·exact ⟨o,k b o q e⟩
 ·refine ⟨fun b o e=>k b o (bL b o e) (R.base b o e),R.nd,R.old,fun a ha=>?_,R.dom,fun l c sl h1 h2=>(R.cells l c sl h1 h2).mono g fun a ha o e=>k _ _ (fun q=>nL (q▸mem_foot (Ja9 h2) ha)) e⟩
  refine gabs fun gG gK=>?_
  obtain ⟨o,e,c⟩:=R.live a ha
  refine gK ?_
  exact ⟨o,k _ _ (fun q=>nL (q▸ha)) e,c⟩
 ·refine ⟨F.kind,F.globs,F.bui,⟨mm,hn,fun x pv a b=>let ⟨v,e1,e2⟩:=hm x pv a b;⟨v,e1,e2.mono g⟩⟩,F.ccell,F.floc,fun x hx hnf=>?_,F.cinj,F.me,fun a ha=>?_,F.free,F.fcell,F.names⟩
  ·refine gabs fun gG gK=>?_
   obtain ⟨c,v,e1,⟨o,ho,hd⟩,e3,e4,e5⟩:=F.cell x hx hnf
   refine gK ?_
   exact ⟨c,v,e1,⟨o,k _ _ e4 ho,hd⟩,e3,e4,fun pv hp=>let ⟨u,a,b⟩:=e5 pv hp;⟨u,a,b.mono g⟩⟩
  ·refine gabs fun gG gK=>?_
   obtain ⟨e1,e2,o,e3,e4⟩:=F.own a ha
   refine gK ?_
   refine ⟨e1,e2,?_⟩
   by_cases q:a=env.locals
   ·subst q;exact hc
   ·exact ⟨o,k _ _ q e3,e4⟩
theorem Tr.ledg {h':Heap} {tk:Tok} {mm:Str→Option Value} {news':List (Addr×Obj)} (R:Rel Γ ρ σ s.heap) (F:FrR Γ env own fr ρ m s.heap) (hm:∀ x pv,look m x=some pv→env.kindOf (sy x)=some .local→∃ v,mm (sy x)=some v∧Rd s.heap ρ v pv)
  (F':Fr Γ.h₀ env.locals h' mm) (N':News Γ.h₀ env.locals h' news') (hs:∀ p∈allNews Γ.h₀ s.heap env.locals,p∈news'):Tr Γ env own fr m ρ σ s { s with heap:=h',toks:=tk }:=
 Tr.but (s':={ s with heap:=h',toks:=tk }) R F hm (Ledg.stays R.base F' N' hs) F'.ns (ns_nt F'.ns)
theorem Rel.adopt {h:Heap} {a:Addr} {o:Obj} {c:Cell} (R:Rel Γ ρ σ h) (F:FrR Γ env own fr ρ m h) (nf:a∉foot ρ) (n0:Γ.h₀.get? a=none) (na:a∉own) (ho:h.get? a=some o) (ht:NT o)
  (hc:Grow h ρ h (ρ++[.one a])→CellAt Γ h (ρ++[.one a]) (.one a) c):Rel Γ (ρ++[.one a]) (upd σ ρ.length c) h∧FrR Γ env own fr (ρ++[.one a]) m h:=by
 have hm:∀ b∈foot (ρ++[.one a]),b∈foot ρ∨b=a:=fun b hb=>by rw [foot_append] at hb;simpa [foot,Slot.addrs] using hb
 have g:Grow h ρ h (ρ++[.one a]):=⟨⟨_,rfl⟩,fun b its n e nb=>⟨e,fun q=>by
  rcases hm b q with q | q
  ·exact nb q
  ·subst q;rw [ho] at e;cases e;exact ht _ _ rfl⟩⟩
 have pre:∀ i sl,ρ[i]?=some sl→(ρ++[Slot.one a])[i]?=some sl:=fun i sl e=>by rw [Jb4 (Ja3.mp e).1];exact e
 refine ⟨exts_one R c▸R.adds g R.base (fun _ _ _ e=>e) rfl (fun b hb=>(Ja4.mp ((foot_one (.one a)).subst (motive:=fun l=>b∈l) hb):b=a)▸⟨nf,n0,o,ho,ht⟩) ((foot_one (.one a)).symm▸(Jb6.mpr ⟨Jc3,Jg8⟩:[a].Nodup)) (one_c (hc g)),⟨F.kind,F.globs,F.bui,?_,F.ccell,F.floc,fun x hx hnf=>?_,F.cinj,F.me,fun b hb=>?_,fun x l hl hx=>?_,F.fcell,F.names⟩⟩
 ·refine gabs fun gG gK=>?_
  obtain ⟨mm,hn,r⟩:=F.ns
  refine gK ?_
  exact ⟨mm,hn,fun x pv a b=>let ⟨v,e1,e2⟩:=r x pv a b;⟨v,e1,e2.mono g⟩⟩
 ·refine gabs fun gG gK=>?_
  obtain ⟨c,v,e1,e2,e3,e4,e5⟩:=F.cell x hx hnf
  refine gK ?_
  exact ⟨c,v,e1,e2,e3,e4,fun pv hp=>let ⟨u,a,b⟩:=e5 pv hp;⟨u,a,b.mono g⟩⟩
 ·refine gabs fun gG gK=>?_
  obtain ⟨e1,e2,e3⟩:=F.own b hb
  refine gK ?_
  exact ⟨fun q=>by rcases hm b q with q | q;exact e1 q;subst q;exact na hb,e2,e3⟩
 ·refine gabs fun gG gK=>?_
  obtain ⟨c,e2,e3⟩:=F.free x l hl hx
  refine gK ?_
  exact ⟨c,e2,pre _ _ e3⟩
theorem Post.adopt {s':Shared} {a:Addr} {o:Obj} {c:Cell} (R:Rel Γ ρ σ s.heap) (F:FrR Γ env own fr ρ m s.heap) (x:Tr Γ env own fr m ρ σ s s') (hn:s.heap.get? a=none) (ho:s'.heap.get? a=some o) (ht:NT o) (hc:Grow s'.heap ρ s'.heap (ρ++[.one a])→CellAt Γ s'.heap (ρ++[.one a]) (.one a) c)
  (q:∀ l,σ l=none→Q (.loc l) (upd σ l c)):Post Γ env own fr m ρ s Q (.ref a) s':=by
 have nf:a∉foot ρ:=fun hf=>by obtain ⟨o',e,_⟩:=R.live a hf;rw [hn] at e;cases e
 have na:a∉own:=fun hf=>by obtain ⟨_,_,o',e,_⟩:=F.own a hf;rw [hn] at e;cases e
 have n0:Γ.h₀.get? a=none:=by
  cases e:Γ.h₀.get? a with
  | none=>rfl
  | some o'=>have:=R.base _ _ e;rw [hn] at this;cases this
 obtain ⟨R',F'⟩:=Rel.adopt (c:=c) x.R x.F nf n0 na ho ht hc
 refine ⟨.loc ρ.length,_,ρ++[.one a],⟨⟨_,rfl⟩,fun b hb=>?_,x.step.keep,x.step.dom,x.step.gens,x.step.os⟩,R',F',.loc (sl:=.one a) Jg5 rfl,q _ R.unused⟩
 rw [foot_append] at hb
 rcases Jd0.mp hb with q | q
 ·exact .inl q
 ·exact .inr (Ja4.mp (show b∈[a] from q)▸hn)
theorem nt_list (its:Array Value) (n:Nat):NT (listOf its n):=nt_cls rfl
theorem Post.newList {its:List Value} {n:Nat} {xs:List V} {s':Shared} (R:Rel Γ ρ σ s.heap) (F:FrR Γ env own fr ρ m s.heap) (hr:RdL s.heap ρ its xs) (hh:s'.heap=s.heap.push (listOf its.toArray n)) (q:∀ l,σ l=none→Q (.loc l) (upd σ l (.list xs))) (hg:s'.gens=s.gens:=by rfl) (ho:s'.os=s.os:=by rfl) :
  Post Γ env own fr m ρ s Q (.ref s.heap.objs.size) s':=by
 have k:∀ b o,s.heap.get? b=some o→s'.heap.get? b=some o:=fun b o e=>by rw [hh];exact Heap.get?_push_of_some _ e
 have e:s'.heap.get? s.heap.objs.size=some (listOf its.toArray n):=by rw [hh];exact Heap.get?_push_size _ rfl
 exact Post.adopt R F (Tr.keeps R F k hg ho) (push_none _) e (nt_list _ _) (fun g=>show CellAt Γ s'.heap _ (.one _) (.list _) from ⟨its.toArray,n,e,by simpa using (hr.mono (Grow.of_keeps k)).mono g⟩) q
theorem Post.newTup {its:List Value} {n:Nat} {xs:List V} {s':Shared} (R:Rel Γ ρ σ s.heap) (F:FrR Γ env own fr ρ m s.heap) (hr:RdL s.heap ρ its xs) (hh:s'.heap=s.heap.push (tupObj its.toArray n)) (q:Q (.tup xs) σ) (hg:s'.gens=s.gens:=by rfl) (ho:s'.os=s.os:=by rfl) :
  Post Γ env own fr m ρ s Q (.ref s.heap.objs.size) s':=by
 have k:∀ b o,s.heap.get? b=some o→s'.heap.get? b=some o:=fun b o e=>by rw [hh];exact Heap.get?_push_of_some _ e
 refine Post.of_keeps R F k (.tup (its:=its) (n:=n) (by rw [hh];exact Heap.get?_push_size _ rfl) (fun hm=>?_) (hr.mono (Grow.of_keeps k))) q hg ho
 refine gabs fun gG gK=>?_
 obtain ⟨o,e,_⟩:=R.live _ hm
 refine gK ?_
 rw [push_none] at e;cases e
inductive BopC (op:Operator) (σ:St) (Q:V→St→Prop):V→V→Prop
 | int (i j:Int) (h:bopI op i j fun r=>Q (.int r) σ):BopC op σ Q (.int i) (.int j)
 | cat (l r:Nat) (xs ys:List V) (h1:op=.Add) (e1:σ l=some (.list xs)) (e2:σ r=some (.list ys)) (hz:xs.length+ys.length≤10000) (q:∀ n,σ n=none→Q (.loc n) (upd σ n (.list (xs++ys)))):BopC op σ Q (.loc l) (.loc r)
 | mul (l:Nat) (k:Int) (xs:List V) (h1:op=.Mult) (e1:σ l=some (.list xs)) (hk:k.natAbs≤1000) (hz:xs.length≤1000) (q:∀ n,σ n=none→Q (.loc n) (upd σ n (.list (rep k.toNat xs)))):BopC op σ Q (.loc l) (.int k)
 | tup (xs ys:List V) (h1:op=.Add) (n1:xs≠[]) (n2:ys≠[]) (hz:xs.length+ys.length≤10000) (q:Q (.tup (xs++ys)) σ):BopC op σ Q (.tup xs) (.tup ys)
theorem bop_cases {op:Operator} {a b:V} (h:bop op a b σ Q):BopC op σ Q a b:=by
 cases a with
 | int i=>cases b with
  | int j=>exact .int i j h
  | _=>exact h.elim
 | loc l=>cases b with
  | loc r=>obtain ⟨h1,xs,ys,e1,e2,hz,q⟩:=h;exact .cat l r xs ys h1 e1 e2 hz q
  | int k=>obtain ⟨h1,xs,e1,hk,hz,q⟩:=h;exact .mul l k xs h1 e1 hk hz q
  | _=>exact h.elim
 | tup xs=>cases b with
  | tup ys=>obtain ⟨h1,n1,n2,hz,q⟩:=h;exact .tup xs ys h1 n1 n2 hz q
  | _=>exact h.elim
 | _=>exact h.elim
theorem rep_nil (k:Nat):Mine.rep k ([]:List V)=[]:=by
 induction k with
 | zero=>rfl
 | succ k ih=>exact ih
theorem rd_rep {h:Heap} {i1:Array Value} {xs:List V} (r:RdL h ρ i1.toList xs) (k:Nat):RdL h ρ (List.foldl (fun x1 x2=>x1++x2) #[] (Jb1 (if i1.isEmpty=true then 0 else k) i1)).toList (rep k xs):=by
 by_cases hi:i1.isEmpty=true
 ·rw [if_pos hi]
  have:i1=#[]:=Array.isEmpty_iff.mp hi
  subst this
  cases r
  rw [rep_nil];exact .nil
 ·rw [if_neg hi,rep_foldl]
  exact r.rep k
theorem pos_of {its:List Value} {xs:List V} {h:Heap} (r:RdL h ρ its xs) (n:xs≠[]):its≠[]:=fun q=>by subst q;cases r;exact n rfl
theorem op_bop {op':Operator} {a b:V} {v w:Value} (h:bop op' a b σ Q) (R:Rel Γ ρ σ s.heap) (F:FrR Γ env own fr ρ m s.heap) (ra:Rd s.heap ρ v a) (rb:Rd s.heap ρ w b) :
  wpAny (model Γ.prog Γ.w) A (binaryOp op' v w) (Post Γ env own fr m ρ s Q) E s:=by
 cases bop_cases h with
 | int i j h'=>exact ra.intOf.elim fun t e=>rb.intOf.elim fun u e'=>e▸e'▸op_int h' fun r tk tk' hr=>Post.val R F (.int r tk) hr
 | cat l r xs ys h1 e1 e2 hz q=>
  clear h
  subst h1
  refine gabs fun gG gK=>?_
  obtain ⟨a1,i1,n1,rfl,_,g1,r1⟩:=ra.list R e1
  obtain ⟨a2,i2,n2,rfl,_,g2,r2⟩:=rb.list R e2
  refine gK ?_
  have l1:i1.size=xs.length:=r1.length
  have l2:i2.size=ys.length:=r2.length
  refine concat_meets ⟨_,g1,rfl⟩ ⟨_,g2,rfl⟩ noFill_list_add seq_list_add PySem.F.slot_list_add PySem.F.entry_list_add (PySem.F.args_list_add_2 _ _) (list_addW a1 a2 i1 i2 n1 n2 none none #[] #[] (by rw [sizeLine_eq,l1,l2];exact Ja1 hz (Ja0 rfl))) ⟨g1,g2,?_⟩
  exact Post.newList (its:=i1.toList++i2.toList) (n:=0) R F (r1.append r2) (by show s.heap.push (listOf (i1++i2) 0)=_;rw [← Array.toList_append,Array.toArray_toList]) q
 | mul l kk xs h1 e1 hk hz q=>
  clear h
  subst h1
  refine gabs fun gG gK=>?_
  obtain ⟨u,rfl⟩:=rb.intOf
  obtain ⟨a1,i1,n1,rfl,_,g1,r1⟩:=ra.list R e1
  obtain ⟨mm,D,hmm⟩:=F.ledg R
  refine gK ?_
  have l1:i1.size=xs.length:=r1.length
  have hm:i1.size * kk.toNat≤1000 * 1000:=Nat.mul_le_mul (l1▸hz) (Int.toNat_le.mpr (Int.le_trans Int.le_natAbs (Jf6.mpr hk)))
  refine PyProof.Rows.mul_list D.F D.N g1 (abs63 (Jc9 hk (Ja0 rfl))).1 (abs63 (Jc9 hk (Ja0 rfl))).2 (Ja1 hm (Ja0 rfl)) fun h' F' N'=>?_
  have x:=Tr.ledg (tk:=s.toks) R F hmm F' N' fun p hp=>List.mem_cons_of_mem _ hp
  have e:=(N' _ (.head _)).1
  refine Post.adopt R F x (push_none _) e (nt_list _ _) (fun g=>show CellAt Γ h' _ (.one _) (.list _) from ⟨_,_,e,?_⟩) q
  exact rd_rep ((r1.mono (x.grow F)).mono g) _
 | tup xs ys h1 n1 n2 hz q=>
  clear h
  subst h1
  refine gabs fun gG gK=>?_
  obtain ⟨a1,i1,k1,rfl,g1,_,r1⟩:=ra.tupOf
  obtain ⟨a2,i2,k2,rfl,g2,_,r2⟩:=rb.tupOf
  refine gK ?_
  have l1:=r1.length;have l2:=r2.length
  refine PySem.P.add_tuple g1 g2 ?_ ?_ (Post.newTup (its:=i1++i2) (n:=0) R F (r1.append r2) ?_ q) (by rw [sizeLine_eq];simp;lia)
  ·have:=pos_of r1 n1;simpa using this
  ·have:=pos_of r2 n2;simpa using this
  ·simp
end
end
section
theorem syms_ok:syms.all PyData.strOk=true:=by decide +kernel
theorem sy_ok {n:Nat} (h:n<nsym):PyData.strOk (sy n)=true:=by
 unfold sy
 rw [Ja6,Ja5 h]
 exact Jb3.mp syms_ok _ (Jc7 h)
section
variable {h:Heap} {ρ:List Slot}
theorem reads_all {n:Nat} {vs:List Value} {rs:List V} (hl:vs.length=rs.length) (f:∀ (i:Nat) (v:Value) (r:V),vs[i]?=some v→rs[i]?=some r→(∃ as,Reads h v (pd r) as)∧(pd r).canLay0=true∧(pd r).depth≤n):(∃ as,ReadsAll h vs (pds rs) as)∧PyData.canLayAll0 (pds rs)=true∧PyData.depthAll (pds rs)≤n:=by
 induction vs generalizing rs with
 | nil=>cases rs with
  | nil=>exact ⟨⟨_,ReadsAll.nil⟩,rfl,Ji4 _⟩
  | cons r rs=>cases hl
 | cons v vs ih=>cases rs with
  | nil=>cases hl
  | cons r rs=>
   have h1:=f 0 v r rfl rfl
   have h2:=ih (Nat.succ.inj hl) fun i=>f (i+1)
   exact ⟨h1.1.elim fun as a=>h2.1.elim fun bs b=>⟨_,ReadsAll.cons a b⟩,Jd5.mpr ⟨h1.2.1,h2.2.1⟩,Nat.max_le.mpr ⟨h1.2.2,h2.2.2⟩⟩
theorem rd_reads {v:Value} {r:V} (x:Rd h ρ v r):∀ n,isD n r=true→(∃ as,Reads h v (pd r) as)∧(pd r).canLay0=true∧(pd r).depth≤n:=by
 induction x with
 | none=>exact fun n _=>⟨⟨_,Reads.none⟩,rfl,Ji4 _⟩
 | bool b=>exact fun n _=>⟨⟨_,Reads.bool b⟩,rfl,Ji4 _⟩
 | int i t=>exact fun n _=>⟨⟨_,Reads.int i t⟩,rfl,Ji4 _⟩
 | str k t x e l=>exact fun n _=>⟨⟨_,by subst e;exact Reads.str _ t⟩,sy_ok l,Ji4 _⟩
 | tups e m hl _ ih=>
  exact fun n hd=>by
   cases n with
   | zero=>cases hd
   | succ n=>
    have hd:_=true:=hd
    have y:=reads_all (n:=n) hl fun i v r e1 e2=>ih i v r e1 e2 n (Jb3.mp hd r (Ja9 e2))
    exact ⟨y.1.elim fun as a=>⟨_,reads_tuple_at e rfl rfl a⟩,y.2.1,Je9 y.2.2⟩
 | loc e _=>exact fun n hd=>by cases n <;> cases hd
theorem rd_readsL (n:Nat) {vs:List Value} {rs:List V} (x:RdL h ρ vs rs) (hd:∀ r∈rs,isD n r=true):(∃ as,ReadsAll h vs (pds rs) as)∧PyData.canLayAll0 (pds rs)=true∧PyData.depthAll (pds rs)≤n:=
 reads_all x.length fun i v r e1 e2=>rd_reads (x.at i v r e1 e2) n (hd r (Ja9 e2))
end
section
variable {Γ:Gl} {env:Env} {own:List Addr} {fr:List (Nat×Nat)} {m:List (Nat×V)} {ρ:List Slot} {σ:St} {s:Shared} {A:Around} {E:Value→Shared→Prop} {Q:V→St→Prop} {k:Nat}
theorem all6 {xs:List V} (h:xs.all (isD 6)=true):∀ r∈xs,isD 6 r=true:=fun r hr=>Jb3.mp h r hr
theorem shaped_of {d:PyData} (h1:d.canLay0=true) (h2:d.depth≤64):SeqAt.shaped d=true:=by
 unfold SeqAt.shaped;rw [h1,Bool.true_and];exact decide_eq_true h2
theorem list_reads {a:Addr} {its:Array Value} {n:Nat} {xs:List V} (e:s.heap.get? a=some (listOf its n)) (r:RdL s.heap ρ its.toList xs) (h:xs.all (isD 6)=true):(∃ as,Reads s.heap (.ref a) (.list (pds xs)) as)∧SeqAt.shaped (.list (pds xs))=true∧PyData.canLayAll0 (pds xs)=true∧PyData.depthAll (pds xs)≤6:=by
 refine gabs fun gG gK=>?_
 obtain ⟨⟨as,a1⟩,a2,a3⟩:=rd_readsL 6 r (all6 h)
 refine gK ?_
 exact ⟨⟨_,reads_list_at e rfl rfl a1⟩,shaped_of (by simpa [PyData.canLay0] using a2) (by simp only [PyData.depth];lia),a2,a3⟩
theorem tup_reads {v:Value} {xs:List V} (r:Rd s.heap ρ v (.tup xs)) (h:xs.all (isD 6)=true):(∃ as,Reads s.heap v (.tuple (pds xs)) as)∧SeqAt.shaped (.tuple (pds xs))=true∧PyData.canLayAll0 (pds xs)=true∧PyData.depthAll (pds xs)≤6:=by
 refine gabs fun gG gK=>?_
 obtain ⟨a,its,n,rfl,e,_,r1⟩:=r.tupOf
 obtain ⟨⟨as,a1⟩,a2,a3⟩:=rd_readsL 6 r1 (all6 h)
 refine gK ?_
 exact ⟨⟨_,reads_tuple_at e rfl rfl (by simpa using a1)⟩,shaped_of (by simpa [PyData.canLay0] using a2) (by simp only [PyData.depth];lia),a2,a3⟩
theorem beq_dec (i j:Int):(i == j)=decide (i=j):=by by_cases h:i=j <;> simp [h]
theorem sy_beq {i j:Nat} (hi:i<nsym) (hj:j<nsym):(sy i == sy j)=Jc5 i j:=by
 by_cases h:i=j
 ·subst h;simp [Ji1]
 ·have:sy i≠sy j:=fun e=>h (sy_inj hi hj e)
  rw [beq_eq_false_iff_ne.mpr this]
  cases q:Jc5 i j with
  | false=>rfl
  | true=>exact absurd (Jb9 q) h
inductive CmpC (c:Cm) (σ:St) (Q:V→St→Prop):V→V→Prop
 | int (i j:Int) (h:Q (.bool (cmpI c i j)) σ):CmpC c σ Q (.int i) (.int j)
 | str (i j:Nat) (h:eqOf c (Jc5 i j) fun r=>Q (.bool r) σ):CmpC c σ Q (.str i) (.str j)
 | list (l r:Nat) (xs ys:List V) (e1:σ l=some (.list xs)) (e2:σ r=some (.list ys)) (d1:xs.all (isD 6)=true) (d2:ys.all (isD 6)=true) (h:eqOf c (veqs xs ys) fun r=>Q (.bool r) σ):CmpC c σ Q (.loc l) (.loc r)
 | tup (xs ys:List V) (d1:xs.all (isD 6)=true) (d2:ys.all (isD 6)=true) (h:eqOf c (veqs xs ys) fun r=>Q (.bool r) σ):CmpC c σ Q (.tup xs) (.tup ys)
theorem cmp_cases {c:Cm} {a b:V} (h:cmpV c a b σ Q):CmpC c σ Q a b:=by
 cases a with
 | int i=>cases b with
  | int j=>exact .int i j h
  | _=>exact h.elim
 | str i=>cases b with
  | str j=>exact .str i j h
  | _=>exact h.elim
 | loc l=>cases b with
  | loc r=>obtain ⟨xs,ys,e1,e2,d1,d2,q⟩:=h;exact .list l r xs ys e1 e2 d1 d2 q
  | _=>exact h.elim
 | tup xs=>cases b with
  | tup ys=>exact .tup xs ys h.1 h.2.1 h.2.2
  | _=>exact h.elim
 | _=>exact h.elim
theorem eq_cases {c:Cm} {op':CmpOp} (ho:trCm op'=some c) {b:Bool} {P:Bool→Prop} (h:eqOf c b P):(op'=.Eq∧P b)∨(op'=.NotEq∧P (!b)):=by
 cases op' with
 | Eq=>exact .inl ⟨rfl,(Jb7 ho▸h:eqOf .eq b P)⟩
 | NotEq=>exact .inr ⟨rfl,(Jb7 ho▸h:eqOf .ne b P)⟩
 | Lt=>exact (Jb7 ho▸h:eqOf .lt b P).elim
 | LtE=>exact (Jb7 ho▸h:eqOf .le b P).elim
 | Gt=>exact (Jb7 ho▸h:eqOf .gt b P).elim
 | GtE=>exact (Jb7 ho▸h:eqOf .ge b P).elim
 | _=>cases ho
theorem cmp_data {c:Cm} {op':CmpOp} (ho:trCm op'=some c) {x y:PyData} {as bs:List Addr} {v w:Value} {b:Bool} (h:eqOf c b fun r=>Q (.bool r) σ) (hb:PyData.eqv x y=b) (p1:Reads s.heap v x as) (q1:Reads s.heap w y bs) (p2:SeqAt.shaped x=true) (q2:SeqAt.shaped y=true) (hu:A.units+64<cLine) (R:Rel Γ ρ σ s.heap) (F:FrR Γ env own fr ρ m s.heap) :
  wpAny (model Γ.prog Γ.w) A (compareOp op' v w) (Post Γ env own fr m ρ s Q) E s:=by
 subst hb
 cases eq_cases ho h with
 | inl q=>exact q.1▸eq_dataH p1 q1 p2 q2 hu (Post.val0 R F (.bool _) q.2)
 | inr q=>exact q.1▸ne_dataH p1 q1 p2 q2 hu (Post.val0 R F (.bool _) q.2)
theorem op_cmp {c:Cm} {op':CmpOp} (ho:trCm op'=some c) {a b:V} {v w:Value} (hR:RoomB k A) (h:cmpV c a b σ Q) (R:Rel Γ ρ σ s.heap) (F:FrR Γ env own fr ρ m s.heap) (ra:Rd s.heap ρ v a) (rb:Rd s.heap ρ w b) :
  wpAny (model Γ.prog Γ.w) A (compareOp op' v w) (Post Γ env own fr m ρ s Q) E s:=by
 have hu:A.units+64<cLine:=Jc9 (Jg1 (Jc6 _ _) (Ja0 rfl)) hR.2.1
 clear hR
 cases cmp_cases h with
 | int i j h'=>
  clear h
  obtain ⟨t,rfl⟩:=ra.intOf;obtain ⟨u,rfl⟩:=rb.intOf
  clear ra rb
  cases op' <;> cases ho
  ·exact PySem.P.eq_int (Post.val0 R F (.bool _) (by rw [beq_dec];exact h'))
  ·exact PySem.P.ne_int (Post.val0 R F (.bool _) (by rw [bne,beq_dec];exact h'))
  ·exact PySem.P.lt_int (Post.val0 R F (.bool _) h')
  ·exact PySem.P.le_int (Post.val0 R F (.bool _) h')
  ·exact PySem.P.gt_int (Post.val0 R F (.bool _) h')
  ·exact PySem.P.ge_int (Post.val0 R F (.bool _) h')
 | str i j h'=>
  clear h
  obtain ⟨t,l1,rfl⟩:=ra.strOf;obtain ⟨u,l2,rfl⟩:=rb.strOf
  cases eq_cases ho h' with
  | inl q=>exact q.1▸PyProof.Rows.eq_str (Post.val0 R F (.bool _) (sy_beq l1 l2▸q.2))
  | inr q=>exact q.1▸PySem.P.ne_str (Post.val0 R F (.bool _) (by
    have:((sy i).cps.toList != (sy j).cps.toList)=!Jc5 i j:=by rw [bne,toList_beq,sy_beq l1 l2]
    rw [this];exact q.2))
 | list l r xs ys e1 e2 d1 d2 q=>
  clear h
  obtain ⟨a1,i1,n1,rfl,_,g1,r1⟩:=ra.list R e1
  obtain ⟨a2,i2,n2,rfl,_,g2,r2⟩:=rb.list R e2
  obtain ⟨⟨as,p1⟩,p2,_⟩:=list_reads g1 r1 d1
  obtain ⟨⟨bs,q1⟩,q2,_⟩:=list_reads g2 r2 d2
  exact cmp_data ho q rfl p1 q1 p2 q2 hu R F
 | tup xs ys d1 d2 q=>
  clear h
  obtain ⟨⟨as,p1⟩,p2,_⟩:=tup_reads ra d1
  obtain ⟨⟨bs,q1⟩,q2,_⟩:=tup_reads rb d2
  exact cmp_data ho q rfl p1 q1 p2 q2 hu R F
theorem pds_any (a:V):∀ xs:List V,((pds xs).any fun y=>PyData.eqv y (pd a))=xs.any fun x=>veq x a
 | []=>by simp [pds]
 | x::xs=>by rw [pds];simp only [List.any_cons,pds_any a xs];rfl
theorem Rd.dict {v:Value} {l:Nat} {es:List (Int×V)} (x:Rd s.heap ρ v (.loc l)) (R:Rel Γ ρ σ s.heap) (hl:σ l=some (.dict es)):∃ a kvs,v=.ref a∧ρ[l]?=some (.one a)∧s.heap.DictOf (intKind Γ.prog Γ.w) a kvs∧KVs s.heap ρ kvs es∧(a == sysModules)=false:=by
 refine gabs fun gG gK=>?_
 obtain ⟨sl,e,rfl⟩:=loc_main x
 refine gK ?_
 have h:=R.cells l _ sl hl e
 cases sl with
 | one a=>obtain ⟨lo,f,h1,h2⟩:=h;exact ⟨a,f,rfl,e,h1,h2,lo⟩
 | two a d=>exact h.elim
theorem kvs_some {h:Heap} {kvs:List (Int×Value)} {es:List (Int×V)} (x:KVs h ρ kvs es) (k:Int):(valueAt kvs k).isSome=(ilook es k).isSome:=by
 cases q:ilook es k with
 | none=>rw [((x.look k).2 q).1];rfl
 | some r=>obtain ⟨v,e,_⟩:=(x.look k).1 r q;rw [e];rfl
inductive InC (σ:St) (P:Bool→Prop):V→V→Prop
 | tup (a:V) (xs:List V) (d1:isD 6 a=true) (d2:xs.all (isD 6)=true) (q:P (xs.any fun x=>veq x a)):InC σ P a (.tup xs)
 | list (a:V) (l:Nat) (xs:List V) (e:σ l=some (.list xs)) (d1:isD 6 a=true) (d2:xs.all (isD 6)=true) (q:P (xs.any fun x=>veq x a)):InC σ P a (.loc l)
 | dict (k:Int) (l:Nat) (es:List (Int×V)) (e:σ l=some (.dict es)) (q:P (ilook es k).isSome):InC σ P (.int k) (.loc l)
theorem in_cases {a b:V} {P:Bool→Prop} (h:inV a b σ P):InC σ P a b:=by
 cases b with
 | tup xs=>exact .tup a xs h.1 h.2.1 h.2.2
 | loc l=>cases a with
  | int k=>obtain ⟨es,e,q⟩:=h;exact .dict k l es e q
  | _=>obtain ⟨xs,e,d1,d2,q⟩:=h;exact .list _ l xs e d1 d2 q
 | _=>exact h.elim
theorem in_units {a b:Nat} (hu:A.units+64<cLine) (h:b≤6):A.units+1+min a b<cLine:=Jc9 (Nat.add_assoc ..▸Je4 (Ja1 (Je4 (Ja1 (Nat.min_le_right a b) h) 1) (Ja0 rfl)) A.units) hu
theorem op_in {a b:V} {v w:Value} {P:Bool→Prop} {QV:Value→Shared→Prop} (neg:Bool) (hR:RoomB k A) (h:inV a b σ P) (R:Rel Γ ρ σ s.heap) (ra:Rd s.heap ρ v a) (rb:Rd s.heap ρ w b)
  (hq:∀ b tk,P b→QV (.bool (if neg then !b else b)) { s with toks:=tk }) :
  wpAny (model Γ.prog Γ.w) A (compareOp (if neg then .NotIn else .In) v w) QV E s:=by
 have hu:A.units+64<cLine:=Jc9 (Jg1 (Jc6 _ _) (Ja0 rfl)) hR.2.1
 clear hR
 cases in_cases h with
 | tup a xs d1 d2 q=>
  clear h
  obtain ⟨⟨as,p1⟩,p2,p3,p4⟩:=tup_reads rb d2
  obtain ⟨⟨bs,q1⟩,q2,q3⟩:=rd_reads ra 6 d1
  cases neg with
  | false=>exact SeqAt.in_tuple_reads p1 q1 p3 q2 (in_units hu q3) (by rw [pds_any];exact hq _ s.toks q)
  | true=>exact SeqAt.notIn_tuple_reads p1 q1 p3 q2 (in_units hu q3) (by rw [pds_any];exact hq _ s.toks q)
 | list a l xs e d1 d2 q=>
  clear h
  obtain ⟨c,i1,n1,rfl,_,g1,r1⟩:=rb.list R e
  obtain ⟨⟨as,p1⟩,p2,p3,p4⟩:=list_reads g1 r1 d2
  obtain ⟨⟨bs,q1⟩,q2,q3⟩:=rd_reads ra 6 d1
  cases neg with
  | false=>exact SeqAt.in_list_reads p1 q1 p3 q2 (in_units hu q3) (by rw [pds_any];exact hq _ s.toks q)
  | true=>exact SeqAt.notIn_list_reads p1 q1 p3 q2 (in_units hu q3) (by rw [pds_any];exact hq _ s.toks q)
 | dict kk l es e q=>
  clear h
  obtain ⟨t,rfl⟩:=ra.intOf
  obtain ⟨d,kvs,rfl,hs,hdo,hk,lo⟩:=rb.dict R e
  rw [← kvs_some hk kk] at q
  cases neg with
  | false=>exact wpAny_in_of (intKind_is _ _ kk t) lo hdo.mapOf (hq _ _ q)
  | true=>
   refine wpAny_notIn_of (intKind_is _ _ kk t) lo hdo.mapOf ?_
   have:=hq _ (s.toks+1) q
   cases e9:valueAt kvs kk <;> rw [e9] at this <;> exact this
theorem seq_of {k:Int} {n:Nat} (z:Int) (e:(if k<0 then k+n else k)=z) (h0:0≤z) (h1:z<n):seqIndex? k n=some z.toNat:=by
 show (if (decide (0≤(if k<0 then k+(n:Int) else k)) && decide ((if k<0 then k+(n:Int) else k)<n))=true then some (if k<0 then k+(n:Int) else k).toNat else none)=_
 rw [e,decide_eq_true h0,decide_eq_true h1];rfl
theorem idx_seq {k:Int} {n j:Nat} (h:idx k n=some j):seqIndex? k n=some j:=by
 unfold idx at h
 by_cases h0:0≤k
 ·rw [decide_eq_true h0] at h
  by_cases h1:k<n
  ·exact (seq_of k (if_neg (Int.not_lt.mpr h0)) h0 h1).trans ((if_pos h1).symm.trans h)
  ·cases (if_neg h1).symm.trans h
 ·rw [decide_eq_false h0] at h
  by_cases h1:0≤k+n
  ·exact (seq_of (k+n) (if_pos (Int.not_le.mp h0)) h1 (Int.lt_of_lt_of_le (Int.add_lt_add_right (Int.not_le.mp h0) n) (Int.le_of_eq (Int.zero_add (n:Int))))).trans ((if_pos h1).symm.trans h)
  ·cases (if_neg h1).symm.trans h
inductive ItC (σ:St) (Q:V→St→Prop) (k:Int):V→Prop
 | tup (xs:List V) (hk:k.natAbs<2 ^ 62) (j:Nat) (r:V) (e1:idx k xs.length=some j) (e2:xs[j]?=some r) (q:Q r σ):ItC σ Q k (.tup xs)
 | list (l:Nat) (xs:List V) (e:σ l=some (.list xs)) (hk:k.natAbs<2 ^ 62) (j:Nat) (r:V) (e1:idx k xs.length=some j) (e2:xs[j]?=some r) (q:Q r σ):ItC σ Q k (.loc l)
 | dict (l:Nat) (es:List (Int×V)) (e:σ l=some (.dict es)) (r:V) (e1:ilook es k=some r) (q:Q r σ):ItC σ Q k (.loc l)
theorem item_cases {a b:V} (h:itemV a b σ Q):∃ k,b=.int k∧ItC σ Q k a:=by
 cases b with
 | int k=>
  refine ⟨k,rfl,?_⟩
  cases a with
  | tup xs=>obtain ⟨hk,j,r,e1,e2,q⟩:=h;exact .tup xs hk j r e1 e2 q
  | loc l=>
   obtain ⟨c,e,h⟩:=h
   cases c with
   | list xs=>obtain ⟨hk,j,r,e1,e2,q⟩:=h;exact .list l xs e hk j r e1 e2 q
   | dict es=>obtain ⟨r,e1,q⟩:=h;exact .dict l es e r e1 q
   | _=>exact h.elim
  | _=>exact h.elim
 | _=>exact h.elim
theorem get_list {l:Addr} {its:Array Value} {k:Int} {t:Tok} {j:Nat} {x:Value} {QV:Value→Shared→Prop} (hL:s.heap.IsList l its) (hk:k.natAbs<2 ^ 62) (e1:idx k its.size=some j) (e3:its[j]?=some x) (q:QV x s):wpAny (model Γ.prog Γ.w) A (getItem (.ref l) (.int k t)) QV E s:=by
 unfold idx at e1
 by_cases h0:0≤k
 ·rw [decide_eq_true h0] at e1
  by_cases h1:k<its.size
  ·cases (if_pos h1).symm.trans e1
   exact wpAny_getItem_list hL h0 (abs63 hk).2 e3 q
  ·cases (if_neg h1).symm.trans e1
 ·rw [decide_eq_false h0] at e1
  by_cases h1:0≤k+its.size
  ·cases (if_pos h1).symm.trans e1
   exact wpAny_getItem_list_neg hL (Int.not_le.mp h0) (Int.le_of_sub_nonneg ((Int.sub_neg k (its.size:Int)).symm▸h1)) (abs63 hk).1 e3 q
  ·cases (if_neg h1).symm.trans e1
theorem op_item {a b:V} {v w:Value} {QV:Value→Shared→Prop} {value slice:Expr} (hs:∀ lo hi st p,slice≠.Slice lo hi st p) (h:itemV a b σ Q) (R:Rel Γ ρ σ s.heap) (ra:Rd s.heap ρ v a) (rb:Rd s.heap ρ w b)
  (hq:∀ r x tk,Q r σ→Rd s.heap ρ x r→QV x { s with toks:=tk }) :
  wpAny (model Γ.prog Γ.w) A (subscriptTail value slice v w) QV E s:=by
 have hsub:∀ o i,subscripted slice false o i=operate [o,i] (getItem o i):=fun o i=>by
  unfold subscripted
  cases slice <;> first | rfl | exact absurd rfl (hs _ _ _ _)
 clear hs
 obtain ⟨kk,rfl,C⟩:=item_cases h
 clear h
 obtain ⟨t,rfl⟩:=rb.intOf
 cases C with
 | tup xs hk j r e1 e2 q=>
  obtain ⟨c,its,n,rfl,g,_,r1⟩:=ra.tupOf
  obtain ⟨x,e3,r2⟩:=r1.get e2
  have hT:IsTup s.heap c its.toArray:=⟨_,g,rfl,_,rfl⟩
  exact tail_any hT.typeIs PyProof.Rows.slot_tuple_getitem.lookup (PyProof.Rows.getItem_tuple hT (abs63 hk).1 (abs63 hk).2 (by rw [List.size_toArray,r1.length];exact idx_seq e1) (by simpa using e3) (hq r x s.toks q r2)) (hsub _ _)
 | list l xs e hk j r e1 e2 q=>
  obtain ⟨c,its,n,rfl,_,g,r1⟩:=ra.list R e
  obtain ⟨x,e3,r2⟩:=r1.get e2
  have hL:s.heap.IsList c its:=⟨_,g,rfl,_,rfl⟩
  exact tail_any hL.typeIs slot_list_getitem.lookup (get_list hL hk ((Jf0.symm.trans r1.length).symm▸e1) (Array.getElem?_toList▸e3) (hq r x s.toks q r2)) (hsub _ _)
 | dict l es e r e1 q=>
  obtain ⟨d,kvs,rfl,hs',hdo,hk,_⟩:=ra.dict R e
  have hm:=hdo.mapOf
  obtain ⟨x,e2,r2⟩:=(hk.look kk).1 r e1
  exact tail_any hm.typeIs slot_dict_getitem.lookup (wpAny_getItem_of (intKind_is _ _ kk t) hm e2 (hq r x _ q r2)) (hsub _ _)
theorem isStr_sy {n k:Nat} {t:Tok} (hn:n<nsym) (hk:k<nsym):(Value.str (sy n) t).isStr (sy k)=Jc5 n k:=by
 show (sy n == sy k)=_
 exact sy_beq hn hk
theorem ents_get {P:Params} {h:Heap} {es:List DictEntry} {as:List (Nat×V)} {n:Nat} (hn:n<nsym) (x:Ents P h ρ es as):match look as n with
  | some r=>∃ v,getL (sy n) es=some (some v)∧Rd h ρ v r
  | none=>getL (sy n) es=some none:=by
 have nk:∀ {es as},Ents P h ρ es as→es.any (·.refKey)=false:=fun x=>by
  induction x with
  | nil=>rfl
  | cons a b c d _ ih=>rw [List.any_cons,ih,Bool.or_false];simp [DictEntry.refKey,a]
 induction x with
 | nil=>exact rfl
 | @cons e es k r as t a b c d y ih=>
  simp only [look]
  have hb:e.key.isStr (sy n)=Jc5 k n:=by rw [a];exact isStr_sy b hn
  cases q:Jc5 k n with
  | true=>simp only;exact ⟨e.val,by delta getL;rw [List.find?_cons,hb,q],d⟩
  | false=>
   simp only
   have hr:e.refKey=false:=by simp [DictEntry.refKey,a]
   have:getL (sy n) (e::es)=getL (sy n) es:=by delta getL;rw [List.find?_cons,hb,q,List.any_cons,hr,Bool.false_or]
   rw [this];exact ih
theorem Rd.inst {v:Value} {l c:Nat} {as:List (Nat×V)} (x:Rd s.heap ρ v (.loc l)) (R:Rel Γ ρ σ s.heap) (hl:σ l=some (.inst c as)):∃ a d es n,v=.ref a∧ρ[l]?=some (.two a d)∧clsName (sy c)=true∧s.heap.get? a=some (instObj (Γ.cls c) d)∧s.heap.get? d=some (dictOf es n)∧Ents Γ.w.params s.heap ρ es as:=by
 refine gabs fun gG gK=>?_
 obtain ⟨sl,e,rfl⟩:=loc_main x
 refine gK ?_
 have h:=R.cells l _ sl hl e
 cases sl with
 | one a=>exact h.elim
 | two a d=>obtain ⟨h0,h1,es,n,h2,h3⟩:=h;exact ⟨a,d,es,n,rfl,e,h0,h1,h2,h3⟩
theorem rd_handed {h:Heap} {v:Value} {r:V} (x:Rd h ρ v r):handedIn v=true:=by cases x <;> rfl
theorem instAt {a d C:Addr} {es:List DictEntry} {n:Nat} {h:Heap} (h1:h.get? a=some (instObj C d)) (h2:h.get? d=some (dictOf es n)):InstAt h a (instObj C d) C (some (dictOf es n)):=⟨h1,rfl,rfl,h2⟩
theorem op_attr {a:V} {n:Nat} {v:Value} {QV:Value→Shared→Prop} {ex:Bool} (hf:fieldOk n=true) (h:attrV a n σ Q) (R:Rel Γ ρ σ s.heap) (ra:Rd s.heap ρ v a) (hq:∀ r x tk,Q r σ→Rd s.heap ρ x r→QV x { s with toks:=tk }) :
  wpAny (model Γ.prog Γ.w) A (getAttr v (sy n) ex) QV E s:=by
 cases a with
 | loc l=>
  refine gabs fun gG gK=>?_
  obtain ⟨c,as,r,e1,e2,q⟩:=h
  obtain ⟨x,d,es,nn,rfl,hs,hc,g1,g2,en⟩:=ra.inst R e1
  refine gK ?_
  have:=ents_get (fieldOk_lt hf) en
  rw [e2] at this
  refine gabs fun gG gK=>?_
  obtain ⟨u,e3,r2⟩:=this
  have O:=Γ.clsOk c hc
  obtain ⟨cd,hcd,hd⟩:=O.cd
  refine gK ?_
  have X:Γ.K.In s.heap:=Γ.X.keeps R.base
  refine get_value X (instAt g1 g2) O.ga ?_ (rd_handed r2) (hq r u _ q r2)
  show ((clsIn _ _).bind fun cd=>(findIn _ _ _).bind fun attr=>_)=_
  rw [hcd]
  show ((findIn _ _ _).bind fun attr=>_)=_
  rw [O.field n hf]
  show (PySem.W.ownOf cd _ _).bind _=_
  unfold PySem.W.ownOf
  rw [hd,if_pos rfl]
  show ((getL (sy n) es).bind _)=_
  rw [e3]
  rfl
 | _=>exact h.elim
end
end
section
section
variable {Γ:Gl} {env:Env} {own:List Addr} {fr:List (Nat×Nat)} {m:List (Nat×V)} {ρ:List Slot} {σ:St} {s:Shared} {A:Around} {E:Value→Shared→Prop} {Q:V→St→Prop} {k:Nat}
inductive PostU (Γ:Gl) (env:Env) (own:List Addr) (fr:List (Nat×Nat)) (m:List (Nat×V)) (ρ:List Slot) (s:Shared) (Q:St→Prop) (s':Shared):Prop
 | intro (σ':St) (ρ':List Slot) (st:Step [env.locals] ρ ρ' s s') (R:Rel Γ ρ' σ' s'.heap) (F:FrR Γ env own fr ρ' m s'.heap) (q:Q σ'):PostU Γ env own fr m ρ s Q s'
theorem PostU.changeB {s':Shared} {l:Nat} {sl:Slot} {a:Addr} {c:Cell} {o':Obj} {mm:Str→Option Value} {Q:St→Prop} (R:Rel Γ ρ σ s.heap) (F:FrR Γ env own fr ρ m s.heap)
  (hm:∀ x pv,look m x=some pv→env.kindOf (sy x)=some .local→∃ v,mm (sy x)=some v∧Rd s.heap ρ v pv)
  (hl:ρ[l]?=some sl) (ha:a∈sl.addrs) (kk:∀ b o,b≠env.locals→b≠a→s.heap.get? b=some o→s'.heap.get? b=some o) (hn:s'.heap.Ns env.locals mm)
  (ho:s'.heap.get? a=some o') (ht:NT o') (hc:Grow s.heap ρ s'.heap ρ→CellAt Γ s'.heap ρ sl c) (q:Q (upd σ l c)) (hg:s'.gens=s.gens:=by rfl) (hos:s'.os=s.os:=by rfl):PostU Γ env own fr m ρ s Q s':=by
 have hf:a∈foot ρ:=mem_foot (Ja9 hl) ha
 have nL:env.locals∉foot ρ:=(F.own _ F.me).1
 have naL:a≠env.locals:=fun q=>nL (q▸hf)
 refine gabs fun gG gK=>?_
 obtain ⟨oL,hL,cL⟩:=(F.own _ F.me).2.2
 obtain ⟨oL',hL',cL'⟩:=ns_nt hn
 obtain ⟨o0,e0,c0⟩:=R.live a hf
 refine gK ?_
 have g:Grow s.heap ρ s'.heap ρ:=⟨Jf7,fun b its n e nf=>⟨kk _ _ (fun q=>by subst q;rw [hL] at e;cases e;exact cL _ _ rfl) (fun q=>nf (q▸hf)) e,nf⟩⟩
 have bL:∀ b o,Γ.h₀.get? b=some o→b≠env.locals:=fun b o e q=>by
  have:=(F.own _ F.me).2.1;rw [← q] at this;exact absurd (Heap.lt_size e) (Nat.not_lt.mpr this)
 refine ⟨_,ρ,⟨Jf7,fun _ h=>.inl h,fun b o h1 h2 e=>kk b o (fun q=>h2 (q▸.head _)) (fun q=>h1 (q▸hf)) e,fun b o e=>?_,hg,hos⟩,⟨fun b o e=>kk b o (bL b o e) (fun q=>?_) (R.base b o e),R.nd,R.old,fun b hb=>?_,fun i c' hi=>?_,fun i c' sl' hi hsl=>?_⟩,?_,q⟩
 ·by_cases q1:b=env.locals
  ·subst q1;exact ⟨oL',hL'⟩
  ·by_cases q2:b=a
   ·subst q2;exact ⟨o',ho⟩
   ·exact ⟨o,kk b o q1 q2 e⟩
 ·subst q;have:=R.old b hf;rw [e] at this;cases this
 ·by_cases q2:b=a
  ·subst q2;exact ⟨o',ho,ht⟩
  ·obtain ⟨o,e,c⟩:=R.live b hb;exact ⟨o,kk b o (fun q=>nL (q▸hb)) q2 e,c⟩
 ·by_cases q:i=l
  ·subst q;exact (Ja3.mp hl).1
  ·rw [upd_ne _ _ q] at hi;exact R.dom i c' hi
 ·by_cases q:i=l
  ·subst q
   rw [upd_self] at hi;cases hi
   rw [hl] at hsl;cases hsl
   exact hc g
  ·rw [upd_ne _ _ q] at hi
   refine (R.cells i c' sl' hi hsl).mono g fun b hb o e=>kk b o (fun qq=>nL (qq▸mem_foot (Ja9 hsl) hb)) (fun qq=>q ?_) e
   subst qq
   exact get_of_nodup R.nd hsl hl hb ha
 ·refine ⟨F.kind,F.globs,F.bui,⟨mm,hn,fun x pv a b=>let ⟨v,e1,e2⟩:=hm x pv a b;⟨v,e1,e2.mono g⟩⟩,F.ccell,F.floc,fun x hx hnf=>?_,F.cinj,F.me,fun b hb=>?_,F.free,F.fcell,F.names⟩
  ·refine gabs fun gG gK=>?_
   obtain ⟨c,v,e1,⟨o,ho,hd⟩,e3,e4,e5⟩:=F.cell x hx hnf
   refine gK ?_
   exact ⟨c,v,e1,⟨o,kk _ _ e4 (fun q=>(F.own c e3).1 (q▸hf)) ho,hd⟩,e3,e4,fun pv hp=>let ⟨u,a,b⟩:=e5 pv hp;⟨u,a,b.mono g⟩⟩
  ·refine gabs fun gG gK=>?_
   obtain ⟨e1,e2,o,e3,e4⟩:=F.own b hb
   refine gK ?_
   refine ⟨e1,e2,?_⟩
   by_cases q:b=env.locals
   ·subst q;exact ⟨oL',hL',cL'⟩
   ·exact ⟨o,kk _ _ q (fun qq=>e1 (qq▸hf)) e3,e4⟩
theorem PostU.change {s':Shared} {l:Nat} {sl:Slot} {a:Addr} {c:Cell} {o':Obj} {Q:St→Prop} (R:Rel Γ ρ σ s.heap) (F:FrR Γ env own fr ρ m s.heap) (hl:ρ[l]?=some sl) (ha:a∈sl.addrs) (hs:Heap.SameBut a s.heap s'.heap)
  (ho:s'.heap.get? a=some o') (ht:NT o') (hc:Grow s.heap ρ s'.heap ρ→CellAt Γ s'.heap ρ sl c) (q:Q (upd σ l c)) (hg:s'.gens=s.gens:=by rfl) (hos:s'.os=s.os:=by rfl):PostU Γ env own fr m ρ s Q s':=by
 refine gabs fun gG gK=>?_
 obtain ⟨mm,hn,hm⟩:=F.ns
 refine gK ?_
 have hf:a∈foot ρ:=mem_foot (Ja9 hl) ha
 exact PostU.changeB R F hm hl ha (fun b o _ n e=>(hs.2 b n).trans e) (hn.sameBut hs fun q=>(F.own _ F.me).1 (q▸hf)) ho ht hc q hg hos
theorem PostU.post {Q:V→St→Prop} {v:Value} {r:V} {s':Shared} (x:PostU Γ env own fr m ρ s (fun σ'=>Q r σ') s') (hr:∀ ρ',Grow s.heap ρ s'.heap ρ'→Rd s'.heap ρ' v r) (F:FrR Γ env own fr ρ m s.heap):Post Γ env own fr m ρ s Q v s':=
 let ⟨σ',ρ',a,b,c,d⟩:=x
 ⟨r,σ',ρ',a,b,c,hr _ (a.grow F.ownLive),d⟩
theorem PostU.trans {Q:St→Prop} {ρ':List Slot} {s' s'':Shared} (x:Step [env.locals] ρ ρ' s s') (p:PostU Γ env own fr m ρ' s' Q s''):PostU Γ env own fr m ρ s Q s'':=
 let ⟨σ',ρ'',a,b,c,d⟩:=p;⟨σ',ρ'',x.trans a,b,c,d⟩
theorem putL_len (name:Str) (hsh:Int) (key v:Value):∀ es:List DictEntry,(putL name hsh key v es).length≤es.length+1
 | []=>by simp [putL]
 | e::r=>by
  unfold putL
  split
  ·simp
  ·have:=putL_len name hsh key v r;simp;lia
theorem ents_put {P:Params} {h:Heap} {es:List DictEntry} {as:List (Nat×V)} {n:Nat} {v:Value} {r:V} {t:Tok} (hn:n<nsym) (x:Ents P h ρ es as) (hv:Rd h ρ v r):Ents P h ρ (putL (sy n) (PyData.keyHash P (sy n)) (.str (sy n) t) v es) (put as n r):=by
 induction x with
 | nil=>exact .cons rfl hn rfl hv .nil
 | @cons e es k r' as t' a b c d y ih=>
  have hb:e.key.isStr (sy n)=Jc5 k n:=by rw [a];exact isStr_sy b hn
  unfold putL put
  rw [hb]
  cases q:Jc5 k n with
  | true=>
   have:=Jb9 q;subst this
   exact .cons a b c hv y
  | false=>exact .cons a b c d ih
theorem ents_len {P:Params} {h:Heap} {es:List DictEntry} {as:List (Nat×V)} (x:Ents P h ρ es as):es.length=as.length:=by
 induction x with
 | nil=>rfl
 | cons _ _ _ _ _ ih=>simp [ih]
theorem ledg_head {L d:Addr} {h:Heap} {od:Obj} (e:h.get? d=some od) (n:d≠L) (z:Γ.h₀.get? d=none):News Γ.h₀ L h ((d,od)::(allNews Γ.h₀ h L).filter fun p=>decide (p.1≠d))∧∀ p∈(allNews Γ.h₀ h L).filter (fun p=>decide (p.1≠d)),p.1≠d:=by
 refine ⟨fun p hp=>?_,fun p hp=>by simpa using (List.mem_filter.mp hp).2⟩
 rcases Jc0.mp hp with rfl | hp
 ·exact ⟨e,n,z⟩
 ·exact allNews_ok _ _ _ p (List.mem_filter.mp hp).1
theorem ledg_stays {L d:Addr} {h h':Heap} {mm:Str→Option Value} {od':Obj} (B:∀ b o,Γ.h₀.get? b=some o→h.get? b=some o) (F':Fr Γ.h₀ L h' mm) (N':News Γ.h₀ L h' ((d,od')::(allNews Γ.h₀ h L).filter fun p=>decide (p.1≠d))) :
  (∀ b o,b≠L→b≠d→h.get? b=some o→h'.get? b=some o)∧h'.get? d=some od':=by
 refine ⟨fun b o n1 n2 e=>?_,(N' _ (.head _)).1⟩
 cases q:Γ.h₀.get? b with
 | none=>exact (N' (b,o) (List.mem_cons_of_mem _ (List.mem_filter.mpr ⟨allNews_mem e n1 q,by simpa using n2⟩))).1
 | some o'=>have:=B b o' q;rw [e] at this;cases this;exact F'.keep b o q
theorem op_setA {a r:V} {n:Nat} {v w:Value} {Q:St→Prop} (hf:fieldOk n=true) (h:setAV a n r σ Q) (R:Rel Γ ρ σ s.heap) (F:FrR Γ env own fr ρ m s.heap) (ra:Rd s.heap ρ v a) (rw':Rd s.heap ρ w r) :
  wpAny (model Γ.prog Γ.w) A (setAttr v (sy n) w) (fun _ s'=>PostU Γ env own fr m ρ s Q s') E s:=by
 cases a with
 | loc l=>
  refine gabs fun gG gK=>?_
  obtain ⟨c,as,e1,hz,q⟩:=h
  obtain ⟨x,d,es,nn,rfl,hs,hc,g1,g2,en⟩:=ra.inst R e1
  have hn:=fieldOk_lt hf
  have O:=Γ.clsOk c hc
  obtain ⟨cd,hcd,hd⟩:=O.cd
  have X:Γ.K.In s.heap:=Γ.X.keeps R.base
  obtain ⟨mm,D,hm⟩:=F.ledg R
  have hdf:d∈foot ρ:=mem_foot (Ja9 hs) (by simp [Slot.addrs])
  have hxf:x∈foot ρ:=mem_foot (Ja9 hs) (by simp [Slot.addrs])
  have ndL:d≠env.locals:=fun q=>(F.own _ F.me).1 (q▸hdf)
  have nxd:x≠d:=fun q=>by subst q;rw [g1] at g2;cases g2
  obtain ⟨N1,N2⟩:=ledg_head (Γ:=Γ) g2 ndL (R.old d hdf)
  refine gK ?_
  refine set_plain X (instAt g1 g2) O.sa ?_
  have gl:=ents_get hn en
  refine osa_dict (s:={ s with toks:=s.toks+1 }) (pre:=[]) D.F N1 X (instAt g1 g2) rfl O.over (by unfold takerIn;rw [O.field n hf];rfl) (by rw [hcd];exact hd) (by show (getL (sy n) es).isSome=true;cases q:look as n with
   | none=>rw [q] at gl;rw [gl];rfl
   | some r=>rw [q] at gl;obtain ⟨v,e,_⟩:=gl;rw [e];rfl) (fun p hp=>(by cases hp)) N2 (putName_dict ..) rfl (Ja1 (putL_len ..) (by rw [ents_len en];lia)) fun h' F' N'=>?_
  obtain ⟨kk,hd'⟩:=ledg_stays R.base F' N'
  refine PostU.changeB (s':={ s with heap:=h',toks:=_ }) R F hm hs (a:=d) (by simp [Slot.addrs]) kk F'.ns hd' (fun _ _ e=>by simp at e) (fun g=>?_) q
  exact ⟨hc,kk _ _ (fun q=>(F.own _ F.me).1 (q▸hxf)) nxd g1,_,_,hd',ents_put hn (en.mono g) (rw'.mono g)⟩
 | _=>exact h.elim
theorem listAt {h:Heap} {a:Addr} {its:Array Value} {n:Nat} (e:h.get? a=some (listOf its n)) (f:Array Value→Array Value):∃ n',(h.update a (Obj.mapSeq f)).get? a=some (listOf (f its) n'):=by
 have:=Heap.get?_update_self (Obj.mapSeq f) e (o:=listOf its n) rfl
 exact ⟨_,this⟩
theorem PostU.list {l:Nat} {a:Addr} {its:Array Value} {n:Nat} {xs:List V} {Q:St→Prop} {f:Array Value→Array Value} (R:Rel Γ ρ σ s.heap) (F:FrR Γ env own fr ρ m s.heap) (hl:ρ[l]?=some (.one a)) (e:s.heap.get? a=some (listOf its n))
  (hr:∀ h',Grow s.heap ρ h' ρ→RdL h' ρ (f its).toList xs) (q:Q (upd σ l (.list xs))):PostU Γ env own fr m ρ s Q { s with heap:=s.heap.update a (Obj.mapSeq f) }:=by
 obtain ⟨n',e'⟩:=listAt e f
 exact PostU.change (s':={ s with heap:=s.heap.update a (Obj.mapSeq f) }) (c:=.list xs) R F hl (by simp [Slot.addrs]) (Heap.SameBut.update ..) e' (nt_list _ _) (fun g=>⟨_,n',e',hr _ g⟩) q
theorem op_setI {a i r:V} {v j w:Value} {Q:St→Prop} (h:setIV a i r σ Q) (R:Rel Γ ρ σ s.heap) (F:FrR Γ env own fr ρ m s.heap) (ra:Rd s.heap ρ v a) (ri:Rd s.heap ρ j i) (rw':Rd s.heap ρ w r) :
  wpAny (model Γ.prog Γ.w) A (setItem v j w) (fun _ s'=>PostU Γ env own fr m ρ s Q s') E s:=by
 cases a with
 | loc l=>
  cases i with
  | int kk=>
   refine gabs fun gG gK=>?_
   obtain ⟨t,rfl⟩:=ri.intOf
   obtain ⟨c,e,h⟩:=h
   refine gK ?_
   cases c with
   | list xs=>
    refine gabs fun gG gK=>?_
    obtain ⟨h1,h2,h3,q⟩:=h
    obtain ⟨c,its,n,rfl,hs,g,r1⟩:=ra.list R e
    refine gK ?_
    have hl:=r1.length
    rw [Jf0] at hl
    refine ki_setAt g h2 (by lia) (by rw [hl];exact h3) ?_
    exact PostU.list (f:=fun x=>x.setIfInBounds kk.toNat w) R F hs g (fun h' g'=>by simpa using (r1.mono g').set kk.toNat (rw'.mono g')) q
   | dict es=>
    refine gabs fun gG gK=>?_
    obtain ⟨h1,h2,q⟩:=h
    obtain ⟨d,kvs,rfl,hs,hdo,hk,lo⟩:=ra.dict R e
    refine gK ?_
    refine wpAny_setItem_pairs (intKind_is _ _ kk t) hdo (fun h' hd' hs'=>?_) (by rw [hk.length,sizeLine_eq];lia)
    have e0:stored kvs kk w=kvs++[(kk,w)]:=by unfold stored;rw [((hk.look kk).2 h2).2];rfl
    rw [e0] at hd'
    have hd2:=hd'
    refine gabs fun gG gK=>?_
    obtain ⟨o,es',ep,ho,⟨hc,_⟩,hr⟩:=hd2
    refine gK ?_
    exact PostU.change (s':={ s with heap:=h',toks:=_ }) (c:=.dict (es++[(kk,r)])) R F hs (by simp [Slot.addrs]) hs' ho (fun _ _ q=>by subst q;simp at hc) (fun g=>⟨lo,_,hd',(hk.mono g).snoc (rw'.mono g)⟩) q
   | _=>exact h.elim
  | _=>exact h.elim
 | _=>exact h.elim
end
end
section
noncomputable def evm (Γ:Gl) (mode:Bool) (e:PySem.Expr) (env:Env) (A:Around) (P:Value→Shared→Prop) (E:Value→Shared→Prop) (s:Shared):Prop:=match mode with
 | false=>wpAny (model Γ.prog Γ.w) A (eval e env) P E s
 | true=>wpAny (model Γ.prog Γ.w) A (isTrue e env (eval e env)) (fun b s'=>P (.bool b) s') E s
noncomputable def Snd (Γ:Gl) (k:Nat) (fr:Frees) (kd:Kd) (e:PySem.Expr) (c:Ex):Prop:=
 ∀ (env:Env) (own:List Addr) (m:List (Nat×V)) (n:Nat) (mode:Bool) (σ:St) (Q:V→St→Prop) (A:Around) (E:Value→Shared→Prop) (s:Shared) (ρ:List Slot),
  (∀ x,env.kindOf x=kd x)→wpE Γ k fr n mode c m σ Q→RoomB k A→Rel Γ ρ σ s.heap→FrR Γ env own fr ρ m s.heap→evm Γ mode e env A (Post Γ env own fr m ρ s Q) E s
theorem Snd.run {Γ:Gl} {k:Nat} {fr:Frees} {kd:Kd} {e:PySem.Expr} {c:Ex} (H:Snd Γ k fr kd e c) {env:Env} {own:List Addr} {m:List (Nat×V)} {n:Nat} {σ:St} {Q:V→St→Prop} {A:Around} {E:Value→Shared→Prop} {s:Shared} {ρ:List Slot} {P:Value→Shared→Prop}
  (hk:∀ x,env.kindOf x=kd x) (h:wpE Γ k fr n false c m σ Q) (hR:RoomB k A) (R:Rel Γ ρ σ s.heap) (F:FrR Γ env own fr ρ m s.heap)
  (q:∀ v s1 r σ1 ρ1,Step [env.locals] ρ ρ1 s s1→Rel Γ ρ1 σ1 s1.heap→FrR Γ env own fr ρ1 m s1.heap→Rd s1.heap ρ1 v r→Q r σ1→P v s1):wpAny (model Γ.prog Γ.w) A (eval e env) P E s:=
 wpAny_mono (H env own m n false σ Q A E s ρ hk h hR R F) (fun v s1 x=>match x with | ⟨r,σ',ρ',st,R,F,rd,q'⟩=>q v s1 r σ' ρ' st R F rd q') fun _ _ x=>x
theorem Snd.runT {Γ:Gl} {k:Nat} {fr:Frees} {kd:Kd} {e:PySem.Expr} {c:Ex} (H:Snd Γ k fr kd e c) {env:Env} {own:List Addr} {m:List (Nat×V)} {n:Nat} {σ:St} {Q:V→St→Prop} {A:Around} {E:Value→Shared→Prop} {s:Shared} {ρ:List Slot} {P:Bool→Shared→Prop}
  (hk:∀ x,env.kindOf x=kd x) (h:wpE Γ k fr n true c m σ Q) (hR:RoomB k A) (R:Rel Γ ρ σ s.heap) (F:FrR Γ env own fr ρ m s.heap)
  (q:∀ b s1 r σ1 ρ1,Step [env.locals] ρ ρ1 s s1→Rel Γ ρ1 σ1 s1.heap→FrR Γ env own fr ρ1 m s1.heap→Rd s1.heap ρ1 (.bool b) r→Q r σ1→P b s1):wpAny (model Γ.prog Γ.w) A (isTrue e env (eval e env)) P E s:=
 wpAny_mono (H env own m n true σ Q A E s ρ hk h hR R F) (fun b s1 x=>match x with | ⟨r,σ',ρ',st,R,F,rd,q'⟩=>q b s1 r σ' ρ' st R F rd q') fun _ _ x=>x
theorem Post.sh {Γ:Gl} {env:Env} {own:List Addr} {fr:Frees} {m:List (Nat×V)} {ρ ρ1:List Slot} {s s1 s2:Shared} {A:Around} {E:Value→Shared→Prop} {Q:V→St→Prop} {t:Sem Value} (st:Step [env.locals] ρ ρ1 s s1) (h:wpAny (model Γ.prog Γ.w) A t (Post Γ env own fr m ρ1 s1 Q) E s2):wpAny (model Γ.prog Γ.w) A t (Post Γ env own fr m ρ s Q) E s2:=
 wpAny_mono h (fun _ _ p=>Post.trans st p) fun _ _ x=>x
theorem sy_not_debug {n:Nat} (h:n<nsym):(sy n == ("__debug__" : Str))=false∧(sy n == ("__classdict__" : Str))=false:=by
 have:syms.all (fun x=>x != ("__debug__" : Str) && x != ("__classdict__" : Str))=true:=by decide +kernel
 have h2:=Jb3.mp this (sy n) (by unfold sy;rw [Ja6,Ja5 h];exact Jc7 h)
 simpa [bne] using h2
section
variable {Γ:Gl} {env:Env} {own:List Addr} {fr:Frees} {m:List (Nat×V)} {ρ:List Slot} {σ:St} {s:Shared} {A:Around} {E:Value→Shared→Prop} {Q:V→St→Prop} {k:Nat} {kd:Kd} {mode:Bool}
theorem truthy_fin {v:Value} {s':Shared} (h:Post Γ env own fr m ρ s (fin true Q) v s'):wpAny (model Γ.prog Γ.w) A (truthy v) (fun b s''=>Post Γ env own fr m ρ s Q (.bool b) s'') E s':=by
 refine gabs fun gG gK=>?_
 obtain ⟨r,σ',ρ',a,b,c,d,q⟩:=h
 refine gK ?_
 cases d with
 | none=>exact PyProof.Rows.truthy_none ⟨_,σ',ρ',a,b,c,.bool false,q⟩
 | bool t=>exact wpAny_truthy_bool ⟨_,σ',ρ',a,b,c,.bool t,q⟩
 | int i t=>exact PySem.P.truthy_int ⟨_,σ',ρ',a,b,c,.bool _,by rw [show (i != 0)=!decide (i=0) from by rw [bne,beq_dec]];exact q⟩
 | _=>exact q.elim
theorem fin_plain {e:PySem.Expr} (he:isTrue e env (eval e env)=(do let v ← eval e env;standAt e.pos;holding [v] (truthy v))) (h:wpAny (model Γ.prog Γ.w) A (eval e env) (Post Γ env own fr m ρ s (fin mode Q)) E s):evm Γ mode e env A (Post Γ env own fr m ρ s Q) E s:=by
 cases mode with
 | false=>exact h
 | true=>exact isTrue_plain (wpAny_mono h (fun v s' hv=>truthy_fin hv) fun _ _ x=>x) he
theorem Snd.bad {e:PySem.Expr}:Snd Γ k fr kd e .bad:=fun env own m n mode σ Q A E s ρ _ h=>by cases n <;> exact h.elim
theorem Snd_oB {α:Type} {o:Option α} {f:α→Ex} {e:PySem.Expr} (h:∀ a,o=some a→Snd Γ k fr kd e (f a)):Snd Γ k fr kd e (oB o f):=by
 cases o with
 | none=>exact Snd.bad
 | some a=>exact h a rfl
theorem Snd_iB {b:Bool} {c:Ex} {e:PySem.Expr} (h:b=true→Snd Γ k fr kd e c):Snd Γ k fr kd e (iB b c):=by
 cases b with
 | false=>exact Snd.bad
 | true=>exact h rfl
/-- from the conditions at one more -/
theorem Snd.mk {e:PySem.Expr} {c:Ex} (h0:∀ mode m σ Q,wpE Γ k fr 0 mode c m σ Q→False) (h:∀ (env:Env) (own:List Addr) (m:List (Nat×V)) (n:Nat) (mode:Bool) (σ:St) (Q:V→St→Prop) (A:Around) (E:Value→Shared→Prop) (s:Shared) (ρ:List Slot),
  (∀ x,env.kindOf x=kd x)→wpE Γ k fr (n+1) mode c m σ Q→RoomB k A→Rel Γ ρ σ s.heap→FrR Γ env own fr ρ m s.heap→evm Γ mode e env A (Post Γ env own fr m ρ s Q) E s):Snd Γ k fr kd e c:=fun env own m n mode σ Q A E s ρ hk x hR R F=>by
 cases n with
 | zero=>exact (h0 _ _ _ _ x).elim
 | succ n=>exact h env own m n mode σ Q A E s ρ hk x hR R F
theorem S_const {c:Const} {kk:Nat} {pos:Pos}:Snd Γ k fr kd (.Constant c kk pos) (trC c):=by
 cases c with
 | none=>exact .mk (fun _ _ _ _ x=>x) fun env own m n mode σ Q A E s ρ hk h hR R F=>fin_plain rfl (wpAny_Constant_none (Post.val0 R F .none h))
 | bool b=>exact .mk (fun _ _ _ _ x=>x) fun env own m n mode σ Q A E s ρ hk h hR R F=>fin_plain rfl (wpAny_Constant_bool (Post.val0 R F (.bool b) h))
 | int i=>exact .mk (fun _ _ _ _ x=>x) fun env own m n mode σ Q A E s ρ hk h hR R F=>fin_plain rfl (wpAny_Constant_int (Post.val R F (.int i _) h))
 | str x=>exact Snd_oB fun j q=>.mk (fun _ _ _ _ x=>x) fun env own m n mode σ Q A E s ρ hk h hR R F=>fin_plain rfl (wpAny_Constant_str (Post.val R F (.str j _ x (symId_sy q).1.symm (symId_sy q).2) h))
 | _=>exact Snd.bad
theorem FrR.get (F:FrR Γ env own fr ρ m s.heap) {x:Nat} {v:V} (hnf:∀ l,(x,l)∉fr) (h:look m x=some v) (hx:env.kindOf (sy x)=some .local∨env.kindOf (sy x)=some .cell) {P:Value→Shared→Prop} (q:∀ u,Rd s.heap ρ u v→P u s):wpAny (model Γ.prog Γ.w) A (loadName env (sy x)) P E s:=by
 rcases hx with hx | hx
 ·refine gabs fun gG gK=>?_
  obtain ⟨mm,hn,r⟩:=F.ns
  obtain ⟨u,e1,e2⟩:=r x v h hx
  refine gK ?_
  exact wpAny_loadName_local F.kind hx hn e1 (q u e2)
 ·refine gabs fun gG gK=>?_
  obtain ⟨c,u,e1,e2,e3,e4,e5⟩:=F.cell x hx hnf
  obtain ⟨w,rfl,e6⟩:=e5 v h
  refine gK ?_
  exact wpAny_loadName_cell F.kind hx e1 e2 (q w e6)
theorem S_var {j:Nat} {pos:Pos} (hj:j<nsym) (hx:kd (sy j)=some .local∨kd (sy j)=some .cell):Snd Γ k fr kd (.Name (sy j) pos) (.var j):=.mk (fun _ _ _ _ x=>x) fun env own m n mode σ Q A E s ρ hk h hR R F=>by
 refine fin_plain rfl ?_
 rw [← hk] at hx
 have d1:=(sy_not_debug hj).1
 have h:match flook fr j with | some l=>∃ v,σ l=some (.cell v)∧fin mode Q v σ | none=>match look m j with | some v=>fin mode Q v σ | none=>False:=h
 cases q3:flook fr j with
 | some l=>
  rw [q3] at h
  obtain ⟨v,e3,hv⟩:=h
  have hm:=flook_mem q3
  rcases hx with hx | hx
  ·exact absurd hx (F.floc j l hm)
  ·obtain ⟨c,f2,f3⟩:=F.free j l hm (.inr hx)
   obtain ⟨u,hu,hr⟩:=R.cells l _ _ e3 f3
   exact wpAny_Name (wpAny_loadName_cell F.kind hx f2 hu (Post.val0 R F hr hv)) d1
 | none=>
  rw [q3] at h
  cases q2:look m j with
  | none=>rw [q2] at h;exact h.elim
  | some v=>
   rw [q2] at h
   exact wpAny_Name (F.get (flook_none q3) q2 hx fun u hu=>Post.val0 R F hu h) d1
theorem S_free {j:Nat} {pos:Pos} (hj:j<nsym) (hx:kd (sy j)=some .free):Snd Γ k fr kd (.Name (sy j) pos) (.free j):=.mk (fun _ _ _ _ x=>x) fun env own m n mode σ Q A E s ρ hk h hR R F=>by
 refine fin_plain rfl ?_
 rw [← hk] at hx
 obtain ⟨d1,d2⟩:=sy_not_debug hj
 have h:match flook fr j with | some l=>∃ v,σ l=some (.cell v)∧fin mode Q v σ | none=>False:=h
 cases q2:flook fr j with
 | none=>rw [q2] at h;exact h.elim
 | some l=>
  rw [q2] at h
  obtain ⟨v,e3,hv⟩:=h
  obtain ⟨c,f2,f3⟩:=F.free j l (flook_mem q2) (.inl hx)
  obtain ⟨u,hu,hr⟩:=R.cells l _ _ e3 f3
  exact wpAny_Name (wpAny_loadName_free F.kind hx f2 hu (Post.val0 R F hr hv) d2) d1
theorem S_name {x:Str} {pos:Pos}:Snd Γ k fr kd (.Name x pos) (oB (symId x) (trN (kd x))):=Snd_oB fun j q=>by
 obtain ⟨e1,e2⟩:=symId_sy q
 subst e1
 cases q3:kd (sy j) with
 | none=>exact Snd.bad
 | some kn=>
  cases kn with
  | «local»=>exact S_var e2 (.inl q3)
  | cell=>exact S_var e2 (.inr q3)
  | free=>exact S_free e2 q3
  | _=>exact Snd.bad
theorem S_bin {l r:PySem.Expr} {op:Operator} {pos:Pos} {a b:Ex} (hl:Snd Γ k fr kd l a) (hr:Snd Γ k fr kd r b):Snd Γ k fr kd (.BinOp l op r pos) (.bin op a b):=.mk (fun _ _ _ _ x=>x) fun env own m n mode σ Q A E s ρ hk h hR R F=>
 fin_plain rfl (wpAny_BinOp (hl.run hk h hR R F fun v s1 r1 σ1 ρ1 st1 R1 F1 rd1 h1=>
  hr.run hk h1 hR R1 F1 fun w s2 r2 σ2 ρ2 st2 R2 F2 rd2 h2=>
   Post.sh (st1.trans st2) (op_bop h2 R2 F2 (rd1.mono (st2.grow F1.ownLive)) rd2)))
theorem S_neg {x:PySem.Expr} {op:UnaryOp} {pos:Pos} {a:Ex} (hx:Snd Γ k fr kd x a):Snd Γ k fr kd (.UnaryOp op x pos) (trU op a):=by
 cases op with
 | USub=>
  refine .mk (fun _ _ _ _ x=>x) fun env own m n mode σ Q A E s ρ hk h hR R F=>fin_plain rfl (wpAny_UnaryOp (hx.run hk h hR R F fun v s1 r1 σ1 ρ1 st1 R1 F1 rd1 h1=>?_))
  cases rd1 with
  | int i t=>exact PySem.P.neg_int (Post.trans st1 (Post.val R1 F1 (.int _ _) h1))
  | _=>exact h1.elim
 | Not=>
  refine .mk (fun _ _ _ _ x=>x) fun env own m n mode σ Q A E s ρ hk h hR R F=>?_
  cases mode with
  | false=>exact h.elim
  | true=>
   refine PyProof.Rows.isTrue_not (hx.runT hk h hR R F fun b s1 r1 σ1 ρ1 st1 R1 F1 rd1 h1=>?_)
   cases rd1
   exact ⟨_,σ1,ρ1,st1,R1,F1,.bool _,h1⟩
 | _=>exact Snd.bad
theorem evm_sh {mode:Bool} {e:PySem.Expr} {ρ1:List Slot} {s1 s2:Shared} (st:Step [env.locals] ρ ρ1 s s1) (h:evm Γ mode e env A (Post Γ env own fr m ρ1 s1 Q) E s2):evm Γ mode e env A (Post Γ env own fr m ρ s Q) E s2:=by
 cases mode <;> exact wpAny_mono h (fun _ _ p=>Post.trans st p) fun _ _ x=>x
theorem S_ite {t a b:PySem.Expr} {pos:Pos} {ct ca cb:Ex} (ht:Snd Γ k fr kd t ct) (ha:Snd Γ k fr kd a ca) (hb:Snd Γ k fr kd b cb):Snd Γ k fr kd (.IfExp t a b pos) (.ite ct ca cb):=.mk (fun _ _ _ _ x=>x) fun env own m n mode σ Q A E s ρ hk h hR R F=>by
 have key:∀ c s1 r1 σ1 ρ1,Step [env.locals] ρ ρ1 s s1→Rel Γ ρ1 σ1 s1.heap→FrR Γ env own fr ρ1 m s1.heap→Rd s1.heap ρ1 (.bool c) r1→kIte (wpE Γ k fr n) mode ca cb m Q r1 σ1→evm Γ mode (if c=true then a else b) env A (Post Γ env own fr m ρ s Q) E s1:=fun c s1 r1 σ1 ρ1 st1 R1 F1 rd1 h1=>by
  cases rd1
  cases c with
  | true=>exact evm_sh st1 (ha env own m n mode σ1 Q A E s1 ρ1 hk (ifB_true h1 rfl) hR R1 F1)
  | false=>exact evm_sh st1 (hb env own m n mode σ1 Q A E s1 ρ1 hk (ifB_false h1 rfl) hR R1 F1)
 have h:wpE Γ k fr n true ct m σ (kIte (wpE Γ k fr n) mode ca cb m Q):=h
 cases mode with
 | false=>exact wpAny_IfExp (ht.runT hk h hR R F fun c s1 r1 σ1 ρ1 st1 R1 F1 rd1 h1=>by
   have:=key c s1 r1 σ1 ρ1 st1 R1 F1 rd1 h1
   cases c <;> exact this)
 | true=>exact isTrue_IfExp (ht.runT hk h hR R F fun c s1 r1 σ1 ρ1 st1 R1 F1 rd1 h1=>by
   have:=key c s1 r1 σ1 ρ1 st1 R1 F1 rd1 h1
   cases c <;> exact this)
end
end
section
section
variable {Γ:Gl} {env:Env} {own:List Addr} {fr:Frees} {m:List (Nat×V)} {ρ:List Slot} {σ:St} {s:Shared} {A:Around} {E:Value→Shared→Prop} {Q:V→St→Prop} {k:Nat} {kd:Kd} {mode:Bool}
theorem cmpV_bool {c:Cm} {a b:V} (h:cmpV c a b σ Q):cmpV c a b σ fun r σ'=>(∃ t,r=.bool t)∧Q r σ':=by
 have eo:∀ {c:Cm} {b:Bool} {P:Bool→Prop},eqOf c b P→eqOf c b fun r=>(∃ t,V.bool r=.bool t)∧P r:=fun {c b P} h=>by
  cases c <;> first | exact ⟨⟨_,rfl⟩,h⟩ | exact h.elim
 cases a with
 | int i=>cases b <;> first | exact ⟨⟨_,rfl⟩,h⟩ | exact h.elim
 | str i=>cases b <;> first | exact eo (P:=fun r=>Q (.bool r) σ) h | exact h.elim
 | loc i=>cases b <;> first | (obtain ⟨xs,ys,h1,h2,h3,h4,h5⟩:=h;exact ⟨xs,ys,h1,h2,h3,h4,eo (P:=fun r=>Q (.bool r) σ) h5⟩) | exact h.elim
 | tup i=>cases b <;> first | (obtain ⟨h3,h4,h5⟩:=h;exact ⟨h3,h4,eo (P:=fun r=>Q (.bool r) σ) h5⟩) | exact h.elim
 | _=>exact h.elim
theorem cmp_ev {l r:PySem.Expr} {op:CmpOp} {pos:Pos} (hm:behindInMarks op r=false)
  (h:wpAny (model Γ.prog Γ.w) A (eval l env) (fun v s1=>wpAny (model Γ.prog Γ.w) A (eval r env) (fun w s2=>wpAny (model Γ.prog Γ.w) A (compareOp op v w) (Post Γ env own fr m ρ s fun r σ'=>(∃ t,r=.bool t)∧Q r σ') E s2) E s1) E s) :
  evm Γ mode (.Compare l [op] [r] pos) env A (Post Γ env own fr m ρ s Q) E s:=by
 cases mode with
 | false=>exact wpAny_Compare1 (wpAny_mono h (fun v s1 h1=>wpAny_mono h1 (fun w s2 h2=>wpAny_mono h2 (fun u s3 p=>match p with | ⟨r,σ',ρ',a,b,c,d,q⟩=>⟨r,σ',ρ',a,b,c,d,q.2⟩) fun _ _ x=>x) fun _ _ x=>x) fun _ _ x=>x) hm
 | true=>
  refine wpAny_isTrue_Compare1 (wpAny_mono h (fun v s1 h1=>wpAny_mono h1 (fun w s2 h2=>wpAny_mono h2 (fun u s3 p=>?_) fun _ _ x=>x) fun _ _ x=>x) fun _ _ x=>x) hm
  cases p with
  | intro r σ' ρ' a b c d q=>
   obtain ⟨⟨t,rfl⟩,q⟩:=q
   cases d
   exact wpAny_truthy_bool ⟨_,σ',ρ',a,b,c,.bool t,q⟩
theorem inMarks_of {op:CmpOp} (h:op≠.In∧op≠.NotIn) (r:PySem.Expr):behindInMarks op r=false:=by
 cases r with
 | Set elts kk p=>
  have e:(op == .In || op == .NotIn)=false:=by cases op <;> first | rfl | exact absurd rfl h.1 | exact absurd rfl h.2
  show (kk == 0 && (op == .In || op == .NotIn) && _)=false
  rw [e,Bool.and_false,Bool.false_and]
 | _=>rfl
theorem inMarks_set {op:CmpOp} {r:PySem.Expr} (h:isSetE r=false):behindInMarks op r=false:=by
 cases r <;> first | rfl | cases h
theorem S_cmp {l r:PySem.Expr} {op:CmpOp} {c:Cm} {pos:Pos} {a b:Ex} (hc:trCm op=some c) (hl:Snd Γ k fr kd l a) (hr:Snd Γ k fr kd r b):Snd Γ k fr kd (.Compare l [op] [r] pos) (.cmp c a b):=.mk (fun _ _ _ _ x=>x) fun env own m n mode σ Q A E s ρ hk h hR R F=>
 cmp_ev (inMarks_of ⟨fun e=>(by subst e;cases hc),fun e=>(by subst e;cases hc)⟩ r) (hl.run hk h hR R F fun v s1 r1 σ1 ρ1 st1 R1 F1 rd1 h1=>hr.run hk h1 hR R1 F1 fun w s2 r2 σ2 ρ2 st2 R2 F2 rd2 h2=>
  Post.sh (st1.trans st2) (op_cmp hc hR (cmpV_bool h2) R2 F2 (rd1.mono (st2.grow F1.ownLive)) rd2))
theorem S_inn {l r:PySem.Expr} {pos:Pos} {a b:Ex} (hs:isSetE r=false) (hl:Snd Γ k fr kd l a) (hr:Snd Γ k fr kd r b):Snd Γ k fr kd (.Compare l [.In] [r] pos) (.inn a b):=.mk (fun _ _ _ _ x=>x) fun env own m n mode σ Q A E s ρ hk h hR R F=>
 cmp_ev (inMarks_set hs) (hl.run hk h hR R F fun v s1 r1 σ1 ρ1 st1 R1 F1 rd1 h1=>hr.run hk h1 hR R1 F1 fun w s2 r2 σ2 ρ2 st2 R2 F2 rd2 h2=>
  op_in false hR h2 R2 (rd1.mono (st2.grow F1.ownLive)) rd2 fun t tk q=>Post.trans (st1.trans st2) (Post.val R2 F2 (.bool _) ⟨⟨_,rfl⟩,q⟩))
theorem S_nin {l r:PySem.Expr} {pos:Pos} {a b:Ex} (hs:isSetE r=false) (hl:Snd Γ k fr kd l a) (hr:Snd Γ k fr kd r b):Snd Γ k fr kd (.Compare l [.NotIn] [r] pos) (.notIn a b):=.mk (fun _ _ _ _ x=>x) fun env own m n mode σ Q A E s ρ hk h hR R F=>
 cmp_ev (inMarks_set hs) (hl.run hk h hR R F fun v s1 r1 σ1 ρ1 st1 R1 F1 rd1 h1=>hr.run hk h1 hR R1 F1 fun w s2 r2 σ2 ρ2 st2 R2 F2 rd2 h2=>
  op_in true hR h2 R2 (rd1.mono (st2.grow F1.ownLive)) rd2 fun t tk q=>Post.trans (st1.trans st2) (Post.val R2 F2 (.bool _) ⟨⟨_,rfl⟩,q⟩))
theorem isNone_eq {r:PySem.Expr} (h:isNone r=true):∃ kk p,r=.Constant .none kk p:=by
 cases r with
 | Constant c kk p=>cases c <;> first | exact ⟨_,_,rfl⟩ | exact ft h
 | _=>exact ft h
theorem S_is {l r:PySem.Expr} {pos:Pos} {a:Ex} (hn:isNone r=true) (hl:Snd Γ k fr kd l a):Snd Γ k fr kd (.Compare l [.Is] [r] pos) (.isN a):=.mk (fun _ _ _ _ x=>x) fun env own m n mode σ Q A E s ρ hk h hR R F=>by
 obtain ⟨kk,p,rfl⟩:=isNone_eq hn
 exact cmp_ev rfl (hl.run hk h hR R F fun v s1 r1 σ1 ρ1 st1 R1 F1 rd1 h1=>wpAny_Constant_none (PySem.is_none (Post.trans st1 (Post.val0 R1 F1 (.bool _) ⟨⟨_,rfl⟩,by rw [veq_rd_none rd1];exact h1⟩))))
theorem S_isn {l r:PySem.Expr} {pos:Pos} {a:Ex} (hn:isNone r=true) (hl:Snd Γ k fr kd l a):Snd Γ k fr kd (.Compare l [.IsNot] [r] pos) (.notN a):=.mk (fun _ _ _ _ x=>x) fun env own m n mode σ Q A E s ρ hk h hR R F=>by
 obtain ⟨kk,p,rfl⟩:=isNone_eq hn
 exact cmp_ev rfl (hl.run hk h hR R F fun v s1 r1 σ1 ρ1 st1 R1 F1 rd1 h1=>wpAny_Constant_none (isNot_none (Post.trans st1 (Post.val0 R1 F1 (.bool _) ⟨⟨_,rfl⟩,by rw [veq_rd_none rd1];exact h1⟩))))
theorem S_cmp1 {l r:PySem.Expr} {op:CmpOp} {pos:Pos} {a b:Ex} (hl:Snd Γ k fr kd l a) (hr:Snd Γ k fr kd r b):Snd Γ k fr kd (.Compare l [op] [r] pos) (trCmp op r a b):=by
 cases op with
 | Is=>exact Snd_iB fun q=>S_is q hl
 | IsNot=>exact Snd_iB fun q=>S_isn q hl
 | In=>exact Snd_iB fun q=>S_inn (by simpa using q) hl hr
 | NotIn=>exact Snd_iB fun q=>S_nin (by simpa using q) hl hr
 | _=>exact S_cmp rfl hl hr
theorem S_chain {l r q:PySem.Expr} {o p:CmpOp} {c d:Cm} {pos:Pos} {a b e:Ex} (q1:trCm o=some c) (q2:trCm p=some d) (hl:Snd Γ k fr kd l a) (hr:Snd Γ k fr kd r b) (hq:Snd Γ k fr kd q e):Snd Γ k fr kd (.Compare l [o,p] [r,q] pos) (.chain c d a b e):=.mk (fun _ _ _ _ x=>x) fun env own m n mode σ Q A E s ρ hk h hR R F=>by
 cases mode with
 | false=>exact h.elim
 | true=>
  have hlast:lastMarks [o,p] [r,q]=false:=inMarks_of ⟨fun e=>(by subst e;cases q2),fun e=>(by subst e;cases q2)⟩ q
  refine isTrue_chain (hl.run hk h hR R F fun v s1 r1 σ1 ρ1 st1 R1 F1 rd1 h1=>?_) hlast
  refine test_link (hr.run hk h1 hR R1 F1 fun w s2 r2 σ2 ρ2 st2 R2 F2 rd2 h2=>?_)
  have st:=st1.trans st2
  have g2:=st2.grow F1.ownLive
  clear h h1 st1 st2 R1 F1 R
  cases r1 with
  | int i=>
   cases r2 with
   | int j=>
    refine wpAny_mono (op_cmp (a:=.int i) (b:=.int j) (Q:=fun r σ'=>σ'=σ2∧r=.bool (cmpI c i j)) q1 hR ⟨rfl,rfl⟩ R2 F2 (rd1.mono g2) rd2) (fun u s3 hu=>?_) fun _ _ x=>x
    cases hu with
    | intro r3 σ3 ρ3 st3 R3 F3 rd3 q3=>
     obtain ⟨rfl,rfl⟩:=q3
     cases rd3
     refine wpAny_truthy_bool ?_
     have st:=st.trans st3
     cases hb:cmpI c i j with
     | false=>rw [if_neg (by decide)];exact ⟨_,_,ρ3,st,R3,F3,.bool false,ifB_false h2 hb⟩
     | true=>
      rw [if_pos rfl]
      refine test_last (hq.run hk (ifB_true h2 hb) hR R3 F3 fun u s4 r4 σ4 ρ4 st4 R4 F4 rd4 h4=>?_)
      cases r4 with
      | int hh=>
       refine wpAny_mono (op_cmp (a:=.int j) (b:=.int hh) (Q:=fun r σ'=>(∃ t,r=.bool t)∧Q r σ') q2 hR ⟨⟨_,rfl⟩,h4⟩ R4 F4 ((rd2.mono (st3.grow F2.ownLive)).mono (st4.grow F3.ownLive)) rd4) (fun u s5 hu=>?_) fun _ _ x=>x
       cases hu with
       | intro r5 σ5 ρ5 st5 R5 F5 rd5 q5=>
        obtain ⟨⟨t,rfl⟩,q5⟩:=q5
        cases rd5
        exact wpAny_truthy_bool ⟨_,σ5,ρ5,(st.trans st4).trans st5,R5,F5,.bool t,q5⟩
      | _=>exact h4.elim
   | _=>exact h2.elim
  | _=>exact h2.elim
theorem ifB_and {b:Bool} {P:Bool→Prop} (h:ifB b (P true) (P false)):P b:=by
 cases h with
 | t e a=>rw [e];exact a
 | f e a=>rw [e];exact a
theorem ifB_or {b:Bool} {P:Bool→Prop} (h:ifB b (P true) (P false)):P b:=ifB_and h
theorem S_ands {g:PySem.Expr→Ex} {pos:Pos} {vs:List PySem.Expr} (hv:∀ v∈vs,Snd Γ k fr kd v (g v)) {env:Env} {own:List Addr} {m:List (Nat×V)} {n:Nat} {mode:Bool} {Q:V→St→Prop} {A:Around} {E:Value→Shared→Prop} (hk:∀ x,env.kindOf x=kd x) (hR:RoomB k A):∀ {σ:St} {s:Shared} {ρ:List Slot},
  vs≠[]→wpAnds (evM (wpE Γ k fr n) mode m) (vs.map g) σ Q→Rel Γ ρ σ s.heap→FrR Γ env own fr ρ m s.heap→evm Γ mode (.BoolOp .And vs pos) env A (Post Γ env own fr m ρ s Q) E s:=by
 induction vs with
 | nil=>exact fun h=>absurd rfl h
 | cons v vs ih=>
  intro σ s ρ _ h R F
  have hv1:=hv v (.head _)
  cases vs with
  | nil=>
   clear ih
   cases mode with
   | false=>
    refine BoolOp_one (hv1.run hk h hR R F fun u s1 r1 σ1 ρ1 st1 R1 F1 rd1 h1=>?_)
    cases rd1 with
    | bool b=>exact ⟨_,σ1,ρ1,st1,R1,F1,.bool b,ifB_and (P:=fun b=>Q (.bool b) σ1) h1⟩
    | _=>exact h1.elim
   | true=>
    refine PyProof.Rows.isTrue_and (hv1.runT hk h hR R F fun u s1 r1 σ1 ρ1 st1 R1 F1 rd1 h1=>?_)
    cases rd1
    cases u with
    | true=>rw [if_pos rfl];exact isTrue_and_nil ⟨_,σ1,ρ1,st1,R1,F1,.bool true,ifB_true h1 rfl⟩
    | false=>rw [if_neg (by decide)];exact ⟨_,σ1,ρ1,st1,R1,F1,.bool false,ifB_false h1 rfl⟩
  | cons w vs=>
   have ih:∀ {s1 σ1 ρ1},Step [env.locals] ρ ρ1 s s1→wpAnds (evM (wpE Γ k fr n) mode m) ((w::vs).map g) σ1 Q→Rel Γ ρ1 σ1 s1.heap→FrR Γ env own fr ρ1 m s1.heap→evm Γ mode (.BoolOp .And (w::vs) pos) env A (Post Γ env own fr m ρ s Q) E s1:=fun st h R F=>
    evm_sh st (ih (fun x hx=>hv x (.tail _ hx)) (List.cons_ne_nil _ _) h R F)
   cases mode with
   | false=>
    refine BoolOp_and (hv1.run hk h hR R F fun u s1 r1 σ1 ρ1 st1 R1 F1 rd1 h1=>?_)
    cases rd1 with
    | bool b=>
     refine wpAny_truthy_bool ?_
     cases b with
     | true=>rw [if_pos rfl];exact ih st1 (ifB_true h1 rfl) R1 F1
     | false=>rw [if_neg (by decide)];exact ⟨_,σ1,ρ1,st1,R1,F1,.bool false,ifB_false h1 rfl⟩
    | _=>exact h1.elim
   | true=>
    refine PyProof.Rows.isTrue_and (hv1.runT hk h hR R F fun u s1 r1 σ1 ρ1 st1 R1 F1 rd1 h1=>?_)
    cases rd1
    cases u with
    | true=>rw [if_pos rfl];exact ih st1 (ifB_true h1 rfl) R1 F1
    | false=>rw [if_neg (by decide)];exact ⟨_,σ1,ρ1,st1,R1,F1,.bool false,ifB_false h1 rfl⟩
theorem S_ors {g:PySem.Expr→Ex} {pos:Pos} {vs:List PySem.Expr} (hv:∀ v∈vs,Snd Γ k fr kd v (g v)) {env:Env} {own:List Addr} {m:List (Nat×V)} {n:Nat} {mode:Bool} {Q:V→St→Prop} {A:Around} {E:Value→Shared→Prop} (hk:∀ x,env.kindOf x=kd x) (hR:RoomB k A):∀ {σ:St} {s:Shared} {ρ:List Slot},
  vs≠[]→wpOrs (evM (wpE Γ k fr n) mode m) (vs.map g) σ Q→Rel Γ ρ σ s.heap→FrR Γ env own fr ρ m s.heap→evm Γ mode (.BoolOp .Or vs pos) env A (Post Γ env own fr m ρ s Q) E s:=by
 induction vs with
 | nil=>exact fun h=>absurd rfl h
 | cons v vs ih=>
  intro σ s ρ _ h R F
  have hv1:=hv v (.head _)
  cases vs with
  | nil=>
   clear ih
   cases mode with
   | false=>
    refine BoolOp_one (hv1.run hk h hR R F fun u s1 r1 σ1 ρ1 st1 R1 F1 rd1 h1=>?_)
    cases rd1 with
    | bool b=>exact ⟨_,σ1,ρ1,st1,R1,F1,.bool b,ifB_or (P:=fun b=>Q (.bool b) σ1) h1⟩
    | _=>exact h1.elim
   | true=>
    refine PyProof.Rows.isTrue_or (hv1.runT hk h hR R F fun u s1 r1 σ1 ρ1 st1 R1 F1 rd1 h1=>?_)
    cases rd1
    cases u with
    | true=>rw [if_pos rfl];exact ⟨_,σ1,ρ1,st1,R1,F1,.bool true,ifB_true h1 rfl⟩
    | false=>rw [if_neg (by decide)];exact isTrue_or_nil ⟨_,σ1,ρ1,st1,R1,F1,.bool false,ifB_false h1 rfl⟩
  | cons w vs=>
   have ih:∀ {s1 σ1 ρ1},Step [env.locals] ρ ρ1 s s1→wpOrs (evM (wpE Γ k fr n) mode m) ((w::vs).map g) σ1 Q→Rel Γ ρ1 σ1 s1.heap→FrR Γ env own fr ρ1 m s1.heap→evm Γ mode (.BoolOp .Or (w::vs) pos) env A (Post Γ env own fr m ρ s Q) E s1:=fun st h R F=>
    evm_sh st (ih (fun x hx=>hv x (.tail _ hx)) (List.cons_ne_nil _ _) h R F)
   cases mode with
   | false=>
    refine BoolOp_or (hv1.run hk h hR R F fun u s1 r1 σ1 ρ1 st1 R1 F1 rd1 h1=>?_)
    cases rd1 with
    | bool b=>
     refine wpAny_truthy_bool ?_
     cases b with
     | true=>rw [if_pos rfl];exact ⟨_,σ1,ρ1,st1,R1,F1,.bool true,ifB_true h1 rfl⟩
     | false=>rw [if_neg (by decide)];exact ih st1 (ifB_false h1 rfl) R1 F1
    | _=>exact h1.elim
   | true=>
    refine PyProof.Rows.isTrue_or (hv1.runT hk h hR R F fun u s1 r1 σ1 ρ1 st1 R1 F1 rd1 h1=>?_)
    cases rd1
    cases u with
    | true=>rw [if_pos rfl];exact ⟨_,σ1,ρ1,st1,R1,F1,.bool true,ifB_true h1 rfl⟩
    | false=>rw [if_neg (by decide)];exact ih st1 (ifB_false h1 rfl) R1 F1
inductive PostL (Γ:Gl) (env:Env) (own:List Addr) (fr:Frees) (m:List (Nat×V)) (ρ:List Slot) (s:Shared) (Q:List V→St→Prop) (vs:List Value) (s':Shared):Prop
 | intro (rs:List V) (σ':St) (ρ':List Slot) (st:Step [env.locals] ρ ρ' s s') (R:Rel Γ ρ' σ' s'.heap) (F:FrR Γ env own fr ρ' m s'.heap) (rd:RdL s'.heap ρ' vs rs) (q:Q rs σ'):PostL Γ env own fr m ρ s Q vs s'
theorem starEach_plain {e:PySem.Expr} {es:List PySem.Expr} (h:plainArg e=true):starEach (e::es) env=(false,eval e env)::starEach es env:=by
 cases e <;> first | rfl | cases h
theorem spl {g:PySem.Expr→Ex} {pos:Pos} {own:List Addr} {n:Nat} (hk:∀ x,env.kindOf x=kd x) (hR:RoomB k A) {es:List PySem.Expr} (hv:∀ v∈es,Snd Γ k fr kd v (g v)) (hp:es.all plainArg=true):∀ {P:List Value→Shared→Prop} {σ:St} {Q:List V→St→Prop} {s:Shared} {ρ:List Slot},
  wpEs (evM (wpE Γ k fr n) false m) (es.map g) σ Q→Rel Γ ρ σ s.heap→FrR Γ env own fr ρ m s.heap→(∀ vs s1 rs σ1 ρ1,vs.length=es.length→Step [env.locals] ρ ρ1 s s1→Rel Γ ρ1 σ1 s1.heap→FrR Γ env own fr ρ1 m s1.heap→RdL s1.heap ρ1 vs rs→Q rs σ1→P vs s1)→wpAny (model Γ.prog Γ.w) A (spliced (backTo pos (starEach es env))) P E s:=by
 induction es with
 | nil=>exact fun h R F q=>spliced_nil (q [] _ [] _ _ rfl (Step.refl ..) R F .nil h)
 | cons e es ih=>
  intro P σ Q s ρ h R F q
  rw [List.all_cons,Jd1] at hp
  rw [starEach_plain hp.1]
  exact spliced_cons ((hv e (.head _)).run hk h hR R F fun v s1 r1 σ1 ρ1 st1 R1 F1 rd1 h1=>
   ih (fun x hx=>hv x (.tail _ hx)) hp.2 h1 R1 F1 fun vs s2 rs σ2 ρ2 hl st2 R2 F2 rd2 q2=>q _ _ _ _ _ (congrArg (· + 1) hl) (st1.trans st2) R2 F2 (.cons (rd1.mono (st2.grow F1.ownLive)) rd2) q2)
end
end
section
theorem slice_upto (its:Array Value) {h:Int} (h0:0≤h):slicePick its none (some h) none=(its.toList.take h.toNat).toArray:=by
 by_cases hb:h.toNat≤its.size
 ·have:=slicePick_upto its h.toNat hb
  rwa [Jg7 h0] at this
 ·have e:sliceBounds none (some h) none its.size=sliceBounds none (some ((its.size:Nat):Int)) none its.size:=by
   simp only [sliceBounds,Option.getD_none]
   have h1:¬ h<0:=Int.not_lt.mpr h0
   have h2:¬ ((its.size:Nat):Int)<0:=Int.not_lt.mpr (Jb0 _)
   simp only [h1,h2,if_false]
   have e1:min h ((its.size:Nat):Int)=its.size:=Int.min_eq_right (Jg7 h0▸Jf6.mpr (Nat.le_of_not_le hb))
   have e2:min ((its.size:Nat):Int) ((its.size:Nat):Int)=its.size:=Int.min_eq_right (Int.le_refl _)
   rw [e1,e2]
   simp
  have:=slicePick_upto its its.size (Jd7 _)
  unfold slicePick at this ⊢
  rw [e,this]
  apply congrArg List.toArray
  rw [List.take_of_length_le (Je5 Jf0),List.take_of_length_le (Jf0.symm▸Nat.le_of_not_le hb)]
section
variable {prog:Program} {w:World} {A:Around} {E:Value→Shared→Prop} {s:Shared}
theorem adjust_last (n:Nat) (hn:0<n):Builtin.Slice.sliceAdjust none (some (-1)) 1 (n:Int)=(0,(n:Int) - 1):=by
 unfold Builtin.Slice.sliceAdjust
 simp
 lia
theorem places_last (n:Nat) (hn:0<n):Builtin.Slice.slicePlaces 0 ((n:Int) - 1) 1=n - 1:=by
 rw [show (n:Int) - 1=((n - 1:Nat):Int) from (Int.ofNat_sub hn).symm]
 exact places_from 0 (n - 1) (Ji4 _)
theorem range_pick (l:List Value) (n:Nat):(Je1 n).filterMap (fun k=>l[k]?)=l.take n:=by
 induction n with
 | zero=>rfl
 | succ n ih=>
  rw [List.range_succ,List.filterMap_append,ih,List.take_add_one,List.filterMap_cons]
  cases l[n]? <;> rfl
theorem applied_last {sl:Addr} {n:Nat} {u:Tok} {Q:Int×Int×Nat→Shared→Prop} (hs:s.heap.IsSliceOf sl .none (.int (-1) u) .none) (hn:0<n) (h:Q (0,1,n - 1) s) :
  wpAny (model prog w) A (Builtin.Slice.sliceApplied (.ref sl) (pure (n:Int))) Q E s:=by
 refine gabs fun gG gK=>?_
 obtain ⟨os,hos,hcs,hds⟩:=id hs
 refine gK ?_
 unfold Builtin.Slice.sliceApplied Builtin.Slice.sliceFields
 refine wpAny_bind (wpAny_bind (wpAny_field hos hds (x:=.none) rfl (wpAny_bind (wpAny_field hos hds (x:=.int (-1) u) rfl (wpAny_bind (wpAny_field hos hds (x:=.none) rfl (wpAny_pure ?_)))))))
 refine wpAny_bind (slicePart_none ?_)
 show wpAny _ _ (if ((1:Int) == 0)=true then _ else _) _ _ s
 rw [if_neg (by decide)]
 refine wpAny_bind (slicePart_none (wpAny_bind (slicePart_int (wpAny_bind (wpAny_pure ?_)))))
 show wpAny _ _ (match Builtin.Slice.sliceAdjust none (some (-1)) 1 (n:Int) with | (lo,hi)=>pure (lo,(1:Int),Builtin.Slice.slicePlaces lo hi 1)) _ _ s
 rw [adjust_last n hn]
 show wpAny _ _ (pure ((0:Int),(1:Int),Builtin.Slice.slicePlaces 0 ((n:Int) - 1) 1)) _ _ s
 rw [places_last n hn]
 exact wpAny_pure h
theorem getItem_but_last {t sl:Addr} {items:Array Value} {u:Tok} {Q:Value→Shared→Prop} (ht:IsTup s.heap t items) (hs:s.heap.IsSliceOf sl .none (.int (-1) u) .none) (hn:0<items.size)
  (h:Q (.ref s.heap.objs.size) { s with heap:=s.heap.push { cls:=.type "tuple",data:=.seq items.toList.dropLast.toArray } })
  (hsz:items.size≤sizeLine):wpAny (model prog w) A (getItem (.ref t) (.ref sl)) Q E s:=by
 have hok:sizeOk (.seq items.toList.dropLast.toArray):=by
  show items.toList.dropLast.toArray.size≤sizeLine
  rw [List.size_toArray,List.length_dropLast,Jf0]
  exact Ja1 (Nat.sub_le _ _) hsz
 refine gabs fun gG gK=>?_
 obtain ⟨os,hos,hcs,hds⟩:=id hs
 refine gK ?_
 have hTs:s.TypeIs (.ref sl) "slice":=⟨os,hos,hcs⟩
 unfold getItem
 refine wpAny_holding ?_
 refine wpAny_bind (wpAny_sequenceKey ht.typeIs (by decide) ?_)
 refine wpAny_bind (wpAny_callSpecial?_slot (name:=Str.ofString "__getitem__") ht.typeIs PyProof.Rows.slot_tuple_getitem
  (wpAny_call_entry PyProof.Rows.slot_tuple_getitem ht.typeIs PyProof.Rows.entry_tuple_getitem ?_ (PyProof.Rows.args_tuple_getitem _ _)))
 show wpAny _ _ (Builtin.Tuple.tupleItemsOf (.ref t) >>= _) _ _ s
 refine wpAny_bind (tupleItemsOf_ ht ?_)
 refine wpAny_bind (wpAny_typeOf hTs ?_)
 rw [if_pos (by decide)]
 refine wpAny_bind (applied_last hs hn ?_)
 have hno:¬ (((0:Int) == 0 && (1:Int) == 1 && (items.size - 1) == items.size)=true):=fun q=>Nat.ne_of_lt (Nat.sub_lt hn Nat.one_pos) (eq_of_beq ((Jd1 _ _).mp q).2)
 show wpAny _ _ (if ((0:Int) == 0 && (1:Int) == 1 && (items.size - 1) == items.size)=true then _ else _) _ _ s
 have e:((Je1 (items.size - 1)).filterMap fun (k:Nat)=>items[((0:Int)+(k:Int) * 1).toNat]?)=items.toList.dropLast:=by
  have e1:(fun (k:Nat)=>items[((0:Int)+(k:Int) * 1).toNat]?)=fun k=>items.toList[k]?:=by
   funext k
   rw [Int.zero_add,Int.mul_one,Jf1,Array.getElem?_toList]
  rw [e1,List.dropLast_eq_take,Jf0,range_pick]
 rw [if_neg hno,e]
 first
  | exact wpAny_bind (m:=Builtin.Tuple.tupleExact _) (wpAny_newObj_type (wpAny_pure ⟨_,rfl,wpAny_pure h⟩) hok)
  | exact wpAny_bind (m:=Builtin.Tuple.tupleExact _) (wpAny_newObj_type (wpAny_bind (wpAny_pure (wpAny_pure ⟨_,rfl,wpAny_pure h⟩))) hok)
  | exact wpAny_bind (wpAny_bind (m:=Builtin.Tuple.tupleExact _) (wpAny_newObj_type (wpAny_pure (wpAny_pure ⟨_,rfl,wpAny_pure h⟩)) hok))
  | exact wpAny_bind (wpAny_bind (m:=Builtin.Tuple.tupleExact _) (wpAny_newObj_type (wpAny_pure ⟨_,rfl,wpAny_pure h⟩) hok))
end
section
variable {Γ:Gl} {env:Env} {own:List Addr} {fr:Frees} {m:List (Nat×V)} {ρ:List Slot} {σ:St} {s:Shared} {A:Around} {E:Value→Shared→Prop} {Q:V→St→Prop} {k:Nat} {kd:Kd} {mode:Bool}
noncomputable def isSuper:PySem.Expr→Bool
 | .Call (.Name id _) [] [] _=>id == ("super" : Str)
 | _=>false
theorem isName_eq {t:PySem.Expr} (h:Jc5 t.ctorIdx 23=true):∃ x p,t=.Name x p:=by
 cases t with
 | Name x p=>exact ⟨x,p,rfl⟩
 | _=>exact ft h
theorem isCall_eq {t:PySem.Expr} (h:Jc5 t.ctorIdx 16=true):∃ f as ks p,t=.Call f as ks p:=by
 cases t with
 | Call f as ks p=>exact ⟨f,as,ks,p,rfl⟩
 | _=>exact ft h
theorem super_no {e:PySem.Expr} (h:Jc5 e.ctorIdx 16=false):isSuper e=false:=by
 cases e <;> first | rfl | exact tf h
theorem super_no2 {e:PySem.Expr} {as:List PySem.Expr} {ks:List Keyword} {p:Pos} (h:Jc5 e.ctorIdx 23=false):isSuper (.Call e as ks p)=false:=by
 cases e <;> first | rfl | exact tf h
theorem super_eq {e:PySem.Expr} (h:isSuper e=true):∃ p q,e=.Call (.Name "super" p) [] [] q:=by
 cases h1:Jc5 e.ctorIdx 16 with
 | false=>rw [super_no h1] at h;cases h
 | true=>
  obtain ⟨f,as,ks,q,rfl⟩:=isCall_eq h1
  cases h2:Jc5 f.ctorIdx 23 with
  | false=>rw [super_no2 h2] at h;cases h
  | true=>
   obtain ⟨x,p,rfl⟩:=isName_eq h2
   cases as with
   | nil=>
    cases ks with
    | nil=>cases (eq_of_beq h:x=("super" : Str));exact ⟨_,_,rfl⟩
    | cons _ _=>cases h
   | cons _ _=>cases ks <;> cases h
theorem super_bad {e:PySem.Expr} {n:Nat} (h:isSuper e=true):trE n kd e=.bad:=by
 obtain ⟨p,q,rfl⟩:=super_eq h
 cases n with
 | zero=>rfl
 | succ n=>
  have hs:symId ("super" : Str)=none:=by decide +kernel
  show iB true (iB (kd "super" == some .globalImplicit) (oB (symId "super") _))=_
  rw [hs]
  cases kd "super" == some NameKind.globalImplicit <;> rfl
theorem attrBase {o:PySem.Expr} {a:Str} {w:Sem Value} (h:isSuper o=false):attributeBase o a env w=w:=by
 cases o with
 | Call f as ks pos=>
  cases f with
  | Name id p=>
   cases as with
   | nil=>
    cases ks with
    | nil=>exact if_pos (by rw [show (id != ("super" : Str))=true from congrArg not h];rfl)
    | cons _ _=>rfl
   | cons _ _=>cases ks <;> rfl
  | _=>rfl
 | _=>rfl
theorem S_attr {v:PySem.Expr} {j:Nat} {pos:Pos} {a:Ex} (e2:j<nsym) (hs:isSuper v=false) (hv:Snd Γ k fr kd v a):Snd Γ k fr kd (.Attribute v (sy j) pos) (.attr a j):=.mk (fun _ _ _ _ x=>x) fun env own m n mode σ Q A E s ρ hk h hR R F=>by
 refine fin_plain rfl ?_
 rw [arm_eval_Attribute,attrBase hs]
 exact wpAny_bind (hv.run hk h hR R F fun u s1 r1 σ1 ρ1 st1 R1 F1 rd1 hx=>wpAny_bind (wpAny_standAt (wpAny_bind (wpAny_holding (op_attr hx.1 hx.2 R1 rd1 fun r x tk q rx=>
  wpAny_bind (wpAny_letTemporaryGo (wpAny_pure (Post.trans st1 (Post.val R1 F1 rx q)))))))))
theorem S_item {v i:PySem.Expr} {pos:Pos} {a b:Ex} (hs:isSlE i=false) (hv:Snd Γ k fr kd v a) (hi:Snd Γ k fr kd i b):Snd Γ k fr kd (.Subscript v i pos) (.item a b):=.mk (fun _ _ _ _ x=>x) fun env own m n mode σ Q A E s ρ hk h hR R F=>
 fin_plain rfl (PyProof.Rows.Subscript_ (hv.run hk h hR R F fun u s1 r1 σ1 ρ1 st1 R1 F1 rd1 h1=>hi.run hk h1 hR R1 F1 fun w s2 r2 σ2 ρ2 st2 R2 F2 rd2 h2=>
  op_item (fun lo hi st p e=>by subst e;cases hs) h2 R2 (rd1.mono (st2.grow F1.ownLive)) rd2 fun r x tk q rx=>Post.trans (st1.trans st2) (Post.val R2 F2 rx q)))
theorem S_part {o:Option PySem.Expr} {g:PySem.Expr→Ex} (ho:∀ e,o=some e→Snd Γ k fr kd e (g e)) {n:Nat} {Q:Option Int→St→Prop} {P:Value→Shared→Prop} (hk:∀ x,env.kindOf x=kd x) (h:wpO (evM (wpE Γ k fr n) false m) (o.map g) σ Q) (hR:RoomB k A) (R:Rel Γ ρ σ s.heap) (F:FrR Γ env own fr ρ m s.heap)
  (q:∀ v s1 r σ1 ρ1,Step [env.locals] ρ ρ1 s s1→Rel Γ ρ1 σ1 s1.heap→FrR Γ env own fr ρ1 m s1.heap→IsPart v r→(∀ i,r=some i→i.natAbs<2 ^ 62)→Q r σ1→P v s1) :
  wpAny (model Γ.prog Γ.w) A (evalPart o env) P E s:=by
 cases o with
 | none=>exact wpAny_pure (q _ _ none σ ρ (Step.refl ..) R F .none (fun i e=>(by cases e)) h)
 | some e=>
  refine (ho e rfl).run hk h hR R F fun u s1 r1 σ1 ρ1 st1 R1 F1 rd1 h1=>?_
  cases rd1 with
  | int i t=>
   have h1:match (if i.natAbs<2 ^ 62 then some i else none:Option Int) with | some k=>Q (some k) σ1 | none=>False:=h1
   by_cases hp:i.natAbs<2 ^ 62
   ·rw [if_pos hp] at h1
    exact q _ _ _ σ1 ρ1 st1 R1 F1 (.int _ t) (fun j e=>by cases e;exact hp) h1
   ·rw [if_neg hp] at h1;exact h1.elim
  | _=>exact h1.elim
inductive SlC (σ:St) (Q:V→St→Prop):V→Option Int→Option Int→Prop
 | tup (xs:List V) (hne:xs≠[]) (hz:xs.length≤10000) (q:Q (.tup xs.dropLast) σ):SlC σ Q (.tup xs) none (some (-1))
 | upto (l:Nat) (xs:List V) (b:Int) (e:σ l=some (.list xs)) (hz:xs.length≤10000) (h0:0≤b) (q:∀ n,σ n=none→Q (.loc n) (upd σ n (.list (xs.take b.toNat)))):SlC σ Q (.loc l) none (some b)
 | mid (l:Nat) (xs:List V) (i b:Int) (e:σ l=some (.list xs)) (hz:xs.length≤10000) (h0:0≤b) (i0:0≤i) (i1:i≤b) (i2:b≤xs.length) (q:∀ n,σ n=none→Q (.loc n) (upd σ n (.list ((xs.drop i.toNat).take (b.toNat - i.toNat))))):SlC σ Q (.loc l) (some i) (some b)
theorem slice_cases {a:V} {lo hi:Option Int} (h:sliceV a lo hi σ Q):SlC σ Q a lo hi:=by
 cases a with
 | tup xs=>obtain ⟨rfl,rfl,hne,hz,q⟩:=h;exact .tup xs hne hz q
 | loc l=>
  obtain ⟨xs,e,hz,h⟩:=h
  cases hi with
  | none=>exact h.elim
  | some b=>cases lo with
   | none=>exact .upto l xs b e hz h.1 h.2
   | some i=>exact .mid l xs i b e hz h.1 h.2.1 h.2.2.1 h.2.2.2.1 h.2.2.2.2
 | _=>exact h.elim
theorem its_len {its:Array Value} {xs:List V} {h:Heap} (r:RdL h ρ its.toList xs):its.size=xs.length:=Jf0.symm.trans r.length
theorem small {its:Array Value} {xs:List V} {h:Heap} (r:RdL h ρ its.toList xs) (hz:xs.length≤10000):its.size≤sizeLine:=by
 rw [sizeLine_eq,its_len r];exact Ja1 hz (Ja0 rfl)
theorem op_slice {value:PySem.Expr} {lo hi:Option PySem.Expr} {p:Pos} {a:V} {lo' hi':Option Int} {v vl vh:Value} (C:SlC σ Q a lo' hi') (R:Rel Γ ρ σ s.heap) (F:FrR Γ env own fr ρ m s.heap) (rd:Rd s.heap ρ v a) (pl:IsPart vl lo') (ph:IsPart vh hi') :
  wpAny (model Γ.prog Γ.w) A (subscriptTail value (.Slice lo hi none p) v (.ref s.heap.objs.size)) (Post Γ env own fr m ρ s Q) E { s with heap:=s.heap.push { cls:=.type "slice",data:=.fields #[vl,vh,.none] } }:=by
 have x:=Tr.keeps (s':={ s with heap:=s.heap.push { cls:=.type "slice",data:=.fields #[vl,vh,.none] } }) R F fun b o e=>Heap.get?_push_of_some _ e
 have rd':=rd.mono (x.grow F)
 have hsl:=Heap.IsSliceOf.new s.heap vl vh .none
 cases C with
 | tup xs hne hz q=>
  cases pl
  cases ph with
  | int _ u=>
   obtain ⟨a,its,nn,rfl,g,_,r⟩:=rd'.tupOf
   have hT:IsTup (s.heap.push { cls:=.type "slice",data:=.fields #[.none,.int (-1) u,.none] }) a its.toArray:=⟨_,g,rfl,_,rfl⟩
   have hl:=r.length
   refine tail_any hT.typeIs PyProof.Rows.slot_tuple_getitem.lookup (getItem_but_last hT hsl (by rw [List.size_toArray,hl];exact Jh3.mpr hne) ?_ (by rw [sizeLine_eq,List.size_toArray,hl];exact Ja1 hz (Ja0 rfl))) rfl
   refine Post.trans x.step (Post.newTup (its:=its.dropLast) (n:=0) x.R x.F ?_ (by simp) q)
   rw [List.dropLast_eq_take,List.dropLast_eq_take,hl]
   exact r.take _
 | upto l xs b e hz hb0 q=>
  obtain ⟨a,its,nn,rfl,_,g,r⟩:=rd'.list x.R e
  have hL:(s.heap.push { cls:=.type "slice",data:=.fields #[vl,vh,.none] }).IsList a its:=⟨_,g,rfl,_,rfl⟩
  refine tail_any hL.typeIs slot_list_getitem.lookup (wpAny_getItem_list_slice hL hsl pl ph .none (by decide) ?_ (small r hz)) rfl
  rw [slice_upto its hb0]
  exact Post.trans x.step (Post.newList (its:=its.toList.take b.toNat) (n:=0) x.R x.F (r.take _) (by simp) q)
 | mid l xs i b e hz hb0 i0 i1 i2 q=>
  obtain ⟨a,its,nn,rfl,_,g,r⟩:=rd'.list x.R e
  have hL:(s.heap.push { cls:=.type "slice",data:=.fields #[vl,vh,.none] }).IsList a its:=⟨_,g,rfl,_,rfl⟩
  refine tail_any hL.typeIs slot_list_getitem.lookup (wpAny_getItem_list_slice hL hsl pl ph .none (by decide) ?_ (small r hz)) rfl
  have:=slicePick_run its i.toNat b.toNat (its_len r▸Int.toNat_le.mpr i2) (Int.toNat_le_toNat i1)
  rw [Jg7 i0,Jg7 hb0] at this
  rw [this]
  exact Post.trans x.step (Post.newList (its:=(its.toList.drop i.toNat).take (b.toNat - i.toNat)) (n:=0) x.R x.F ((r.drop _).take _) (by simp) q)
theorem S_slice {v:PySem.Expr} {lo hi:Option PySem.Expr} {p pos:Pos} {a:Ex} {g:PySem.Expr→Ex} (hv:Snd Γ k fr kd v a) (hlo:∀ e,lo=some e→Snd Γ k fr kd e (g e)) (hhi:∀ e,hi=some e→Snd Γ k fr kd e (g e)) :
  Snd Γ k fr kd (.Subscript v (.Slice lo hi none p) pos) (.slice a (lo.map g) (hi.map g)):=.mk (fun _ _ _ _ x=>x) fun env own m n mode σ Q A E s ρ hk h hR R F=>
 fin_plain rfl (PyProof.Rows.Subscript_ (hv.run hk h hR R F fun u s1 r1 σ1 ρ1 st1 R1 F1 rd1 h1=>wpAny_Slice (S_part hlo hk h1 hR R1 F1 fun vl s2 l σ2 ρ2 st2 R2 F2 pl _ h2=>S_part hhi hk h2 hR R2 F2 fun vh s3 hh σ3 ρ3 st3 R3 F3 ph hb h3=>wpAny_pure
  (Post.sh ((st1.trans st2).trans st3) (op_slice (slice_cases h3) R3 F3 ((rd1.mono (st2.grow F1.ownLive)).mono (st3.grow F2.ownLive)) pl ph)))))
theorem S_list {g:PySem.Expr→Ex} {es:List PySem.Expr} {pos:Pos} (hp1:es.all plainArg=true) (hz:es.length<1000) (hv:∀ v∈es,Snd Γ k fr kd v (g v)):Snd Γ k fr kd (.List es pos) (.list (es.map g)):=.mk (fun _ _ _ _ x=>x) fun env own m n mode σ Q A E s ρ hk h hR R F=>
 fin_plain rfl (wpAny_List (spl hk hR hv hp1 h R F fun vs s1 rs σ1 ρ1 hl st1 R1 F1 rd1 q=>
  ⟨by rw [hl,sizeLine_eq];lia,Post.trans st1 (Post.newList (its:=vs) (n:=0) R1 F1 rd1 (by simp) q)⟩))
theorem S_tup {g:PySem.Expr→Ex} {kk:Nat} {es:List PySem.Expr} {pos:Pos} (hp1:es.all plainArg=true) (hz:es.length<1000) (hv:∀ v∈es,Snd Γ k fr kd v (g v)):Snd Γ k fr kd (.Tuple es kk pos) (.tup (es.map g)):=.mk (fun _ _ _ _ x=>x) fun env own m n mode σ Q A E s ρ hk h hR R F=>
 fin_plain rfl (PySem.wpAny_Tuple (spl hk hR hv hp1 h R F fun vs s1 rs σ1 ρ1 hl st1 R1 F1 rd1 q=>
  ⟨by rw [hl,sizeLine_eq];lia,Post.trans st1 (Post.newTup (its:=vs) (n:=0) R1 F1 rd1 (by simp) q)⟩))
theorem S_dict {pos:Pos}:Snd Γ k fr kd (.Dict [] [] pos) .dict:=.mk (fun _ _ _ _ x=>x) fun env own m n mode σ Q A E s ρ hk h hR R F=>by
 refine fin_plain rfl ?_
 rw [eval_Dict_empty]
 refine wpAny_bind (wpAny_standAt ?_)
 have hd:newDict=newObj (.type "dict") (.dict #[]):=rfl
 rw [hd]
 refine wpAny_newObj_type ?_
 exact Post.adopt (o:=dictOf [] 0) (c:=.dict []) R F (Tr.keeps R F fun b o e=>Heap.get?_push_of_some _ e) (push_none _) (Heap.get?_push_size _ rfl) (fun _ _ e=>by simp at e) (fun g=>⟨beq_eq_false_iff_ne.mpr (Nat.ne_of_gt (Jc8 Γ.sm (Γ.top _ R.base))),[],Heap.DictOf.new _,.nil⟩) h
end
end
section
section
variable {Γ:Gl} {env:Env} {own:List Addr} {fr:Frees} {m:List (Nat×V)} {ρ:List Slot} {σ:St} {s:Shared} {A:Around} {E:Value→Shared→Prop} {Q:V→St→Prop} {k:Nat} {kd:Kd} {mode:Bool}
theorem args_spl {f:Value} {es:List PySem.Expr} {pos:Pos} {P:Args→Shared→Prop} (hp:es.all plainArg=true) (h:wpAny (model Γ.prog Γ.w) A (spliced (backTo pos (starEach es env))) (fun vs s'=>P ⟨vs,[]⟩ s') E s) :
  wpAny (model Γ.prog Γ.w) A (evalArgs f true (backTo pos (starEach es env)) []) P E s:=by
 cases es with
 | nil=>
  have h:wpAny (model Γ.prog Γ.w) A (spliced []) (fun vs s'=>P ⟨vs,[]⟩ s') E s:=h
  show wpAny _ _ (evalArgs f true [] []) _ _ _
  unfold evalArgs
  show wpAny _ A (spliced [] >>= _) P E s
  refine wpAny_bind (wpAny_mono h (fun vs s' h'=>?_) fun _ _ x=>x)
  refine wpAny_bind (wpAny_pure ?_)
  refine wpAny_holding ?_
  first
   | exact wpAny_bind (wpAny_pure (wpAny_bind (wpAny_pure (wpAny_pure h'))))
   | exact wpAny_bind (wpAny_pure (wpAny_pure h'))
   | exact wpAny_bind (wpAny_pure (wpAny_bind (wpAny_pure h')))
   | exact wpAny_bind (wpAny_bind (wpAny_pure (wpAny_pure h')))
 | cons e es=>
  rw [List.all_cons,Jd1] at hp
  rw [starEach_plain hp.1] at h ⊢
  exact Calls.evalArgs_plain h
theorem noStar {es:List PySem.Expr} {pos:Pos} (hp:es.all plainArg=true):(backTo pos (starEach es env)).any (·.1)=false∧(backTo pos (starEach es env)).all (!·.1)=true:=by
 induction es with
 | nil=>exact ⟨rfl,rfl⟩
 | cons e es ih=>
  have hp:=(Jd1 _ _).mp hp
  rw [starEach_plain hp.1]
  exact ih hp.2
theorem global_name {x:Str} {pos:Pos} {v:Value} {P:Value→Shared→Prop} (R:Rel Γ ρ σ s.heap) (F:FrR Γ env own fr ρ m s.heap) (hx:env.kindOf x=some .globalImplicit) (hv:Γ.mg x=some v) (h:P v s) (hd:(x == ("__debug__" : Str))=false) :
  wpAny (model Γ.prog Γ.w) A (eval (.Name x pos) env) P E s:=
 Name_function_global F.kind hx (loadGlobal_global (by rw [F.globs];exact Γ.g.keeps R.base) hv h) hd
theorem builtin_name {n:Nat} {pos:Pos} {v:Value} {P:Value→Shared→Prop} (R:Rel Γ ρ σ s.heap) (F:FrR Γ env own fr ρ m s.heap) (hx:env.kindOf (sy n)=some .globalImplicit) (hb:biNames.contains (sy n)=true) (hv:bootBuiltins (sy n)=some v) (hn:n<nsym) (h:P v s) :
  wpAny (model Γ.prog Γ.w) A (eval (.Name (sy n) pos) env) P E s:=by
 have hname:sy n≠"__name__":=fun e=>by
  rw [e] at hb
  revert hb
  decide +kernel
 exact Name_function_global F.kind hx (loadGlobal_builtin (by rw [F.globs];exact Γ.g.keeps R.base) (Γ.biAt n hb) (by rw [F.bui];exact Γ.b.keeps R.base) ((Γ.bi _ hname).trans hv) h) (sy_not_debug hn).1
theorem ints_are {h:Heap} {ns:List Int}:∀ {vs:List Value},RdL h ρ vs (ns.map .int)→IntsAre vs ns:=by
 induction ns with
 | nil=>exact fun x=>by cases x;exact .nil
 | cons n ns ih=>
  exact fun x=>by
   cases x with
   | cons a b=>obtain ⟨t,rfl⟩:=a.intOf;exact .cons n t (ih b)
noncomputable def biVal:BI→Value
 | .int=>.type "int"
 | .len=>.builtin "len"
 | .list=>.type "list"
 | .max=>.builtin "max"
 | .sum=>.builtin "sum"
 | .tuple=>.type "tuple"
theorem len_le {its:Array Value} {xs:List V} {h:Heap} (r:RdL h ρ its.toList xs) (hz:xs.length≤10000):its.size≤10000:=by
 rw [← Jf0,r.length];exact hz
theorem fit63 {n:Nat} (h:n≤10000):(n:Int)<2 ^ 63:=Ji9 (Jf6.mpr h) (by decide)
inductive BiC (σ:St) (Q:V→St→Prop):BI→V→Prop
 | int (i:Int) (q:Q (.int i) σ):BiC σ Q .int (.int i)
 | lenT (xs:List V) (hz:xs.length≤10000) (q:Q (.int xs.length) σ):BiC σ Q .len (.tup xs)
 | lenL (l:Nat) (xs:List V) (e:σ l=some (.list xs)) (hz:xs.length≤10000) (q:Q (.int xs.length) σ):BiC σ Q .len (.loc l)
 | list (l:Nat) (xs:List V) (e:σ l=some (.list xs)∨σ l=some (.ro xs)) (hz:xs.length≤10000) (q:∀ n,σ n=none→Q (.loc n) (upd σ n (.list xs))):BiC σ Q .list (.loc l)
 | max (l:Nat) (ns:List Int) (e:σ l=some (.list (ns.map .int))) (hne:ns≠[]) (q:∀ x,x∈ns→(∀ y∈ns,y≤x)→Q (.int x) σ):BiC σ Q .max (.loc l)
 | sum (l:Nat) (ns:List Int) (e:σ l=some (.list (ns.map .int))) (q:Q (.int ns.sum) σ):BiC σ Q .sum (.loc l)
 | tuple (l:Nat) (xs:List V) (e:σ l=some (.list xs)) (hz:xs.length≤10000) (q:Q (.tup xs) σ):BiC σ Q .tuple (.loc l)
theorem bi_cases {b:BI} {a:V} (h:biV b [a] σ Q):BiC σ Q b a:=by
 cases b with
 | int=>cases a with
  | int i=>exact .int i h
  | _=>exact h.elim
 | len=>cases a with
  | tup xs=>exact .lenT xs h.1 h.2
  | loc l=>obtain ⟨xs,e,hz,q⟩:=h;exact .lenL l xs e hz q
  | _=>exact h.elim
 | list=>cases a with
  | loc l=>obtain ⟨xs,e,hz,q⟩:=h;exact .list l xs e hz q
  | _=>exact h.elim
 | max=>cases a with
  | loc l=>obtain ⟨ns,e,hz,hne,q⟩:=h;exact .max l ns e hne q
  | _=>exact h.elim
 | sum=>cases a with
  | loc l=>obtain ⟨ns,e,hz,q⟩:=h;exact .sum l ns e q
  | _=>exact h.elim
 | tuple=>cases a with
  | loc l=>obtain ⟨xs,e,hz,q⟩:=h;exact .tuple l xs e hz q
  | _=>exact h.elim
theorem bi_arg {b:BI} {rs:List V} (h:biV b rs σ Q):∃ r,rs=[r]:=by
 cases rs with
 | nil=>exact h.elim
 | cons r rs=>cases rs with
  | nil=>exact ⟨r,rfl⟩
  | cons _ _=>exact h.elim
theorem RdL.one {h:Heap} {vs:List Value} {r:V} (x:RdL h ρ vs [r]):∃ v,vs=[v]∧Rd h ρ v r:=by
 cases x with
 | cons a b=>cases b;exact ⟨_,rfl,a⟩
theorem any_list {l:Nat} {xs:List V} {v:Value} (R:Rel Γ ρ σ s.heap) (e:σ l=some (.list xs)∨σ l=some (.ro xs)) (a:Rd s.heap ρ v (.loc l)):∃ c its n o,v=.ref c∧s.heap.get? c=some o∧o.cls=.type "list"∧o.data=.seq its n∧RdL s.heap ρ its.toList xs:=by
 rcases e with e | e
 ·obtain ⟨c,its,n,e1,_,g,r1⟩:=a.list R e;exact ⟨c,its,n,_,e1,g,rfl,rfl,r1⟩
 ·obtain ⟨sl,hs,rfl⟩:=loc_main a
  have hc:=R.cells l _ sl e hs
  cases sl with
  | one c=>obtain ⟨its,n,e0,e1,e2,r1⟩:=hc;exact ⟨c,its,n,_,rfl,e2,e0,e1,r1⟩
  | two c d=>exact hc.elim
theorem op_bi {b:BI} {rs:List V} {vs:List Value} (hR:RoomB k A) (h:biV b rs σ Q) (R:Rel Γ ρ σ s.heap) (F:FrR Γ env own fr ρ m s.heap) (ra:RdL s.heap ρ vs rs) :
  wpAny (model Γ.prog Γ.w) A (call (biVal b) vs) (Post Γ env own fr m ρ s Q) E s:=by
 have hh:=hR.2.2
 clear hR
 obtain ⟨r,rfl⟩:=bi_arg h
 obtain ⟨v,rfl,a⟩:=ra.one
 clear ra
 cases bi_cases h with
 | int i q=>obtain ⟨t,rfl⟩:=a.intOf;exact call_int_int (Post.val0 R F (.int i t) q)
 | lenT xs hz q=>
  obtain ⟨c,its,n,rfl,g,_,r1⟩:=a.tupOf
  refine PyProof.Rows.len_tuple ⟨_,g,rfl,_,rfl⟩ (by rw [List.size_toArray,r1.length];exact fit63 hz) ?_
  rw [List.size_toArray,r1.length]
  exact Post.val R F (.int _ _) q
 | lenL l xs e hz q=>
  obtain ⟨c,its,n,rfl,_,g,r1⟩:=a.list R e
  refine call_len_list ⟨_,g,rfl,_,rfl⟩ (fit63 (len_le r1 hz)) ?_
  rw [show its.size=xs.length from Jf0.symm.trans r1.length]
  exact Post.val R F (.int _ _) q
 | list l xs e hz q=>
  obtain ⟨c,its,n,o,rfl,g,gc,gd,r1⟩:=any_list R e a
  refine call_list_seq c (.inl rfl) g gc gd (fun h' c' kp e'=>?_) (small r1 hz)
  have x:=Tr.keeps (s':={ s with heap:=h' }) R F kp
  exact Post.adopt R F x (push_none _) e' (nt_list _ _) (fun g=>show CellAt Γ h' _ (.one _) (.list _) from ⟨its,c',e',(r1.mono (x.grow F)).mono g⟩) q
 | max l ns e hne q=>
  refine gabs fun gG gK=>?_
  obtain ⟨c,its,n,rfl,_,g,r1⟩:=a.list R e
  obtain ⟨mm,D,hmm⟩:=F.ledg R
  refine gK ?_
  refine max_list_N hh D.F D.N (l:=c) (vs:=its.toList) ⟨_,g,rfl,n,rfl⟩ (ints_are r1) (Jh3.mpr hne) fun h' M t tk F' N' h1 h2=>?_
  exact Post.tr (Tr.ledg (tk:=tk) R F hmm F' N' fun p hp=>hp) (.int M t) (q M h1 h2)
 | sum l ns e q=>
  refine gabs fun gG gK=>?_
  obtain ⟨c,its,n,rfl,_,g,r1⟩:=a.list R e
  have hi:=ints_are r1
  obtain ⟨xs,hx⟩:=hi.allInts.items
  refine gK ?_
  have hns:ns=xs.toList.map (·.1):=by rw [← hi.numsOf,← nums_intItems,← hx]
  refine sum_intListG hh (l:=c) (xs:=xs) ⟨_,g,rfl,n,by rw [← hx]⟩ fun h' tk t' kp=>?_
  refine Post.tr (Tr.keeps (s':={ s with heap:=h',toks:=tk }) R F kp) (.int _ t') ?_
  rw [preSum_eq,List.take_of_length_le (by simp),← hns]
  exact q
 | tuple l xs e hz q=>
  obtain ⟨c,its,n,rfl,_,g,r1⟩:=a.list R e
  refine call_tuple_list ⟨_,g,rfl,_,rfl⟩ (fun h' kp=>?_) (small r1 hz)
  have x:=Tr.keeps (s':={ s with heap:=h' }) R F kp
  exact Post.trans x.step (Post.newTup (s:={ s with heap:=h' }) (its:=its.toList) (n:=0) x.R x.F (r1.mono (x.grow F)) rfl q)
theorem Post.called {ρ':List Slot} {σ':St} {s':Shared} {v:Value} {r:V} (F:FrR Γ env own fr ρ m s.heap) (st:Step [] ρ ρ' s s') (R':Rel Γ ρ' σ' s'.heap) (hr:Rd s'.heap ρ' v r) (q:Q r σ'):Post Γ env own fr m ρ s Q v s':=
 ⟨r,σ',ρ',st.wider (fun _ h=>(by cases h)),R',F.mono (st.grow fun _ h=>(by cases h)) (fun a ha o e=>st.keep a o (F.own a ha).1 (fun h=>(by cases h)) e) st.new,hr,q⟩
theorem call_WC {f:Fn} {rs:List V} {vs:List Value} {a:Addr} (hR:RoomB k A) (h:WC Γ k f rs σ Q) (R:Rel Γ ρ σ s.heap) (F:FrR Γ env own fr ρ m s.heap) (ra:RdL s.heap ρ vs rs) (ha:f.At Γ ρ a) :
  wpAny (model Γ.prog Γ.w) A (call (.ref a) vs) (Post Γ env own fr m ρ s Q) E s:=
 wpAny_call (codeAny_mono (h.go A s ρ vs a hR.room R ra ha) fun res s' x=>by
  refine gabs fun gG gK=>?_
  obtain ⟨v,r,σ',ρ',rfl,st,R',hr,q⟩:=x
  refine gK ?_
  exact Post.called F st R' hr q)
theorem new_push (hh:Heap) (C:Addr):(∀ b o,hh.get? b=some o→((hh.push emptyDict).push (instObj C hh.objs.size)).get? b=some o)∧((hh.push emptyDict).push (instObj C hh.objs.size)).get? (hh.objs.size+1)=some (instObj C hh.objs.size)∧((hh.push emptyDict).push (instObj C hh.objs.size)).get? hh.objs.size=some (dictOf [] 0)∧hh.get? (hh.objs.size+1)=none∧hh.get? hh.objs.size=none:=by
 refine ⟨fun b o e=>Heap.get?_push_of_some _ (Heap.get?_push_of_some _ e),?_,Heap.get?_push_of_some _ (Heap.get?_push_size _ rfl),Heap.get?_none_of_le (Nat.le_succ _),push_none _⟩
 have:=Heap.get?_push_size (hh.push emptyDict) (o:=instObj C hh.objs.size) rfl
 rwa [Heap.size_push] at this
theorem new_go {c:Nat} {rs:List V} {vs:List Value} {fi f d:Addr} {s2:Shared} {A':Around} (hR:Room k A') (hc:clsName (sy c)=true) (h:newV Γ k c rs σ Q) (R:Rel Γ ρ σ s.heap) (F:FrR Γ env own fr ρ m s.heap) (ra:RdL s.heap ρ vs rs) (hi:findIn Γ.K (.ref (Γ.cls c)) (sy initId)=some (some (.ref fi)))
  (kp:∀ b o,s.heap.get? b=some o→s2.heap.get? b=some o) (e1:s2.heap.get? f=some (instObj (Γ.cls c) d)) (e2:s2.heap.get? d=some (dictOf [] 0)) (n1:s.heap.get? f=none) (n2:s.heap.get? d=none) (hfd:f≠d) (hg:s2.gens=s.gens) (ho:s2.os=s.os) :
  codeAny (model Γ.prog Γ.w) A' (.call (.ref fi) ⟨.ref f::vs,[]⟩) (fun res s'=>res=.ok (.ret .none)∧Post Γ env own fr m ρ s Q (.ref f) s') s2:=by
 refine gabs fun gG gK=>?_
 obtain ⟨R',g',nw⟩:=R.fresh (sl:=.two f d) (c:=.inst c []) kp (fun a ha=>(Jc0.mp ha).elim (fun q=>q▸⟨n1,_,e1,fun _ _ e=>(by have e:=congrArg Obj.data e;cases e)⟩) fun q=>Ja4.mp q▸⟨n2,_,e2,fun _ _ e=>(by have e:=congrArg Obj.data e;cases e)⟩) (Jb6.mpr ⟨fun q=>hfd (Ja4.mp q),Jb6.mpr ⟨Jc3,Jg8⟩⟩) ⟨hc,e1,[],0,e2,.nil⟩
 refine gK ?_
 have hs:(ρ++[Slot.two f d])[ρ.length]?=some (.two f d):=Jg5
 refine codeAny_mono ((h ρ.length R.unused).go _ s2 (ρ++[.two f d]) (.ref f::vs) fi hR R' (.cons (.loc (sl:=.two f d) hs rfl) (ra.mono g')) hi) fun res s' x=>?_
 refine gabs fun gG gK=>?_
 obtain ⟨v,r,σ',ρ',rfl,st,R2,hr,hn,q⟩:=x
 refine gK ?_
 have st1:Step [] ρ (ρ++[.two f d]) s s2:=⟨⟨_,rfl⟩,nw,fun b o _ _ e=>kp b o e,fun b o e=>⟨o,kp b o e⟩,hg,ho⟩
 have hv:v=Value.none:=by
  cases hr with
  | none=>rfl
  | _=>cases hn
 refine ⟨by rw [hv],Post.called F (st1.trans st) R2 (.loc (l:=ρ.length) (sl:=.two f d) ?_ rfl) q⟩
 obtain ⟨tl,rfl⟩:=st.pre
 exact (Jb4 (Ja3.mp hs).1).trans hs
theorem call_new {c:Nat} {rs:List V} {vs:List Value} (hR:RoomB k A) (hc:clsName (sy c)=true) (h:newV Γ k c rs σ Q) (R:Rel Γ ρ σ s.heap) (F:FrR Γ env own fr ρ m s.heap) (ra:RdL s.heap ρ vs rs) :
  wpAny (model Γ.prog Γ.w) A (call (.ref (Γ.cls c)) vs) (Post Γ env own fr m ρ s Q) E s:=by
 have O:=Γ.clsOk c hc
 have X:Γ.K.In s.heap:=Γ.X.keeps R.base
 refine gabs fun gG gK=>?_
 obtain ⟨fi,hi1,hi2⟩:=Γ.init c hc
 have Y:=makes_of (M:=model Γ.prog Γ.w) X O.makes
 have hi:=looks_findIn (M:=model Γ.prog Γ.w) X hi1
 obtain ⟨hh,g,d,t,os⟩:=s
 refine gK ?_
 refine wpAny_call (make_core Y hi (fun self=>bind_fn X self hi2) (.inl rfl) ?_)
 obtain ⟨kp,e1,e2,n1,n2⟩:=new_push hh (Γ.cls c)
 have room:Room k (A.under (.builtin "type.__call__" ⟨.ref (Γ.cls c)::vs,[]⟩)):=⟨hR.under.1,hR.under.2,hR.2.2⟩
 refine codeAny_mono (new_go (s2:=⟨(hh.push emptyDict).push (instObj (Γ.cls c) hh.objs.size),g,d,t,os⟩) room hc h R F ra ((sy_init▸hi1:findIn _ _ (sy initId)=_)) kp e1 e2 n1 n2 (Nat.succ_ne_self _) rfl rfl) fun res s' x=>?_
 obtain ⟨rfl,p⟩:=x
 exact ⟨rfl,p⟩
end
end
section
section
variable {Γ:Gl} {env:Env} {own:List Addr} {fr:Frees} {m:List (Nat×V)} {ρ:List Slot} {σ:St} {s:Shared} {A:Around} {E:Value→Shared→Prop} {Q:V→St→Prop} {k:Nat} {kd:Kd} {mode:Bool}
theorem args_eval {g:PySem.Expr→Ex} {n:Nat} {pos:Pos} {f:Value} {es:List PySem.Expr} {QL:List V→St→Prop} {P:Args→Shared→Prop} (hes:∀ v∈es,Snd Γ k fr kd v (g v)) (hp:es.all plainArg=true) (hk:∀ x,env.kindOf x=kd x) (h:wpEs (evM (wpE Γ k fr n) false m) (es.map g) σ QL)
  (hR:RoomB k A) (R:Rel Γ ρ σ s.heap) (F:FrR Γ env own fr ρ m s.heap)
  (q:∀ vs s1 rs σ1 ρ1,Step [env.locals] ρ ρ1 s s1→Rel Γ ρ1 σ1 s1.heap→FrR Γ env own fr ρ1 m s1.heap→RdL s1.heap ρ1 vs rs→QL rs σ1→P ⟨vs,[]⟩ s1) :
  wpAny (model Γ.prog Γ.w) A (evalArgs f true (backTo pos (starEach es env)) []) P E s:=
 args_spl hp (spl hk hR hes hp h R F fun vs s' rs σ' ρ' _ st R F rd x=>q vs s' rs σ' ρ' st R F rd x)
theorem kwNil {pos:Pos}:backToKw pos (keywordEach [] env)=[]:=rfl
theorem call_def {g:PySem.Expr→Ex} {n:Nat} {pos:Pos} {f:Fn} {first:List V} {firstv:List Value} {es:List PySem.Expr} {a:Addr} (hes:∀ v∈es,Snd Γ k fr kd v (g v)) (hp:es.all plainArg=true) (hk:∀ x,env.kindOf x=kd x) {QL:List V→St→Prop} (h:wpEs (evM (wpE Γ k fr n) false m) (es.map g) σ QL) (hq:∀ vs σ1,QL vs σ1→fnOk f σ1∧WC Γ k f (first++vs) σ1 Q)
  (hR:RoomB k A) (R:Rel Γ ρ σ s.heap) (F:FrR Γ env own fr ρ m s.heap) (ha:∀ ρ',ρ <+: ρ'→f.At Γ ρ' a) (hkeep:(∀ l,f≠.clos l)→keepIn Γ.K (.ref a)=true) (hf:RdL s.heap ρ firstv first) :
  wpAny (model Γ.prog Γ.w) A (callWith pos (.ref a) firstv (backTo pos (starEach es env)) []) (Post Γ env own fr m ρ s Q) E s:=by
 have hns:=noStar (env:=env) (pos:=pos) hp
 have tail:∀ (P:Heap→Prop),(∀ {ρ1 σ1} {s1:Shared},Rel Γ ρ1 σ1 s1.heap→fnOk f σ1→ρ <+: ρ1→P s1.heap)→wpAny (model Γ.prog Γ.w) A (evalArgs (.ref a) true (backTo pos (starEach es env)) []) (fun x s₁=>P s₁.heap∧wpAny (model Γ.prog Γ.w) A (call (.ref a) (firstv++x.pos) x.kw) (Post Γ env own fr m ρ s Q) E s₁) E s:=fun P hP=>
  args_eval hes hp hk h hR R F fun vs s1 rs σ1 ρ1 st1 R1 F1 rd1 h1=>⟨hP R1 (hq _ _ h1).1 st1.pre,Post.sh st1 (call_WC hR (hq _ _ h1).2 R1 F1 ((hf.mono (st1.grow F.ownLive)).append rd1) (ha _ st1.pre))⟩
 by_cases hc:∃ l,f=.clos l
 ·obtain ⟨l,rfl⟩:=hc
  refine callWith_of (P:=FnAt a) ((Bool.or_false _).trans hns.1) keeps_F (tail _ fun {ρ1 σ1 s1} R1 ok hpre=>?_)
  refine gabs fun gG gK=>?_
  obtain ⟨j,cl,e⟩:=ok
  obtain ⟨sl,e1,e2⟩:=ha ρ1 hpre
  refine gK ?_
  have hc:=R1.cells l _ sl e e1
  cases sl with
  | two b dd=>
   refine gabs fun gG gK=>?_
   obtain ⟨cs,o,_,g,_,fo,_⟩:=hc
   obtain ⟨fd,hd⟩:=Γ.fnData _ _ _ _ fo
   refine gK ?_
   subst e2
   refine gabs fun gG gK=>?_
   obtain ⟨oc,od,odt,osl⟩:=o
   refine gK ?_
   subst hd
   exact ⟨_,_,fd,_,g⟩
  | one _=>exact hc.elim
 ·exact callWith_of (P:=Γ.K.In) ((Bool.or_false _).trans hns.1) (keeps_K (hkeep fun l e=>hc ⟨l,e⟩)) (tail _ fun R1 _ _=>Γ.X.keeps R1.base)
noncomputable def biStr:BI→Str
 | .int=>"int"
 | .len=>"len"
 | .list=>"list"
 | .max=>"max"
 | .sum=>"sum"
 | .tuple=>"tuple"
theorem bi_table:(Je1 nsym).all (fun j=>!biName (sy j) || (match biOf j with | some b=>sy j == biStr b && biNames.contains (sy j) | none=>false))=true:=by decide +kernel
set_option tactic.hygienic true in
theorem biOf_mem {j:Nat} (hj:j<nsym) (h:biName (sy j)=true):∃ b,biOf j=some b∧bootBuiltins (sy j)=some (biVal b)∧biNames.contains (sy j)=true:=by
 have q:=Jb3.mp bi_table j (Ji6.mpr hj)
 rw [h,Bool.not_true,Bool.false_or] at q
 split at q
 ·rename_i b hb
  rw [Jd1] at q
  refine ⟨b,hb,?_,q.2⟩
  rw [eq_of_beq q.1]
  cases b
  ·exact by decide +kernel
  ·exact by decide +kernel
  ·exact by decide +kernel
  ·exact by decide +kernel
  ·exact by decide +kernel
  ·exact by decide +kernel
 ·cases q
theorem callWith_bi {b:BI} {pos:Pos} {args:List (Bool×Sem Value)} {P:Value→Shared→Prop} (hplain:args.any (·.1)=false)
  (h:wpAny (model Γ.prog Γ.w) A (evalArgs (biVal b) true args []) (fun a s₁=>wpAny (model Γ.prog Γ.w) A (call (biVal b) ([]++a.pos) a.kw) P E s₁) E s) :
  wpAny (model Γ.prog Γ.w) A (callWith pos (biVal b) [] args []) P E s:=by
 cases b
 ·exact Ji7 (T:="int") hplain h
 ·exact callWith_builtin (id:="len") hplain h
 ·exact Ji7 (T:="list") hplain h
 ·exact callWith_builtin (id:="max") hplain h
 ·exact callWith_builtin (id:="sum") hplain h
 ·exact Ji7 (T:="tuple") hplain h
theorem S_bi {g:PySem.Expr→Ex} {j:Nat} {p pos:Pos} {es:List PySem.Expr} (hg:kd (sy j)=some .globalImplicit) (e2:j<nsym) (hb:biName (sy j)=true) (hp:es.all plainArg=true) (hes:∀ v∈es,Snd Γ k fr kd v (g v)):Snd Γ k fr kd (.Call (.Name (sy j) p) es [] pos) (.bi j (es.map g)):=.mk (fun _ _ _ _ x=>x) fun env own m n mode σ Q A E s ρ hk h hR R F=>by
 refine fin_plain rfl (PySem.wpAny_Call_Name_kw ?_)
 rw [kwNil]
 obtain ⟨b,hb1,hb2,hb3⟩:=biOf_mem e2 hb
 refine builtin_name R F (by rw [hk];exact hg) hb3 hb2 e2 (callWith_bi (noStar hp).1 ?_)
 have h:match biOf j with | some bi=>wpEs (evM (wpE Γ k fr n) false m) (es.map g) σ (kBi bi mode Q) | none=>False:=h
 rw [hb1] at h
 exact args_eval hes hp hk h hR R F fun vs s1 rs σ1 ρ1 st1 R1 F1 rd1 h1=>Post.sh st1 (op_bi hR h1 R1 F1 rd1)
theorem S_new {g:PySem.Expr→Ex} {j:Nat} {p pos:Pos} {es:List PySem.Expr} (hg:kd (sy j)=some .globalImplicit) (e2:j<nsym) (hc:clsName (sy j)=true) (hp:es.all plainArg=true) (hes:∀ v∈es,Snd Γ k fr kd v (g v)):Snd Γ k fr kd (.Call (.Name (sy j) p) es [] pos) (.new j (es.map g)):=.mk (fun _ _ _ _ x=>x) fun env own m n mode σ Q A E s ρ hk h hR R F=>by
 refine fin_plain rfl (PySem.wpAny_Call_Name_kw ?_)
 rw [kwNil]
 refine global_name R F (by rw [hk];exact hg) (Γ.clsAt j hc).1 ?_ (sy_not_debug e2).1
 exact callWith_of (P:=Γ.K.In) ((Bool.or_false _).trans (noStar hp).1) (keeps_K (Γ.clsAt j hc).2) (args_eval hes hp hk h hR R F fun vs s1 rs σ1 ρ1 st1 R1 F1 rd1 h1=>
  ⟨Γ.X.keeps R1.base,Post.sh st1 (call_new hR hc h1 R1 F1 rd1)⟩)
theorem S_cdef {g:PySem.Expr→Ex} {j:Nat} {p pos:Pos} {es:List PySem.Expr} (hg:kd (sy j)=some .globalImplicit) (e2:j<nsym) (hf:fnNames.contains (sy j)=true) (hp:es.all plainArg=true) (hes:∀ v∈es,Snd Γ k fr kd v (g v)):Snd Γ k fr kd (.Call (.Name (sy j) p) es [] pos) (.call j (es.map g)):=.mk (fun _ _ _ _ x=>x) fun env own m n mode σ Q A E s ρ hk h hR R F=>by
 refine fin_plain rfl (PySem.wpAny_Call_Name_kw ?_)
 rw [kwNil]
 obtain ⟨a,a1,a2⟩:=Γ.fnAt j hf
 exact global_name R F (by rw [hk];exact hg) a1 (call_def (f:=.glob j) (first:=[]) hes hp hk h (fun _ _ x=>⟨trivial,x⟩) hR R F (fun _ _=>a1) (fun _=>a2) .nil) (sy_not_debug e2).1
theorem S_call {g:PySem.Expr→Ex} {x:Str} {p pos:Pos} {es:List PySem.Expr} (hp:es.all plainArg=true) (hes:∀ v∈es,Snd Γ k fr kd v (g v)):Snd Γ k fr kd (.Call (.Name x p) es [] pos) (iB (kd x == some .globalImplicit) (oB (symId x) fun k=>trCall (biName x) (clsName x) (fnNames.contains x) k (es.map g))):=Snd_iB fun hg=>Snd_oB fun j q=>by
 obtain ⟨e1,e2⟩:=symId_sy q
 subst e1
 have hg:=eq_of_beq hg
 cases hb:biName (sy j) with
 | true=>exact S_bi hg e2 hb hp hes
 | false=>
  cases hc:clsName (sy j) with
  | true=>exact S_new hg e2 hc hp hes
  | false=>exact Snd_iB fun hf=>S_cdef hg e2 hf hp hes
theorem shadow_of {n:Nat} {es:List DictEntry} {as:List (Nat×V)} {nn:Nat} {h:Heap} (hn:n<nsym) (x:Ents Γ.w.params h ρ es as) (e:look as n=none):shadowIn (some (dictOf es nn)) (sy n)=some false:=by
 have:=ents_get hn x
 rw [e] at this
 unfold shadowIn
 show ((lookIn (sy n) _).map _)=_
 have h2:lookIn (sy n) (dictOf es nn)=getL (sy n) es:=rfl
 rw [h2,this];rfl
theorem methId_lt {c n:Nat} (h:methOk c n=true):n<nsym∧clsName (sy c)=true:=by
 unfold methOk at h
 rw [Jd1] at h
 constructor
 ·refine gabs fun gG gK=>?_
  obtain ⟨x,hx,e⟩:=Ji5.mp h.2
  refine gK ?_
  rw [← Jb9 e]
  have:methIds.all (fun x=>decide (x<nsym))=true:=by decide +kernel
  simpa using Jb3.mp this x hx
 ·rw [Jb9 h.1];decide +kernel
noncomputable def lmVal:LM→Value
 | .append=>.builtin "list.append"
 | .pop=>.builtin "list.pop"
 | .reverse=>.builtin "list.reverse"
noncomputable def lmAr:LM→Nat→Prop
 | .append,n=>n=1
 | .pop,n=>n≤1
 | .reverse,n=>n=0
noncomputable def MKv (Γ:Gl) (ρ:List Slot) (h:Heap) (n:Nat) (v:Value):MK→Value→List Value→Prop
 | .list l,f,first=>∃ m,lmOf n=some m∧f=lmVal m∧first=[v]∧Rd h ρ v (.loc l)
 | .fn f fs,g,first=>∃ a,g=.ref a∧(∀ ρ',ρ <+: ρ'→f.At Γ ρ' a)∧((∀ l,f≠.clos l)→keepIn Γ.K (.ref a)=true)∧RdL h ρ first fs
theorem lm_sy {n:Nat} {lm:LM} (h:lmOf n=some lm):match lm with | .append=>n=37 | .pop=>n=125 | .reverse=>n=133:=by
 unfold lmOf at h
 split at h
 ·cases h;rename_i e;exact Jb9 e
 ·split at h
  ·cases h;rename_i e;exact Jb9 e
  ·split at h
   ·cases h;rename_i e;exact Jb9 e
   ·cases h
inductive MeC (σ:St) (P:MK→Prop) (n:Nat):V→Prop
 | list (l:Nat) (xs:List V) (e:σ l=some (.list xs)) (h:P (.list l)):MeC σ P n (.loc l)
 | meth (l c:Nat) (as:List (Nat×V)) (e:σ l=some (.inst c as)) (q:look as n=none) (h1:methOk c n=true) (h:P (.fn (.meth c n) [.loc l])):MeC σ P n (.loc l)
 | clos (l c:Nat) (as:List (Nat×V)) (e:σ l=some (.inst c as)) (fl:Nat) (q:look as n=some (.loc fl)) (hf:fieldOk n=true) (h:P (.fn (.clos fl) [])):MeC σ P n (.loc l)
theorem meth_cases {a:V} {n:Nat} {P:MK→Prop} (h:methL a n σ P):MeC σ P n a:=by
 cases a with
 | loc l=>
  obtain ⟨c,e,h⟩:=h
  cases c with
  | list xs=>exact .list l xs e h
  | inst c as=>
   dsimp only at h
   cases q:look as n with
   | none=>rw [q] at h;exact .meth l c as e q h.1 h.2
   | some f=>
    rw [q] at h
    cases f with
    | loc fl=>exact .clos l c as e fl q h.1 h.2
    | _=>exact h.elim
  | _=>exact h.elim
 | _=>exact h.elim
theorem meth_list {a:Addr} {its:Array Value} {nn n:Nat} {lm:LM} {pl:Sem Bool} {QV:Value×List Value→Shared→Prop} (q:lmOf n=some lm) (g:s.heap.get? a=some (listOf its nn)) (hq:QV (lmVal lm,[.ref a]) s):wpAny (model Γ.prog Γ.w) A (getMethod (.ref a) (sy n) pl) QV E s:=by
 have hsy:=lm_sy q
 cases lm with
 | append=>
  rw [show sy n=("append" : Str) from by rw [show n=37 from hsy];decide +kernel]
  exact getMethod_builtin ⟨_,g,rfl⟩ PySem.F.plainAttrs_list PySem.F.slot_list_append PySem.F.type_list_append (fun a e=>by cases e;exact ⟨_,g,rfl⟩) hq
 | pop=>
  rw [show sy n=("pop" : Str) from by rw [show n=125 from hsy];decide +kernel]
  exact getMethod_builtin ⟨_,g,rfl⟩ PySem.F.plainAttrs_list PySem.F.slot_list_pop PySem.F.type_list_pop (fun a e=>by cases e;exact ⟨_,g,rfl⟩) hq
 | reverse=>
  rw [show sy n=("reverse" : Str) from by rw [show n=133 from hsy];decide +kernel]
  exact getMethod_builtin ⟨_,g,rfl⟩ PySem.F.plainAttrs_list PySem.F.slot_list_reverse PySem.F.type_list_reverse (fun a e=>by cases e;exact ⟨_,g,rfl⟩) hq
theorem op_meth {a:V} {n:Nat} {v:Value} {P:MK→Prop} {pl:Sem Bool} {QV:Value×List Value→Shared→Prop} (hn:n<nsym) (h:methL a n σ P) (hlm:∀ l,P (.list l)→(lmOf n).isSome=true) (R:Rel Γ ρ σ s.heap) (ra:Rd s.heap ρ v a)
  (hq:∀ mk f first tk,P mk→MKv Γ ρ s.heap n v mk f first→QV (f,first) { s with toks:=tk }) :
  wpAny (model Γ.prog Γ.w) A (getMethod v (sy n) pl) QV E s:=by
 have X:Γ.K.In s.heap:=Γ.X.keeps R.base
 cases meth_cases h with
 | list l xs e h'=>
  obtain ⟨a,its,nn,rfl,hs,g,r1⟩:=ra.list R e
  obtain ⟨lm,q⟩:=Jg9.mp (hlm l h')
  exact meth_list q g (hq _ _ _ s.toks h' ⟨_,q,rfl,rfl,ra⟩)
 | meth l c as e q h1 h2=>
  obtain ⟨x,d,es,nn,rfl,hs,hc,g1,g2,en⟩:=ra.inst R e
  have O:=Γ.clsOk c hc
  obtain ⟨f,hf⟩:=Γ.methAt c n h1
  obtain ⟨m1,m2⟩:=Γ.meths c n f hc hf
  exact method_fn X (instAt g1 g2) O.ga O.gt hf m1 (shadow_of hn en q) (hq _ _ _ s.toks h2 ⟨f,rfl,fun _ _=>hf,fun _=>m2,.cons ra .nil⟩)
 | clos l c as e fl q hf h2=>
  obtain ⟨x,d,es,nn,rfl,hs,hc,g1,g2,en⟩:=ra.inst R e
  have O:=Γ.clsOk c hc
  refine method_usual X (instAt g1 g2) O.ga O.gt (O.field n hf) rfl ?_
  refine op_attr (Q:=fun r σ'=>r=.loc fl) hf (show attrV (.loc l) n σ (fun r σ'=>r=.loc fl) from ⟨c,as,_,e,q,rfl⟩) R ra fun r x tk hr rx=>?_
  subst hr
  cases rx with
  | loc e1 e2=>exact hq _ _ _ tk h2 ⟨_,rfl,fun ρ' hp=>hp.elim fun t q=>q▸⟨_,(Jb4 (Ja3.mp e1).1).trans e1,e2⟩,fun hne=>absurd rfl (hne fl),.nil⟩
theorem Rd.refOf {h:Heap} {v:Value} {l:Nat} (x:Rd h ρ v (.loc l)):∃ a,v=.ref a:=by cases x;exact ⟨_,rfl⟩
theorem list_nil {l:Nat} {lm:LM} {v f:Value} {pos:Pos} (h:listM l lm [] σ Q) (R:Rel Γ ρ σ s.heap) (F:FrR Γ env own fr ρ m s.heap) (hv:Rd s.heap ρ v (.loc l)) (hf:f=lmVal lm) :
  wpAny (model Γ.prog Γ.w) A (callWith pos f [v] [] []) (Post Γ env own fr m ρ s Q) E s:=by
 obtain ⟨xs,e,hz,h⟩:=h
 obtain ⟨a,its,nn,rfl,hs,g,r1⟩:=hv.list R e
 subst hf
 cases lm with
 | append=>exact h.elim
 | pop=>
  obtain ⟨ys,r,rfl,q⟩:=h
  obtain ⟨u,hu,ru⟩:=r1.get (i:=ys.length) (r:=r) Jg5
  have hsz:its.size - 1=ys.length:=by rw [← Jf0,r1.length,Jb2];rfl
  refine PySem.P.pop_list g (y:=u) (by rw [hsz];simpa using hu) ?_ (small r1 hz)
  refine PostU.post (r:=r) (PostU.list (f:=fun xs=>xs.eraseIdxIfInBounds (its.size - 1)) R F hs g (fun h' gg=>?_) q) (fun _ g'=>ru.mono g') F
  have:=(r1.mono gg).eraseIdx ys.length
  rw [List.eraseIdx_append_of_length_le (Jd7 _),Nat.sub_self] at this
  rw [hsz,Array.toList_eraseIdxIfInBounds]
  have this:RdL h' ρ _ (ys++[]):=this
  rw [Jd3] at this
  exact this
 | reverse=>
  refine PySem.P.reverse_list g ?_ (small r1 hz)
  exact PostU.post (r:=.none) (PostU.list (f:=fun x=>x.reverse) R F hs g (fun h' gg=>by simpa using (r1.mono gg).reverse) h) (fun _ _=>.none) F
theorem pop_int {l:Nat} {r:V} (h:listM l .pop [r] σ Q):∃ xs i r',σ l=some (.list xs)∧xs.length≤10000∧r=.int i∧0≤i∧xs[i.toNat]?=some r'∧Q r' (upd σ l (.list (xs.eraseIdx i.toNat))):=by
 obtain ⟨xs,e,hz,h⟩:=h
 cases r with
 | int i=>
  obtain ⟨h0,r',hr,q⟩:=h
  exact ⟨xs,i,r',e,hz,rfl,h0,hr,q⟩
 | _=>exact h.elim
theorem list_one {l:Nat} {lm:LM} {v f:Value} {pos:Pos} {x:Sem Value} {QL:List V→St→Prop} (hx:∀ {P:Value→Shared→Prop},(∀ u s1 r σ1 ρ1,Step [env.locals] ρ ρ1 s s1→Rel Γ ρ1 σ1 s1.heap→FrR Γ env own fr ρ1 m s1.heap→Rd s1.heap ρ1 u r→QL [r] σ1→P u s1)→wpAny (model Γ.prog Γ.w) A x P E s)
  (hq:∀ vs σ1,QL vs σ1→listM l lm vs σ1 Q) (hlen:lmAr lm 1) (F:FrR Γ env own fr ρ m s.heap) (hv:Rd s.heap ρ v (.loc l)) (hf:f=lmVal lm) :
  wpAny (model Γ.prog Γ.w) A (callWith pos f [v] [(false,x)] []) (Post Γ env own fr m ρ s Q) E s:=by
 subst hf
 obtain ⟨a,rfl⟩:=hv.refOf
 cases lm with
 | append=>
  refine PySem.P.append_list (x:=x) (hx fun u s1 r σ1 ρ1 st1 R1 F1 rd1 h1=>?_)
  refine gabs fun gG gK=>?_
  obtain ⟨xs,e,hz,h⟩:=hq _ _ h1
  obtain ⟨a',its,nn,e0,hs,g,r1⟩:=(hv.mono (st1.grow F.ownLive)).list R1 e
  refine gK ?_
  cases e0
  exact ⟨its,nn,small r1 hz,g,Post.trans st1 (PostU.post (r:=.none) (PostU.list (f:=fun x=>x.push u) R1 F1 hs g (fun h' gg=>by simpa using (r1.mono gg).append (.cons (rd1.mono gg) .nil)) h) (fun _ _=>.none) F1)⟩
 | pop=>
  refine PySem.P.pop_at_list (x:=x) (hx fun u s1 r σ1 ρ1 st1 R1 F1 rd1 h1=>?_)
  refine gabs fun gG gK=>?_
  obtain ⟨xs,i,r',e,hz,rfl,h0,hr,q⟩:=pop_int (hq _ _ h1)
  obtain ⟨t,rfl⟩:=rd1.intOf
  obtain ⟨a',its,nn,e0,hs,g,r1⟩:=(hv.mono (st1.grow F.ownLive)).list R1 e
  obtain ⟨u,hu,ru⟩:=r1.get hr
  refine gK ?_
  cases e0
  have hlt:i.toNat<its.size:=by rw [← Jf0,r1.length];exact (Ja3.mp hr).1
  refine ⟨its,nn,i,t,i.toNat,u,small r1 hz,rfl,g,fitsIndex_of h0 (Int.lt_of_lt_of_le ((Int.toNat_lt h0).mp (Jc8 hlt (len_le r1 hz))) (by decide)),seq_of i (if_neg (Int.not_lt.mpr h0)) h0 (Jg7 h0▸Jc1.mpr hlt),by simpa using hu,?_⟩
  exact Post.trans st1 (PostU.post (r:=r') (PostU.list (f:=fun xs=>xs.eraseIdxIfInBounds i.toNat) R1 F1 hs g (fun h' gg=>Array.toList_eraseIdxIfInBounds.symm▸(r1.mono gg).eraseIdx i.toNat) q) (fun _ gg=>ru.mono gg) F1)
 | reverse=>exact absurd hlen (by simp [lmAr])
theorem call_list {gg:PySem.Expr→Ex} {n:Nat} {pos:Pos} {l:Nat} {lm:LM} {v f:Value} {es:List PySem.Expr} {QL:List V→St→Prop} (hes:∀ v∈es,Snd Γ k fr kd v (gg v)) (hp:es.all plainArg=true) (hk:∀ x,env.kindOf x=kd x) (h:wpEs (evM (wpE Γ k fr n) false m) (es.map gg) σ QL)
  (hq:∀ vs σ1,QL vs σ1→listM l lm vs σ1 Q) (hlen:lmAr lm es.length)
  (hR:RoomB k A) (R:Rel Γ ρ σ s.heap) (F:FrR Γ env own fr ρ m s.heap) (hv:Rd s.heap ρ v (.loc l)) (hf:f=lmVal lm) :
  wpAny (model Γ.prog Γ.w) A (callWith pos f [v] (backTo pos (starEach es env)) []) (Post Γ env own fr m ρ s Q) E s:=by
 cases es with
 | nil=>exact list_nil (hq _ _ h) R F hv hf
 | cons x es=>
  cases es with
  | nil=>
   rw [starEach_plain ((Jd1 _ _).mp hp).1]
   exact list_one (fun q=>(hes x (.head _)).run hk (show wpE Γ k fr n false (gg x) m σ fun v σ1=>QL [v] σ1 from h) hR R F fun u s1 r σ1 ρ1 st R1 F1 rd h1=>q u s1 r σ1 ρ1 st R1 F1 rd h1) hq hlen F hv hf
  | cons _ _=>cases lm <;> simp [lmAr] at hlen
theorem few {es:List PySem.Expr} {pos:Pos} {n:Nat} (hp:es.all plainArg=true) (h:n<30):methodCallForm n (backTo pos (starEach es env)) []=true:=by
 show ((_ && true) && decide (n+0<30))=true
 rw [(noStar hp).2];exact decide_eq_true h
theorem S_meth {g:PySem.Expr→Ex} {o:PySem.Expr} {j:Nat} {apos pos:Pos} {es:List PySem.Expr} {a:Ex} (e2:j<nsym) (hs:isSuper o=false) (hp:es.all plainArg=true) (hline:(apos.endLine == pos.line)=true) (hcount:es.length<20) (ho:Snd Γ k fr kd o a) (hes:∀ v∈es,Snd Γ k fr kd v (g v)):Snd Γ k fr kd (.Call (.Attribute o (sy j) apos) es [] pos) (.meth a j (es.map g)):=.mk (fun _ _ _ _ x=>x) fun env own m n mode σ Q A E s ρ hk h hR R F=>by
 refine fin_plain rfl ?_
 rw [arm_eval_Call,attrBase hs]
 refine wpAny_bind (ho.run hk h hR R F fun u s1 r1 σ1 ρ1 st1 R1 F1 rd1 h1=>wpAny_bind (wpAny_standAt ?_))
 have hform:methodCallForm (es.length+([]:List Keyword).length) (backTo pos (starEach es env)) (backToKw pos (keywordEach [] env))=true:=few hp (Nat.lt_trans hcount (by decide))
 have hpos:methodCallPos true o env apos pos=pure pos:=by unfold methodCallPos;simp [hline]
 unfold methodCall
 rw [hform]
 refine wpAny_bind (wpAny_holding ?_)
 show wpAny _ _ (getMethod u (sy j) _) _ _ _
 refine op_meth e2 h1 (fun l hl=>?_) R1 rd1 fun mk f first tk hmk hv=>?_
 ·have hl:=hl.1
  unfold arOk at hl
  dsimp only at hl
  cases q:lmOf j with
  | none=>rw [q] at hl;exact hl.elim
  | some _=>rfl
 obtain ⟨har,hmk⟩:=hmk
 refine wpAny_bind (wpAny_of_eq hpos ?_)
 rw [kwNil]
 have R2:Rel Γ ρ1 σ1 ({ s1 with toks:=tk }:Shared).heap:=R1
 have F2:FrR Γ env own fr ρ1 m ({ s1 with toks:=tk }:Shared).heap:=F1
 have st2:Step [env.locals] ρ ρ1 s { s1 with toks:=tk }:=⟨st1.pre,st1.new,st1.keep,st1.dom,st1.gens,st1.os⟩
 refine Post.sh st2 ?_
 cases mk with
 | list l=>
  obtain ⟨lm,q,hf,rfl,hu⟩:=hv
  refine call_list (Q:=fin mode Q) hes hp hk hmk (fun vs σ2 x=>?_) ?_ hR R2 F2 hu hf
  ·have x:match lmOf j with | some m=>listM l m vs σ2 (fin mode Q) | none=>False:=x
   rw [q] at x
   exact x
  ·have har:match lmOf j with | some .append=>(es.map g).length=1 | some .pop=>(es.map g).length≤1 | some .reverse=>(es.map g).length=0 | none=>False:=har
   rw [q,Ja2] at har
   cases lm <;> exact har
 | fn f' fs=>
  obtain ⟨a,rfl,h3,h4,h5⟩:=hv
  exact call_def (Q:=fin mode Q) hes hp hk hmk (fun vs σ2 x=>x) hR R2 F2 h3 h4 h5
end
end
section
section
variable {Γ:Gl} {env:Env} {own:List Addr} {fr:Frees} {m:List (Nat×V)} {ρ ρ':List Slot} {σ:St} {h h':Heap} {C:Addr}
theorem Grow.out (k:∀ b o,b≠C→h.get? b=some o→h'.get? b=some o) (nt:∀ o,h.get? C=some o→NT o):Grow h ρ h' ρ:=
 ⟨Jf7,fun a its n e nf=>⟨k _ _ (fun q=>by subst q;exact nt _ e _ _ rfl) e,nf⟩⟩
theorem Rel.out (R:Rel Γ ρ σ h) (k:∀ b o,b≠C→h.get? b=some o→h'.get? b=some o) (nf:C∉foot ρ) (n0:Γ.h₀.get? C=none) (nt:∀ o,h.get? C=some o→NT o):Rel Γ ρ σ h' where
 base:=fun b o e=>k _ _ (fun q=>by subst q;rw [n0] at e;cases e) (R.base b o e)
 nd:=R.nd
 old:=R.old
 live:=fun a ha=>let ⟨o,e,c⟩:=R.live a ha;⟨o,k _ _ (fun q=>nf (q▸ha)) e,c⟩
 dom:=R.dom
 cells:=fun l c sl h1 h2=>(R.cells l c sl h1 h2).mono (Grow.out k nt) fun a ha o e=>k _ _ (fun q=>nf (q▸mem_foot (Ja9 h2) ha)) e
theorem FrR.out (F:FrR Γ env own fr ρ m h) (k:∀ b o,b≠C→h.get? b=some o→h'.get? b=some o) (no:C∉own) (nt:∀ o,h.get? C=some o→NT o):FrR Γ env own fr ρ m h':=
 F.mono (Grow.out k nt) (fun a ha o e=>k _ _ (fun q=>no (q▸ha)) e) fun _ h=>.inl h
theorem Step.out {own:List Addr} {s s' s'':Shared} (x:Step own ρ ρ' s s') (n:s.heap.get? C=none) (k:∀ b o,b≠C→s'.heap.get? b=some o→s''.heap.get? b=some o) (hg:s''.gens=s'.gens:=by rfl) (ho:s''.os=s'.os:=by rfl):Step own ρ ρ' s s'' where
 pre:=x.pre
 new:=x.new
 keep:=fun b o h1 h2 e=>k _ _ (fun q=>by subst q;rw [n] at e;cases e) (x.keep b o h1 h2 e)
 dom:=fun b o e=>by obtain ⟨o',e'⟩:=x.dom b o e;exact ⟨o',k _ _ (fun q=>by subst q;rw [n] at e;cases e) e'⟩
 gens:=hg.trans x.gens
 os:=ho.trans x.os
theorem Step.join {own own':List Addr} {ρ'':List Slot} {s s' s'':Shared} (x:Step own ρ ρ' s s') (y:Step own' ρ' ρ'' s' s'') (n:∀ a∈own',s.heap.get? a=none):Step own ρ ρ'' s s'' where
 pre:=x.pre.trans y.pre
 new:=fun a ha=>by
  rcases y.new a ha with h | h
  ·exact x.new a h
  ·right
   cases q:s.heap.get? a with
   | none=>rfl
   | some o=>obtain ⟨o',e⟩:=x.dom a o q;rw [h] at e;cases e
 keep:=fun b o h1 h2 e=>y.keep b o (fun hb=>by rcases x.new b hb with q | q;exact h1 q;rw [e] at q;cases q) (fun hb=>by rw [n b hb] at e;cases e) (x.keep b o h1 h2 e)
 dom:=fun b o e=>by obtain ⟨o',e'⟩:=x.dom b o e;exact y.dom b o' e'
 gens:=y.gens.trans x.gens
 os:=y.os.trans x.os
end
inductive Src where
 | list (l:Nat) (xs:List V)
 | tup (xs:List V)
 | range (n:Nat)
noncomputable def Src.items:Src→List V
 | .list _ xs=>xs
 | .tup xs=>xs
 | .range n=>upTo n
noncomputable def Src.ok:Src→St→Prop
 | .list l xs=>fun σ=>σ l=some (.list xs)
 | _=>fun _=>True
noncomputable def ItAt (ρ:List Slot) (h:Heap) (it:Addr):Src→Nat→Prop
 | .list l xs,i=>xs.length≤10000∧∃ a,ρ[l]?=some (.one a)∧h.IsListIter it a i
 | .tup xs,i=>∃ t its n,h.get? t=some (tupObj its.toArray n)∧t∉foot ρ∧RdL h ρ its xs∧h.IsTupleIter it t i
 | .range n,i=>IsRangeIter h it i ((n:Int) - i) 1
theorem ItAt.nt {ρ:List Slot} {h:Heap} {it:Addr} {src:Src} {i:Nat} (x:ItAt ρ h it src i):∃ o,h.get? it=some o∧NT o:=by
 cases src with
 | list l xs=>obtain ⟨_,a,_,o,e,c,_⟩:=x;exact ⟨o,e,nt_cls c⟩
 | tup xs=>obtain ⟨t,its,n,_,_,_,o,e,c,_⟩:=x;exact ⟨o,e,nt_cls c⟩
 | range n=>exact ⟨_,x,nt_cls rfl⟩
theorem ItAt.mono {ρ ρ':List Slot} {h h':Heap} {it:Addr} {src:Src} {i:Nat} (x:ItAt ρ h it src i) (g:Grow h ρ h' ρ') (k:∀ o,h.get? it=some o→h'.get? it=some o):ItAt ρ' h' it src i:=by
 cases src with
 | list l xs=>
  refine gabs fun gG gK=>?_
  obtain ⟨hz,a,e1,o,e,c,d⟩:=x
  refine gK ?_
  refine ⟨hz,a,?_,o,k _ e,c,d⟩
  obtain ⟨r,rfl⟩:=g.pre
  rw [Jb4 (Ja3.mp e1).1];exact e1
 | tup xs=>
  refine gabs fun gG gK=>?_
  obtain ⟨t,its,n,e1,e2,r,o,e,c,d⟩:=x
  obtain ⟨q1,q2⟩:=g.tups _ _ _ e1 e2
  refine gK ?_
  exact ⟨t,its,n,q1,q2,r.mono g,o,k _ e,c,d⟩
 | range n=>exact k _ x
section
variable {Γ:Gl} {env:Env} {own:List Addr} {fr:Frees} {m:List (Nat×V)} {ρ:List Slot} {σ:St} {s:Shared} {A:Around} {E:Value→Shared→Prop} {Q:V→St→Prop} {k:Nat} {kd:Kd} {mode:Bool} {it:Addr} {src:Src} {i:Nat}
theorem upTo_get (n i:Nat):(upTo n)[i]?=if i<n then some (.int i) else none:=by
 unfold upTo
 by_cases h:i<n
 ·rw [Ja8,List.getElem?_range h,if_pos h];rfl
 ·rw [if_neg h];simp;lia
theorem op_next_item {x:V} {QV:Option Value→Shared→Prop} (hit:ItAt ρ s.heap it src i) (hx:src.items[i]?=some x) (ok:src.ok σ) (R:Rel Γ ρ σ s.heap) (nf:it∉foot ρ)
  (hq:∀ h' tk v,Heap.SameBut it s.heap h'→ItAt ρ h' it src (i+1)→Rd s.heap ρ v x→QV (some v) { s with heap:=h',toks:=tk }) :
  wpAny (model Γ.prog Γ.w) A (pyNext (.ref it)) QV E s:=by
 refine gabs fun gG gK=>?_
 obtain ⟨oi,ei,nti⟩:=hit.nt
 refine gK ?_
 cases src with
 | list l xs=>
  refine gabs fun gG gK=>?_
  obtain ⟨hz,a,e1,hi⟩:=hit
  obtain ⟨its,n,g,r⟩:=R.cells l _ _ ok e1
  obtain ⟨v,hv,rv⟩:=r.get hx
  refine gK ?_
  refine wpAny_pyNext_list_item hi ⟨_,g,rfl,_,rfl⟩ (by simpa using hv) fun h' hi' hs=>hq h' s.toks v hs ⟨hz,a,e1,hi'⟩ rv
 | tup xs=>
  refine gabs fun gG gK=>?_
  obtain ⟨t,its,n,g,nt,r,hi⟩:=hit
  obtain ⟨v,hv,rv⟩:=r.get hx
  refine gK ?_
  have hne:t≠it:=fun q=>by subst q;rw [g] at ei;cases ei;exact nti _ _ rfl
  refine wpAny_pyNext_tuple_item hi ⟨_,g,rfl,_,rfl⟩ (by simpa using hv) fun h' hi' hs=>hq h' s.toks v hs ⟨t,its,n,(hs.2 t hne).trans g,nt,r.mono (Grow.out (C:=it) (fun b o nb e=>(hs.2 b nb).trans e) fun o e=>by rw [ei] at e;cases e;exact nti),hi'⟩ rv
 | range n=>
  have hx':(upTo n)[i]?=some x:=hx
  rw [upTo_get] at hx'
  split at hx'
  ·cases hx'
   refine wpAny_pyNext_range_item hit (by lia) fun h' hi' hs=>hq h' _ _ hs ?_ (.int _ _)
   show IsRangeIter h' it ((i+1:Nat):Int) ((n:Int) - ((i+1:Nat):Int)) 1
   have e1:((i+1:Nat):Int)=(i:Int)+1:=by lia
   have e2:(n:Int) - ((i+1:Nat):Int)=(n:Int) - i - 1:=by lia
   rw [e2,e1];exact hi'
  ·cases hx'
theorem op_next_end {QV:Option Value→Shared→Prop} (hh:A.handled=none) (hit:ItAt ρ s.heap it src i) (hx:src.items[i]?=none) (ok:src.ok σ) (R:Rel Γ ρ σ s.heap)
  (hq:∀ h',Heap.ExtBut it s.heap h'→QV none { s with heap:=h' }):wpAny (model Γ.prog Γ.w) A (pyNext (.ref it)) QV E s:=by
 cases src with
 | list l xs=>
  refine gabs fun gG gK=>?_
  obtain ⟨hz,a,e1,hi⟩:=hit
  obtain ⟨its,n,g,r⟩:=R.cells l _ _ ok e1
  refine gK ?_
  have hl:=r.length
  rw [Jf0] at hl
  refine wpAny_pyNext_list_end hh hi ⟨_,g,rfl,_,rfl⟩ ?_ hq
  have:xs.length≤i:=List.getElem?_eq_none_iff.mp hx
  simp;lia
 | tup xs=>
  refine gabs fun gG gK=>?_
  obtain ⟨t,its,n,g,nt,r,hi⟩:=hit
  refine gK ?_
  have hl:=r.length
  refine wpAny_pyNext_tuple_end hh hi ⟨_,g,rfl,_,rfl⟩ ?_ hq
  have:xs.length≤i:=List.getElem?_eq_none_iff.mp hx
  simp;lia
 | range n=>
  have hx':(upTo n)[i]?=none:=hx
  rw [upTo_get] at hx'
  split at hx'
  ·cases hx'
  ·exact wpAny_pyNext_range_end hh hit (by lia) hq
theorem op_self {QV:Value→Shared→Prop} (hit:ItAt ρ s.heap it src i) (hq:QV (.ref it) s):wpAny (model Γ.prog Γ.w) A (pyIter (.ref it)) QV E s:=by
 cases src with
 | list l xs=>obtain ⟨hz,a,e1,hi⟩:=hit;exact wpAny_pyIter_listiter hi hq
 | tup xs=>obtain ⟨t,its,n,g,nt,r,hi⟩:=hit;exact wpAny_pyIter_tupleiter hi hq
 | range n=>exact wpAny_pyIter_rangeiter hit hq
inductive ItNew (Γ:Gl) (env:Env) (own:List Addr) (fr:Frees) (m:List (Nat×V)) (ρ:List Slot) (s:Shared) (QI:List V→(St→Prop)→St→Prop) (v:Value) (s':Shared):Prop
 | intro (it:Addr) (src:Src) (σ':St) (ρ':List Slot) (e:v=.ref it) (st:Step [env.locals] ρ ρ' s s') (R:Rel Γ ρ' σ' s'.heap) (F:FrR Γ env own fr ρ' m s'.heap) (a:ItAt ρ' s'.heap it src 0) (n:s.heap.get? it=none) (f:it∉foot ρ') (o:it∉own) (l:Γ.h₀.objs.size≤it) (q:QI src.items src.ok σ'):ItNew Γ env own fr m ρ s QI v s'
theorem ItNew.mk {QI:List V→(St→Prop)→St→Prop} {ρ1:List Slot} {s1 s2:Shared} (st:Step [env.locals] ρ ρ1 s s1) (R:Rel Γ ρ1 σ s1.heap) (F:FrR Γ env own fr ρ1 m s1.heap) {o:Obj} (hs2:s2.heap=s1.heap.push o) (hg:s2.gens=s1.gens) (ho:s2.os=s1.os)
  (hit:ItAt ρ1 s2.heap s1.heap.objs.size src 0) (q:QI src.items src.ok σ):ItNew Γ env own fr m ρ s QI (.ref s1.heap.objs.size) s2:=by
 have k:∀ b o,s1.heap.get? b=some o→s2.heap.get? b=some o:=fun b o e=>by rw [hs2];exact Heap.get?_push_of_some _ e
 have hn:=push_none s1.heap
 refine ⟨_,src,σ,ρ1,rfl,st.trans (Step.of_keeps k hg ho),R.keeps k,F.keeps k,hit,?_,fun hf=>?_,fun hf=>?_,?_,q⟩
 ·cases e:s.heap.get? s1.heap.objs.size with
  | none=>rfl
  | some o=>obtain ⟨o',e'⟩:=st.dom _ _ e;rw [hn] at e';cases e'
 ·obtain ⟨o',e,_⟩:=R.live _ hf;rw [hn] at e;cases e
 ·obtain ⟨_,_,o',e,_⟩:=F.own _ hf;rw [hn] at e;cases e
 ·refine gabs fun gG gK=>?_
  obtain ⟨_,h1,o',e,_⟩:=F.own _ F.me
  refine gK ?_
  exact Jc4 (Jc9 h1 (Heap.lt_size e))
theorem op_iter {a:V} {v:Value} {QI:List V→(St→Prop)→St→Prop} {ρ1:List Slot} {s1:Shared} (h:iterV false a σ fun xs src=>QI xs src σ) (st:Step [env.locals] ρ ρ1 s s1) (R:Rel Γ ρ1 σ s1.heap) (F:FrR Γ env own fr ρ1 m s1.heap) (ra:Rd s1.heap ρ1 v a) :
  wpAny (model Γ.prog Γ.w) A (pyIter v) (ItNew Γ env own fr m ρ s QI) E s1:=by
 cases a with
 | tup xs=>
  refine gabs fun gG gK=>?_
  obtain ⟨t,its,n,rfl,g,nf,r⟩:=ra.tupOf
  refine gK ?_
  refine wpAny_pyIter_tuple ⟨_,g,rfl,_,rfl⟩ ?_
  refine ItNew.mk (src:=.tup xs) st R F rfl rfl rfl ⟨t,its,n,Heap.get?_push_of_some _ g,nf,r.mono (Grow.of_keeps fun b o e=>Heap.get?_push_of_some _ e),_,Heap.get?_push_size _ rfl,rfl,rfl⟩ h
 | loc l=>
  refine gabs fun gG gK=>?_
  obtain ⟨xs,e,hz,q⟩:=h
  obtain ⟨c,its,n,rfl,hs,g,r⟩:=ra.list R e
  refine gK ?_
  refine wpAny_pyIter_list ⟨_,g,rfl,_,rfl⟩ ?_
  exact ItNew.mk (src:=.list l xs) st R F rfl rfl rfl ⟨hz,c,hs,_,Heap.get?_push_size _ rfl,rfl,rfl⟩ q
 | _=>exact h.elim
theorem range_name {f:Str} {o e:PySem.Expr} (h:(if f == ("range" : Str) && kd f == some .globalImplicit then some o else none)=some e):o=e∧f = "range"∧kd "range" = some .globalImplicit:=by
 by_cases hc:(f == ("range" : Str) && kd f == some .globalImplicit)=true
 ·rw [if_pos hc] at h
  obtain ⟨h1,h2⟩:=(Jd1 _ _).mp hc
  cases (eq_of_beq h1:f = "range")
  exact ⟨Jb7 h,rfl,eq_of_beq h2⟩
 ·rw [if_neg hc] at h;cases h
theorem range_no {e:PySem.Expr} (h:Jc5 e.ctorIdx 16=false):rangeOf? kd e=none:=by
 cases e <;> first | rfl | exact tf h
theorem range_no2 {e:PySem.Expr} {as:List PySem.Expr} {ks:List Keyword} {p:Pos} (h:Jc5 e.ctorIdx 23=false):rangeOf? kd (.Call e as ks p)=none:=by
 cases e <;> first | rfl | exact tf h
theorem rangeOf_eq {iter e:PySem.Expr} (h:rangeOf? kd iter=some e):∃ p pos,iter=.Call (.Name "range" p) [e] [] pos∧kd "range" = some .globalImplicit:=by
 cases h1:Jc5 iter.ctorIdx 16 with
 | false=>rw [range_no h1] at h;cases h
 | true=>
  obtain ⟨f,as,ks,q,rfl⟩:=isCall_eq h1
  cases h2:Jc5 f.ctorIdx 23 with
  | false=>rw [range_no2 h2] at h;cases h
  | true=>
   obtain ⟨x,p,rfl⟩:=isName_eq h2
   cases as with
   | nil=>cases h
   | cons a r=>
    cases r with
    | nil=>
     cases ks with
     | nil=>obtain ⟨rfl,rfl,h3⟩:=range_name h;exact ⟨_,_,rfl,h3⟩
     | cons _ _=>cases h
    | cons _ _=>cases h
noncomputable def rangeId:Nat:=200
theorem sy_range:sy rangeId=("range" : Str):=by decide +kernel
theorem isStar_eq {e:PySem.Expr} (h:Jc5 e.ctorIdx 22=true):∃ a p,e=.Starred a p:=by
 cases e with
 | Starred a p=>exact ⟨a,p,rfl⟩
 | _=>exact ft h
theorem trE_plain {n:Nat} {kd:Kd} {e:PySem.Expr} (hp:plainArg e=false):trE n kd e=.bad:=by
 obtain ⟨a,p,rfl⟩:=isStar_eq ((Jh5 _).mp hp)
 cases n <;> rfl
theorem head_iter {iter e:PySem.Expr} {rng:Bool} {ce:Ex} {n':Nat} {QI:List V→(St→Prop)→St→Prop} (he:(rng=true∧rangeOf? kd iter=some e)∨(rng=false∧e=iter)) (hs:Snd Γ k fr kd e ce) (hb:plainArg e=false→ce=.bad) (hk:∀ x,env.kindOf x=kd x)
  (h:wpE Γ k fr n' false ce m σ fun v σ1=>iterV rng v σ1 fun xs src=>QI xs src σ1) (hR:RoomB k A) (R:Rel Γ ρ σ s.heap) (F:FrR Γ env own fr ρ m s.heap) :
  wpAny (model Γ.prog Γ.w) A (eval iter env) (fun x s1=>wpAny (model Γ.prog Γ.w) A (pyIter x) (ItNew Γ env own fr m ρ s QI) E s1) E s:=by
 rcases he with ⟨rfl,he⟩ | ⟨rfl,rfl⟩
 ·obtain ⟨p,pos,rfl,hkr⟩:=rangeOf_eq he
  refine PySem.wpAny_Call_Name_kw ?_
  rw [kwNil]
  have hx:env.kindOf (sy rangeId)=some .globalImplicit:=by rw [sy_range,hk];exact hkr
  have hgo:=builtin_name (A:=A) (E:=E) (pos:=p) (v:=.type "range") R F hx (by decide +kernel) (by decide +kernel) (by decide +kernel) (P:=fun f s₁=>wpAny (model Γ.prog Γ.w) A (callWith pos f [] (backTo pos (starEach [e] env)) []) (fun x s1=>wpAny (model Γ.prog Γ.w) A (pyIter x) (ItNew Γ env own fr m ρ s QI) E s1) E s₁) ?_
  ·rw [sy_range] at hgo;exact hgo
  ·cases hp:plainArg e with
   | true=>
    have hp':[e].all plainArg=true:=by simpa using hp
    refine Ji7 (noStar hp').1 (args_eval (QL:=fun vs σ1=>match vs with | [v]=>iterV true v σ1 fun xs src=>QI xs src σ1 | _=>False) (es:=[e]) (g:=fun _=>ce) (fun v hv=>by simp at hv;subst hv;exact hs) hp' hk (n:=n') h hR R F fun vs s1 rs σ1 ρ1 st1 R1 F1 rd1 h1=>?_)
    cases rd1 with
    | nil=>exact h1.elim
    | @cons _ _ v _ a b=>
     cases b with
     | cons _ _=>exact h1.elim
     | nil=>?_
     cases a with
     | int j t=>
      obtain ⟨hj,q⟩:=h1
      refine call_range_1 ?_
      have kp:∀ b o,s1.heap.get? b=some o→(s1.heap.push { cls:=.type "range",data:=.fields #[.int 0 s1.toks,.int j t,.int 1 (s1.toks+1)] }).get? b=some o:=fun b o e=>Heap.get?_push_of_some _ e
      refine wpAny_pyIter_range (IsRange.new ..) (small_one (by lia) (by lia) (by lia) (by lia)) ?_
      refine ItNew.mk (src:=.range j.toNat) (s1:={ s1 with heap:=s1.heap.push _,toks:=s1.toks+1+1 }) (st1.trans (Step.of_keeps kp rfl rfl)) (R1.keeps kp) (F1.keeps kp) rfl rfl rfl ?_ q
      have e:Builtin.Range.rangeSize 0 j 1=((j.toNat:Nat):Int):=by rw [rangeSize_one];split <;> lia
      show IsRangeIter _ _ ((0:Nat):Int) ((j.toNat:Int) - ((0:Nat):Int)) 1
      have e2:((j.toNat:Int) - ((0:Nat):Int))=Builtin.Range.rangeSize 0 j 1:=by rw [e];simp
      rw [e2]
      exact Heap.get?_push_size _ rfl
     | _=>exact h1.elim
   | false=>rw [hb hp] at h;cases n' <;> exact h.elim
 ·exact hs.run hk h hR R F fun v s1 r1 σ1 ρ1 st1 R1 F1 rd1 h1=>op_iter h1 st1 R1 F1 rd1
end
end
section
theorem append_exact {prog:Program} {w:World} {A:Around} {E:Value→Shared→Prop} {s:Shared} {l:Addr} {items:Array Value} {n:Nat} {x:Value} {Q:Value→Shared→Prop} (hl:s.heap.get? l=some (listOf items n))
  (hQ:Q .none { s with heap:=s.heap.update l (Obj.mapSeq fun xs=>xs.push x) }) (hsz:items.size≤sizeLine:=by size_fits) :
  wpAny (model prog w) A (call (.builtin "list.append") [.ref l,x]) Q E s:=by
 have hl':s.heap.IsList l items:=⟨_,hl,rfl,_,rfl⟩
 refine wpAny_call_entry PySem.slot_list_append hl'.typeIs PySem.entry_list_append ?_ (PySem.args_list_append _ _)
 show wpAny _ _ (updateSeq l (·.push x) >>= fun _=>ret .none) _ _ s
 exact wpAny_bind (wpAny_updateSeq hl rfl (wpAny_pure ⟨.none,rfl,hQ⟩))
theorem clos_go (env:Env) {f:Str×NameKind→List (Str×Addr)→Sem (ForInStep (List (Str×Addr)))}
  (hf:∀ n k cs,f (n,k) cs=if (k == NameKind.free)=true then cellOf env n >>= fun a=>pure (.yield ((n,a)::cs)) else pure (.yield cs))
  (names:List (Str×NameKind)) (cs:List (Str×Addr)) (hn:∀ y∈names,y.2=.free→∃ c,env.cells.lookup y.1=some c) (hc:∀ z c,cs.lookup z=some c→env.cells.lookup z=some c) :
   ∃ cl,(forIn names cs f:Sem _)=pure cl∧(∀ z c,cl.lookup z=some c→env.cells.lookup z=some c)∧(∀ z,(z,NameKind.free)∈names→(cl.lookup z).isSome=true)∧∀ z,(cs.lookup z).isSome=true→(cl.lookup z).isSome=true:=by
 induction names generalizing cs with
 | nil=>exact ⟨cs,rfl,hc,fun z h=>(by cases h),fun _ h=>h⟩
 | cons p r ih=>
  obtain ⟨n,kk⟩:=p
  have hn':=fun y hy=>hn y (List.Mem.tail _ hy)
  rw [List.forIn_cons,hf]
  by_cases hk:kk=.free
  ·obtain ⟨a,ha⟩:=hn (n,kk) (.head _) hk
   obtain ⟨cl,e1,e2,e3,e4⟩:=ih ((n,a)::cs) hn' fun z c hz=>by
    rw [List.lookup_cons] at hz
    cases hb:z == n with
    | true=>rw [hb] at hz;cases hz;rw [eq_of_beq hb];exact ha
    | false=>rw [hb] at hz;exact hc z c hz
   have g:∀ z,z=n∨(cs.lookup z).isSome=true→(((n,a)::cs).lookup z).isSome=true:=fun z hz=>by
    rw [List.lookup_cons]
    cases hb:z == n with
    | true=>rfl
    | false=>exact hz.elim (fun q=>by rw [q,beq_self_eq_true] at hb;cases hb) id
   rw [if_pos (by rw [hk];rfl),show cellOf env n=pure a from by unfold cellOf;rw [ha],pure_bind,pure_bind]
   exact ⟨cl,e1,e2,fun z hz=>(Jc0.mp hz).elim (fun q=>e4 z (g z (.inl (congrArg Prod.fst q)))) (e3 z),fun z hz=>e4 z (g z (.inr hz))⟩
  ·obtain ⟨cl,e1,e2,e3,e4⟩:=ih cs hn' hc
   rw [if_neg (by simpa using hk),pure_bind]
   exact ⟨cl,e1,e2,fun z hz=>(Jc0.mp hz).elim (fun q=>absurd (congrArg Prod.snd q).symm hk) (e3 z),e4⟩
theorem sy_big {z:Nat} (h:¬ z<nsym):sy z=⟨#[]⟩:=by
 unfold sy;rw [Ja6,Jf5 (by unfold nsym at h;lia)];rfl
theorem sy_ne {x:Nat} (h:x<nsym):sy x≠⟨#[]⟩:=by
 have:syms.all (fun s=>s != ⟨#[]⟩)=true:=by decide +kernel
 have h2:=Jb3.mp this (sy x) (by unfold sy;rw [Ja6,Ja5 h];exact Jc7 h)
 simpa using h2
theorem sy_ne0 (j:Nat):sy j≠(".0" : Str):=by
 by_cases h:j<nsym
 ·have:syms.all (fun s=>s != (".0" : Str))=true:=by decide +kernel
  have h2:=Jb3.mp this (sy j) (by unfold sy;rw [Ja6,Ja5 h];exact Jc7 h)
  simpa using h2
 ·rw [sy_big h];decide +kernel
structure CompOk (kd:Kd) (scope:Scope) (x:Nat):Prop where
 kind:scope.kind=.function
 var:scope.names.lookup (sy x)=some .local
 xn:x<nsym
 names:∀ y∈scope.names,y.2≠.cell∧(y.2=.local→(y.1=sy x∨y.1=(".0" : Str))∧scope.names.lookup y.1=some .local)∧(y.2=.free→(∃ j,j<nsym∧y.1=sy j)∧(kd y.1=some .free∨kd y.1=some .cell))
theorem lookup_mem {α β:Type} [BEq α] [LawfulBEq α] {l:List (α×β)} {x:α} {v:β} (h:l.lookup x=some v):(x,v)∈l:=by
 induction l with
 | nil=>simp at h
 | cons p r ih=>
  obtain ⟨y,w⟩:=p
  rw [List.lookup_cons] at h
  cases hb:x == y with
  | true=>rw [hb] at h;cases h;rw [eq_of_beq hb];exact .head _
  | false=>rw [hb] at h;exact .tail _ (ih h)
section
variable {Γ:Gl} {env:Env} {own:List Addr} {fr:Frees} {m:List (Nat×V)} {ρ:List Slot} {σ:St} {s:Shared} {A:Around} {E:Value→Shared→Prop} {Q:V→St→Prop} {k:Nat} {kd:Kd} {mode:Bool} {it:Addr} {src:Src} {i:Nat}
 {scope:Scope} {x:Nat} {cl:List (Str×Addr)} {h:Heap} {C:Addr}
theorem closure_of (F:FrR Γ env own fr ρ m h) (hk:∀ x,env.kindOf x=kd x) (O:CompOk kd scope x):∃ cl,closureFor scope env=pure cl∧∀ z,scope.names.lookup z=some .free→cl.lookup z=env.cells.lookup z:=by
 refine gabs fun gG gK=>?_
 obtain ⟨cl,e1,e2,e3,_⟩:=clos_go env (f:=fun x r=>if (x.2 == NameKind.free)=true then cellOf env x.1 >>= fun a=>pure (.yield ((x.1,a)::r)) else pure (.yield r)) (fun _ _ _=>rfl) scope.names [] (fun y hy hf=>by
  obtain ⟨_,_,h3⟩:=O.names y hy
  obtain ⟨⟨j,hj,ej⟩,h4⟩:=h3 hf
  rw [ej] at h4 ⊢
  rcases h4 with h4 | h4
  ·exact F.fcell j (by rw [hk];exact h4)
  ·exact F.ccell j (by rw [hk];exact h4)) (fun z c hz=>by simp at hz)
 refine gK ?_
 refine ⟨cl,?_,fun z hz=>?_⟩
 ·unfold closureFor
  rw [← bind_pure (pure cl:Sem _),← e1]
 ·have:=e3 z (lookup_mem hz)
  cases q:cl.lookup z with
  | none=>rw [q] at this;cases this
  | some c=>exact (e2 z c q).symm
theorem lookup_map_snd {l:List (Str×NameKind)} {z:Str} {F:Str×NameKind→Str×NameKind} (h:∀ p,(F p).1=p.1):(l.map F).lookup z=(l.lookup z).map fun k=>(F (z,k)).2:=by
 induction l with
 | nil=>rfl
 | cons p r ih=>
  obtain ⟨n,k⟩:=p
  have e:∀ q:Str×NameKind,(q::r.map F).lookup z=if z == q.1 then some q.2 else (r.map F).lookup z:=fun q=>by rw [List.lookup_cons];cases z == q.1 <;> rfl
  rw [List.map_cons,e,h,List.lookup_cons,ih]
  cases hb:z == n with
  | false=>rfl
  | true=>rw [eq_of_beq hb];rfl
theorem kd_comp (hk:∀ x,env.kindOf x=kd x) (hf:env.scope.kind=.function) (z:Str):(compEnvC scope cl C env).kindOf z=kdComp kd scope.names z:=by
 refine (lookup_map_snd (l:=scope.names) (F:=fun (n,k)=>if (k == NameKind.free && env.scope.kind == .function && env.kindOf n == some .cell) then (n,NameKind.cell) else (n,k)) fun p=>?_).trans ?_
 ·show (if _ then _ else _:Str×NameKind).1=_
  split <;> rfl
 ·unfold kdComp
  cases scope.names.lookup z with
  | none=>rfl
  | some k=>
   cases k with
   | free=>
    show some (if (true && env.scope.kind == .function && env.kindOf z == some .cell)=true then (z,NameKind.cell) else (z,NameKind.free)).2=_
    rw [hf,hk]
    cases q:kd z == some .cell with
    | true=>exact (if_pos (eq_of_beq q)).symm
    | false=>exact (if_neg fun e=>by rw [e] at q;cases q).symm
   | _=>rfl
theorem look_cases {m:List (Nat×V)} {x z:Nat} {r pv:V} (h:look (put m x r) z=some pv):(z=x∧pv=r)∨(z≠x∧look m z=some pv):=by
 rw [look_put] at h
 by_cases q:z=x
 ·rw [if_pos q] at h;exact .inl ⟨q,(Jb7 h).symm⟩
 ·rw [if_neg q] at h;exact .inr ⟨q,h⟩
theorem kdComp_cases {names:List (Str×NameKind)} {z:Str} {o:NameKind} (h:kdComp kd names z=some o):(names.lookup z=some .free∧((kd z=some .cell∧o=.cell)∨(kd z≠some .cell∧o=.free)))∨(o≠.free∧names.lookup z=some o):=by
 unfold kdComp at h
 cases q:names.lookup z with
 | none=>rw [q] at h;cases h
 | some kk=>
  rw [q] at h
  cases kk with
  | free=>
   have h:(if kd z=some .cell then some NameKind.cell else some .free)=some o:=h
   by_cases e:kd z=some .cell
   ·rw [if_pos e] at h;cases h;exact .inl ⟨rfl,.inl ⟨e,rfl⟩⟩
   ·rw [if_neg e] at h;cases h;exact .inl ⟨rfl,.inr ⟨e,rfl⟩⟩
  | _=>cases h;exact .inr ⟨by decide,rfl⟩
theorem comp_cell {z:Str} (O:CompOk kd scope x) (h:kdComp kd scope.names z=some .cell):kd z=some .cell∧scope.names.lookup z=some .free:=by
 rcases kdComp_cases h with ⟨q,⟨e,_⟩ | ⟨_,e⟩⟩ | ⟨_,q⟩
 ·exact ⟨e,q⟩
 ·cases e
 ·exact absurd rfl (O.names _ (lookup_mem q)).1
theorem comp_free {z:Str} (O:CompOk kd scope x) (h:kdComp kd scope.names z=some .free):kd z=some .free∧scope.names.lookup z=some .free:=by
 rcases kdComp_cases h with ⟨q,⟨_,e⟩ | ⟨e,_⟩⟩ | ⟨e,_⟩
 ·cases e
 ·exact ⟨((O.names _ (lookup_mem q)).2.2 rfl).2.resolve_right e,q⟩
 ·exact absurd rfl e
theorem comp_local {z:Str} (O:CompOk kd scope x) (h:kdComp kd scope.names z=some .local):z=sy x∨z=(".0" : Str):=by
 rcases kdComp_cases h with ⟨q,⟨_,e⟩ | ⟨_,e⟩⟩ | ⟨_,q⟩
 ·cases e
 ·cases e
 ·exact ((O.names _ (lookup_mem q)).2.1 rfl).1
theorem comp_frame {y:V} {v:Value} {mm:Str→Option Value} (F:FrR Γ env own fr ρ m h) (hk:∀ x,env.kindOf x=kd x) (O:CompOk kd scope x) (hcl:∀ z,scope.names.lookup z=some .free→cl.lookup z=env.cells.lookup z)
  (hn:h.Ns C mm) (hv:mm (sy x)=some v) (rv:Rd h ρ v y) (hC:C∉foot ρ) (h0:Γ.h₀.objs.size≤C) (hCo:C∉own) (hxf:∀ l,(x,l)∉fr):FrR Γ (compEnvC scope cl C env) (C::own) fr ρ (put m x y) h:=by
 have kc:=kd_comp (scope:=scope) (cl:=cl) (C:=C) hk F.kind
 have isC:∀ z,(compEnvC scope cl C env).kindOf z=some .cell→env.kindOf z=some .cell∧scope.names.lookup z=some .free:=fun z hz=>by
  rw [hk];exact comp_cell O ((kc z).symm.trans hz)
 have isF:∀ z,(compEnvC scope cl C env).kindOf z=some .free→env.kindOf z=some .free∧scope.names.lookup z=some .free:=fun z hz=>by
  rw [hk];exact comp_free O ((kc z).symm.trans hz)
 have isL0:∀ z,(compEnvC scope cl C env).kindOf z=some .local→z=sy x∨z=(".0" : Str):=fun z hz=>comp_local O ((kc z).symm.trans hz)
 have isL:∀ j,(compEnvC scope cl C env).kindOf (sy j)=some .local→sy j=sy x:=fun j hj=>(isL0 _ hj).resolve_right (sy_ne0 j)
 have kx:(compEnvC scope cl C env).kindOf (sy x)=some .local:=by rw [kc];unfold kdComp;rw [O.var]
 refine ⟨O.kind,F.globs,F.bui,⟨mm,hn,fun z pv hz hl=>?_⟩,fun z hz=>?_,fun z l hl hz=>?_,fun z hz hnf=>?_,fun a b c h1 h2 h3 h4=>?_,.head _,fun a ha=>?_,fun z l hl hz=>?_,fun z hz=>?_,fun z pv hz=>?_⟩
 ·have e:=isL _ hl
  exact (look_cases hz).elim (fun q=>⟨v,q.1▸hv,q.2▸rv⟩) fun q=>absurd (sy_inj (F.names z pv q.2) O.xn e) q.1
 ·refine gabs fun gG gK=>?_
  obtain ⟨h1,h2⟩:=isC _ hz
  obtain ⟨c,e1⟩:=F.ccell z h1
  refine gK ?_
  exact ⟨c,(hcl _ h2).trans e1⟩
 ·have e:=isL _ hz
  by_cases q:z<nsym
  ·exact hxf l (sy_inj q O.xn e▸hl)
  ·exact sy_ne O.xn (e.symm.trans (sy_big q))
 ·refine gabs fun gG gK=>?_
  obtain ⟨h1,h2⟩:=isC _ hz
  obtain ⟨c,u,e1,e2,e3,e4,e5⟩:=F.cell z h1 hnf
  refine gK ?_
  refine ⟨c,u,(hcl _ h2).trans e1,e2,.tail _ e3,fun q=>hCo (by rw [show c=C from q] at e3;exact e3),fun pv hp=>(look_cases hp).elim (fun q=>by rw [q.1,kx] at hz;cases hz) fun q=>e5 pv q.2⟩
 ·refine gabs fun gG gK=>?_
  obtain ⟨a1,a2⟩:=isC _ h3
  obtain ⟨b1,b2⟩:=isC _ h4
  refine gK ?_
  exact F.cinj a b c ((hcl _ a2).symm.trans h1) ((hcl _ b2).symm.trans h2) a1 b1
 ·rcases Jc0.mp ha with rfl | ha
  ·have hn':=hn
   exact ⟨hC,h0,ns_nt hn'⟩
  ·exact F.own a ha
 ·rcases hz with hz | hz
  ·refine gabs fun gG gK=>?_
   obtain ⟨h1,h2⟩:=isF _ hz
   obtain ⟨c,e1,e2⟩:=F.free z l hl (.inl h1)
   refine gK ?_
   exact ⟨c,(hcl _ h2).trans e1,e2⟩
  ·refine gabs fun gG gK=>?_
   obtain ⟨h1,h2⟩:=isC _ hz
   obtain ⟨c,e1,e2⟩:=F.free z l hl (.inr h1)
   refine gK ?_
   exact ⟨c,(hcl _ h2).trans e1,e2⟩
 ·refine gabs fun gG gK=>?_
  obtain ⟨h1,h2⟩:=isF _ hz
  obtain ⟨c,e1⟩:=F.fcell z h1
  refine gK ?_
  exact ⟨c,(hcl _ h2).trans e1⟩
 ·rw [look_put] at hz
  by_cases q:z=x
  ·subst q;exact O.xn
  ·rw [if_neg q] at hz;exact F.names z pv hz
end
end
section
section
variable {Γ:Gl} {env:Env} {own:List Addr} {fr:Frees} {m:List (Nat×V)} {ρ:List Slot} {σ:St} {s:Shared} {A:Around} {E:Value→Shared→Prop} {Q:V→St→Prop} {k:Nat} {kd:Kd} {mode:Bool} {it:Addr} {src:Src} {i:Nat}
 {scope:Scope} {x:Nat} {cl:List (Str×Addr)} {h:Heap} {C D:Addr}
structure LpC where
 Γ:Gl
 env:Env
 own:List Addr
 fr:Frees
 m:List (Nat×V)
 ρ:List Slot
 s:Shared
 C:Addr
 D:Addr
 it:Addr
 src:Src
theorem h0_none {a:Addr} (h:Γ.h₀.objs.size≤a):Γ.h₀.get? a=none:=by
 cases q:Γ.h₀.get? a with
 | none=>rfl
 | some o=>exact absurd (Heap.lt_size q) (Nat.not_lt.mpr h)
structure New (c:LpC) (a:Addr):Prop where
 n:c.s.heap.get? a=none
 o:a∉c.own
 z:c.Γ.h₀.objs.size≤a
structure LpF (c:LpC):Prop where
 C:New c c.C
 D:New c c.D
 I:New c c.it
 cd:c.C≠c.D
 ci:c.C≠c.it
 di:c.D≠c.it
structure Lp (c:LpC) (i:Option Nat) (xs:List V) (σ':St) (ρ':List Slot) (s':Shared):Prop where
 step:Step [c.env.locals] c.ρ ρ' c.s s'
 R:Rel c.Γ ρ' σ' s'.heap
 F:FrR c.Γ c.env c.own c.fr ρ' c.m s'.heap
 itA:∀ j,i=some j→ItAt ρ' s'.heap c.it c.src j∧c.it∉foot ρ'
 ns:∃ mm,s'.heap.Ns c.C mm
 cF:c.C∉foot ρ'
 acc:∃ its n,s'.heap.get? c.D=some (listOf its n)∧RdL s'.heap ρ' its.toList xs
 dF:c.D∉foot ρ'
theorem not_foot_step {own:List Addr} {ρ ρ':List Slot} {s s':Shared} {a:Addr} (st:Step own ρ ρ' s s') (n:a∉foot ρ) {o:Obj} (e:s.heap.get? a=some o):a∉foot ρ':=fun h=>
 (st.new a h).elim n fun q=>nomatch q.symm.trans e
theorem nt_of {h:Heap} {a:Addr} (x:∃ o,h.get? a=some o∧NT o):∀ o,h.get? a=some o→NT o:=fun o e=>x.elim fun o' y=>Jb7 (y.1.symm.trans e)▸y.2
section
variable {c:LpC} {j:Option Nat}
theorem Lp.go {xs:List V} {σ1 σ2:St} {ρ1 ρ2:List Slot} {s1 s2:Shared} (f:LpF c) (l:Lp c j xs σ1 ρ1 s1)
  (st:Step [c.C] ρ1 ρ2 s1 s2) (R:Rel c.Γ ρ2 σ2 s2.heap) (hn:∃ mm,s2.heap.Ns c.C mm):Lp c j xs σ2 ρ2 s2:=by
 have live:∀ a∈[c.C],∃ o,s1.heap.get? a=some o∧NT o:=fun a ha=>Ja4.mp ha▸l.ns.elim fun _ h=>ns_nt h
 have g:=st.grow live
 have keep:∀ a o,a∉foot ρ1→a≠c.C→s1.heap.get? a=some o→s2.heap.get? a=some o:=fun a o n1 n2 e=>st.keep a o n1 (fun q=>n2 (Ja4.mp q)) e
 exact {
  step:=l.step.join st fun a ha=>Ja4.mp ha▸f.C.n
  R:=R
  F:=l.F.mono g (fun a ha o e=>keep a o (l.F.own a ha).1 (fun q=>f.C.o (q▸ha)) e) st.new
  itA:=fun j e=>have a:=l.itA j e;⟨a.1.mono g fun o e=>keep _ _ a.2 f.ci.symm e,a.1.nt.elim fun _ h=>not_foot_step st a.2 h.1⟩
  ns:=hn
  cF:=l.ns.elim fun _ h=>(ns_nt h).elim fun _ h=>not_foot_step st l.cF h.1
  acc:=l.acc.elim fun its h=>h.elim fun n h=>⟨its,n,keep _ _ l.dF f.cd.symm h.1,h.2.mono g⟩
  dF:=l.acc.elim fun its h=>h.elim fun n h=>not_foot_step st l.dF h.1 }
theorem Lp.other {xs xs':List V} {σ1:St} {ρ1:List Slot} {s1 s2:Shared} {a:Addr} {j':Option Nat} (l:Lp c j xs σ1 ρ1 s1) (n:New c a) (af:a∉foot ρ1) (nt:∀ o,s1.heap.get? a=some o→NT o)
  (kk:∀ b o,b≠a→s1.heap.get? b=some o→s2.heap.get? b=some o) (hg:s2.gens=s1.gens) (ho:s2.os=s1.os) (hit:∀ j,j'=some j→ItAt ρ1 s2.heap c.it c.src j∧c.it∉foot ρ1) (hns:∃ mm,s2.heap.Ns c.C mm) (hacc:∃ its n,s2.heap.get? c.D=some (listOf its n)∧RdL s2.heap ρ1 its.toList xs') :
  Lp c j' xs' σ1 ρ1 s2:=
 ⟨l.step.out n.n kk hg ho,l.R.out kk af (h0_none n.z) nt,l.F.out kk n.o nt,hit,hns,l.cF,hacc,l.dF⟩
theorem Ns_keep {h h':Heap} {C:Addr} {mm:Str→Option Value} (x:h.Ns C mm) (kk:∀ o,h.get? C=some o→h'.get? C=some o):h'.Ns C mm:=
 x.elim fun o x=>x.elim fun es x=>x.elim fun ep x=>⟨o,es,ep,kk _ x.1,x.2⟩
theorem Lp.next {xs:List V} {σ1:St} {ρ1:List Slot} {s1 s2:Shared} {i:Nat} {j':Option Nat} (f:LpF c) (l:Lp c (some i) xs σ1 ρ1 s1) (kk:∀ b o,b≠c.it→s1.heap.get? b=some o→s2.heap.get? b=some o) (hg:s2.gens=s1.gens) (ho:s2.os=s1.os)
  (hit:∀ j,j'=some j→ItAt ρ1 s2.heap c.it c.src j):Lp c j' xs σ1 ρ1 s2:=
 have a:=l.itA i rfl
 l.other f.I a.2 (nt_of a.1.nt) kk hg ho (fun j e=>⟨hit j e,a.2⟩) (l.ns.elim fun mm h=>⟨mm,Ns_keep h fun o e=>kk _ _ f.ci e⟩) (l.acc.elim fun its h=>h.elim fun n h=>⟨its,n,kk _ _ f.di h.1,h.2.mono (Grow.out kk (nt_of a.1.nt))⟩)
end
inductive CompEnd (Γ:Gl) (env:Env) (own:List Addr) (fr:Frees) (m:List (Nat×V)) (ρ:List Slot) (s:Shared) (Q:V→St→Prop) (v:Value) (C:Addr) (s':Shared):Prop
 | intro (r:V) (σ':St) (ρ':List Slot) (mm:Str→Option Value) (st:Step [env.locals] ρ ρ' s s') (R:Rel Γ ρ' σ' s'.heap) (F:FrR Γ env own fr ρ' m s'.heap) (rd:Rd s'.heap ρ' v r) (q:Q r σ') (cf:C∉foot ρ') (ns:s'.heap.Ns C mm) (cn:s.heap.get? C=none) (co:C∉own) (c0:Γ.h₀.objs.size≤C):CompEnd Γ env own fr m ρ s Q v C s'
noncomputable abbrev LpC.End (c:LpC) (Q:V→St→Prop) (s':Shared):Prop:=CompEnd c.Γ c.env c.own c.fr c.m c.ρ c.s Q (.ref c.D) c.C s'
theorem mem_foot1 {ρ:List Slot} {a b:Addr} (h:b∈foot (ρ++[.one a])):b∈foot ρ∨b=a:=by
 rw [foot_append] at h
 exact (Jd0.mp h).imp id Ja4.mp
theorem Lp.end {c:LpC} {j:Option Nat} {xs:List V} {σ1:St} {ρ1:List Slot} {s1:Shared} (f:LpF c) (l:Lp c j xs σ1 ρ1 s1) (q:∀ l,σ1 l=none→Q (.loc l) (upd σ1 l (.list xs))):c.End Q s1:=
 l.acc.elim fun its h=>h.elim fun n h=>l.ns.elim fun mm hn=>
  have y:=Rel.adopt (c:=.list xs) l.R l.F l.dF (h0_none f.D.z) f.D.o h.1 (nt_list _ _) fun g=>⟨its,n,h.1,h.2.mono g⟩
  ⟨.loc ρ1.length,_,ρ1++[.one c.D],mm,⟨l.step.pre.trans ⟨_,rfl⟩,fun b hb=>(mem_foot1 hb).elim (l.step.new b) fun q=>.inr (q▸f.D.n),l.step.keep,l.step.dom,l.step.gens,l.step.os⟩,y.1,y.2,.loc (sl:=.one c.D) (Jg5 ..) rfl,q _ l.R.unused,fun hc=>(mem_foot1 hc).elim l.cF f.cd,hn,f.C.n,f.C.o,f.C.z⟩
inductive LpI (c:LpC) (W:List V→List V→St→Prop) (n:Nat) (s':Shared):Prop
 | mk (i:Nat) (xs:List V) (σ':St) (ρ':List Slot) (l:Lp c (some i) xs σ' ρ' s') (e:c.src.items.length+1 - i=n) (w:W (c.src.items.drop i) xs σ')
theorem comp_tail {c:LpC} {j:Option Nat} {e':Env} {elt:PySem.Expr} {celt:Ex} {ifs:List PySem.Expr} {cc:Option Ex} {n':Nat} {N:Shared→Prop} {E4:Value→Shared→Prop} {W:List V→St→(List V→St→Prop)→Prop} {y:V} {xs:List V} {σ4:St} {ρ4:List Slot} {s4:Shared} {QL:List V→St→Prop}
  (f:LpF c) (l4:Lp c j xs σ4 ρ4 s4) (he:e'.locals=c.C) (F4:FrR c.Γ e' (c.C::c.own) c.fr ρ4 (put c.m x y) s4.heap) (kc:∀ x,e'.kindOf x=kd x)
  (helt:Snd c.Γ k c.fr kd elt celt) (hifs:(ifs=[]∧cc=none)∨∃ e ce,ifs=[e]∧cc=some ce∧Snd c.Γ k c.fr kd e ce) (hR:RoomB k A)
  (hq:condW (wpE c.Γ k c.fr n' true) cc c.m x y σ4 (kCond W (evP (wpE c.Γ k c.fr n') celt c.m x) y xs QL))
  (done:∀ xs' σ' ρ' s',Lp c j xs' σ' ρ' s'→W xs' σ' QL→N s') :
  wpAny (model c.Γ.prog c.Γ.w) A (forIn ifs true fun c r=>if r=true then do let ok ← isTrue c e' (eval c e');pure (ForInStep.yield ok) else pure (ForInStep.yield r))
   (fun ok s₃=>if ok=true then wpAny (model c.Γ.prog c.Γ.w) A (eval elt e') (fun x s₄=>wpAny (model c.Γ.prog c.Γ.w) A (call (.builtin "list.append") [.ref c.D,x]) (fun _ s₅=>N s₅) E4 s₄) E4 s₃ else N s₃) E4 s4:=by
 have tests:wpAny (model c.Γ.prog c.Γ.w) A (forIn ifs true fun c r=>if r=true then do let ok ← isTrue c e' (eval c e');pure (ForInStep.yield ok) else pure (ForInStep.yield r))
   (fun b s5=>Post c.Γ e' (c.C::c.own) c.fr (put c.m x y) ρ4 s4 (kCond W (evP (wpE c.Γ k c.fr n') celt c.m x) y xs QL) (.bool b) s5) E4 s4:=by
  rcases hifs with ⟨rfl,rfl⟩ | ⟨e,ce,rfl,rfl,hce⟩
  ·exact wpAny_tests_nil ⟨_,σ4,ρ4,Step.refl ..,l4.R,F4,.bool true,hq⟩
  ·exact wpAny_tests_one (hce _ (c.C::c.own) (put c.m x y) n' true σ4 _ A _ _ ρ4 kc hq hR l4.R F4)
 refine wpAny_mono tests (fun b s5 h5=>?_) fun _ _ x=>x
 cases h5 with
 | intro r5 σ5 ρ5 st5 R5 F5 rd5 q5=>
 cases rd5
 have go:∀ {σ1 σ2:St} {ρ1 ρ2:List Slot} {s1 s2:Shared},Lp c j xs σ1 ρ1 s1→Step [e'.locals] ρ1 ρ2 s1 s2→Rel c.Γ ρ2 σ2 s2.heap→FrR c.Γ e' (c.C::c.own) c.fr ρ2 (put c.m x y) s2.heap→Lp c j xs σ2 ρ2 s2:=fun l st R F=>l.go f (he▸st) R (F.ns.elim fun mm h=>⟨mm,he▸h.1⟩)
 have l5:=go l4 st5 R5 F5
 cases b with
 | false=>exact (if_neg Bool.noConfusion).mpr (done _ _ _ _ l5 (ifB_false q5 rfl))
 | true=>
  refine (if_pos rfl).mpr ?_
  refine helt.run kc (ifB_true q5 rfl) hR R5 F5 fun u s6 r6 σ6 ρ6 st6 R6 F6 rd6 h6=>?_
  have l6:=go l5 st6 R6 F6
  refine l6.acc.elim fun its6 h=>h.elim fun n6 h=>?_
  have hlen:its6.size≤10000:=(Jf0▸h.2.length:its6.size=xs.length)▸h6.1
  refine append_exact h.1 ?_ (sizeLine_eq▸Ja1 hlen (Ja0 rfl))
  refine done _ _ _ _ (l6.other f.D l6.dF (fun o e=>Jb7 (h.1.symm.trans e)▸nt_list _ _) (fun b o nb e=>((Heap.SameBut.update ..).2 b nb).trans e) rfl rfl ?_ ?_ ?_) h6.2
  all_goals have kk:∀ b o,b≠c.D→s6.heap.get? b=some o→(s6.heap.update c.D (Obj.mapSeq fun xs=>xs.push u)).get? b=some o:=fun b o nb e=>((Heap.SameBut.update ..).2 b nb).trans e
  all_goals have g7:Grow s6.heap ρ6 (s6.heap.update c.D (Obj.mapSeq fun xs=>xs.push u)) ρ6:=Grow.out kk fun o e=>Jb7 (h.1.symm.trans e)▸nt_list _ _
  ·exact fun j e=>⟨(l6.itA j e).1.mono g7 fun o e=>kk _ _ f.di.symm e,(l6.itA j e).2⟩
  ·exact l6.ns.elim fun mm h=>⟨mm,Ns_keep h fun o e=>kk _ _ f.cd e⟩
  ·exact (listAt h.1 fun xs=>xs.push u).elim fun n7 e7=>⟨_,n7,e7,(Array.toList_push (xs:=its6)).symm▸(h.2.mono g7).append (.cons (rd6.mono g7) .nil)⟩
theorem drop_of_none {xs:List V} {i:Nat} (h:xs[i]?=none):xs.drop i=[]:=List.drop_eq_nil_of_le (List.getElem?_eq_none_iff.mp h)
theorem drop_take {α:Type} {xs:List α} {n:Nat} {x:α} (h:xs[n]?=some x):xs.drop n=x::xs.drop (n+1):=by
 have:=Ja3.mp h
 rw [List.drop_eq_getElem_cons this.1,this.2]
theorem comp_loop {lc:LpC} {W:List V→List V→St→(List V→St→Prop)→Prop} {elt iter:PySem.Expr} {celt:Ex} {px pos:Pos} {ifs:List PySem.Expr} {c:Option Ex} {n':Nat} {RR:Result→Shared→Prop} {σ1:St} {ρ1:List Slot} {s1:Shared}
  (f:LpF lc) (l:Lp lc (some 0) [] σ1 ρ1 s1) (hk:∀ x,lc.env.kindOf x=kd x) (O:CompOk kd scope x) (hcl:∀ z,scope.names.lookup z=some .free→cl.lookup z=lc.env.cells.lookup z)
  (helt:Snd lc.Γ k lc.fr (kdComp kd scope.names) elt celt) (hifs:(ifs=[]∧c=none)∨∃ e ce,ifs=[e]∧c=some ce∧Snd lc.Γ k lc.fr (kdComp kd scope.names) e ce)
  (hR:RoomB k A) (hxf:flook lc.fr x=none)
  (W0:∀ xs σ QL,W [] xs σ QL→lc.src.ok σ∧QL xs σ) (W1:∀ y ys xs σ QL,W (y::ys) xs σ QL→lc.src.ok σ∧condW (wpE lc.Γ k lc.fr n' true) c lc.m x y σ (kCond (W ys) (evP (wpE lc.Γ k lc.fr n') celt lc.m x) y xs QL))
  (hw:W lc.src.items [] σ1 (kList false Q))
  (fin:∀ s',lc.End Q s'→RR (.ok .next) s') :
  codeAny (model lc.Γ.prog lc.Γ.w) A (.compLoop (.ListComp elt [⟨.Name (sy x) px,iter,ifs,0⟩] scope pos) 0 (.ref lc.it) (.ref lc.D) (compEnvC scope cl lc.C lc.env)) RR s1:=by
 have kc:=fun z=>kd_comp (scope:=scope) (cl:=cl) (C:=lc.C) hk l.F.kind z
 refine codeAny_compLoop_tests (LpI lc fun ys xs σ'=>W ys xs σ' (kList false Q)) (fun n s2 I=>?_) _ ⟨0,[],σ1,ρ1,l,rfl,hw⟩ (fun _=>rfl)
 clear l hw
 generalize (notedBy (model lc.Γ.prog lc.Γ.w) A (compEnvC scope cl lc.C lc.env) fun e s'=>RR (.error e) s')=E4
 cases I with
 | mk i xs σ2 ρ2 l e hw=>
 subst e
 have A2:=l.itA i rfl
 cases hx:lc.src.items[i]? with
 | none=>
  have hw:=W0 _ _ _ (drop_of_none hx▸hw)
  refine op_next_end hR.2.2 A2.1 hx hw.1 l.R fun h' hs=>fin _ ?_
  exact Lp.end (j:=none) f (l.next f (fun b o nb e=>hs b o nb e) rfl rfl (fun _ q=>(by cases q))) hw.2
 | some y=>
  have hw:=W1 _ _ _ _ _ (drop_take hx▸hw)
  have hlt:=(Ja3.mp hx).1
  refine op_next_item A2.1 hx hw.1 l.R A2.2 fun h3 tk v hs hit3 rv=>?_
  have kk:∀ b o,b≠lc.it→s2.heap.get? b=some o→h3.get? b=some o:=fun b o nb e=>(hs.2 b nb).trans e
  have g3:Grow s2.heap ρ2 h3 ρ2:=Grow.out kk (nt_of A2.1.nt)
  have l3:Lp lc (some (i+1)) xs σ2 ρ2 { s2 with heap:=h3,toks:=tk }:=l.next f kk rfl rfl (fun j q=>Jb7 q▸hit3)
  clear l
  refine l3.ns.elim fun mm hn3=>?_
  refine PyProof.Rows.assign_Name ?_
  have kx:(compEnvC scope cl lc.C lc.env).kindOf (sy x)=some .local:=(kc _).trans (by unfold kdComp;rw [O.var])
  refine wpAny_storeName_local (s:={ s2 with heap:=h3,toks:=tk }) kx hn3 (fun h4 hn4 hs4=>?_) (by
   show ((relabel scope lc.env).kind == .class || ((relabel scope lc.env).kind == .module && lc.C != lc.env.globals))=false
   rw [show (relabel scope lc.env).kind=.function from O.kind];rfl)
  have kk4:∀ b o,b≠lc.C→h3.get? b=some o→h4.get? b=some o:=fun b o nb e=>(hs4.2 b nb).trans e
  have nt4:=nt_of (ns_nt hn3)
  have g4:Grow h3 ρ2 h4 ρ2:=Grow.out kk4 nt4
  have l4:Lp lc (some (i+1)) xs σ2 ρ2 { s2 with heap:=h4,toks:=tk+1 }:=l3.other f.C l3.cF nt4 kk4 rfl rfl (fun j q=>⟨(l3.itA j q).1.mono g4 fun o e=>kk4 _ _ f.ci.symm e,(l3.itA j q).2⟩) ⟨_,hn4⟩ (l3.acc.elim fun its h=>h.elim fun n h=>⟨its,n,kk4 _ _ f.cd.symm h.1,h.2.mono g4⟩)
  have F4:=comp_frame (y:=y) (v:=v) l4.F hk O hcl hn4 (if_pos rfl) ((rv.mono g3).mono g4) l4.cF f.C.z f.C.o (flook_none hxf)
  exact comp_tail (e':=compEnvC scope cl lc.C lc.env) f l4 rfl F4 kc helt hifs hR hw.2 fun xs' σ' ρ' s' l w=>⟨lc.src.items.length+1 - (i+1),Nat.sub_lt_sub_left (Nat.lt_succ_of_lt hlt) (Jh4 i),i+1,xs',σ',ρ',l,rfl,w⟩
theorem comp_core {elt iter e:PySem.Expr} {celt ce:Ex} {px pos p:Pos} {ifs:List PySem.Expr} {c:Option Ex} {n':Nat} {rng:Bool} {use:Option (Value→Sem Unit)} {QV:Value→Shared→Prop}
  (he:(rng=true∧rangeOf? kd iter=some e)∨(rng=false∧e=iter)) (hs:Snd Γ k fr kd e ce) (hb:plainArg e=false→ce=.bad) (hset:∀ x,foldedSetIterable iter env x=pure x)
  (hk:∀ x,env.kindOf x=kd x) (O:CompOk kd scope x)
  (helt:Snd Γ k fr (kdComp kd scope.names) elt celt) (hifs:(ifs=[]∧c=none)∨∃ e ce,ifs=[e]∧c=some ce∧Snd Γ k fr (kdComp kd scope.names) e ce)
  (hR:RoomB k A) (R:Rel Γ ρ σ s.heap) (F:FrR Γ env own fr ρ m s.heap)
  (hw:wpE Γ k fr (n'+1) false (.comp celt x rng ce c) m σ Q)
  (fin:∀ D C s',CompEnd Γ env own fr m ρ s Q D C s'→compPost (model Γ.prog Γ.w) A E use QV D C (.ok .next) s') :
  wpAny (model Γ.prog Γ.w) A (comprehension (.ListComp elt [⟨.Name (sy x) px,iter,ifs,0⟩] scope pos) scope env p (newList []) false (eval iter env) use) QV E s:=by
 refine gabs fun gG gK=>?_
 obtain ⟨cl,hclos,hcl⟩:=closure_of F hk O
 refine gK ?_
 obtain ⟨hxf,hw⟩:=hw
 refine wpAny_comprehension_free rfl hset hclos O.kind (fun y hy hl=>((O.names y hy).2.1 hl).2) ?_
 refine wpAny_mono (head_iter (QI:=fun xs src σ1=>wpIt src (condW (wpE Γ k fr n' true) c m x) (evP (wpE Γ k fr n') celt m x) xs [] σ1 (kList false Q)) he hs hb hk hw hR R F) (fun xv s1 h1=>wpAny_mono h1 (fun itv s2 h2=>?_) fun _ _ e=>e) fun _ _ e=>e
 refine gabs fun gG gK=>?_
 obtain ⟨it,src,σ1,ρ1,rfl,st,R1,F1,hit,itn,itF,itO,it0,hq⟩:=h2
 refine gK ?_
 refine wpAny_newObj_type ?_
 refine wpAny_newFunctionEnv (fun y hy=>(O.names y hy).1) (by intro y hy;simp at hy) (fun h₁ hns₁ hsb₁=>?_) O.kind
 dsimp only at hns₁ hsb₁ ⊢
 have hlst:({ cls:=.type "list",dict:=none,data:=.seq ([]:List Value).toArray }:Obj)=listOf #[] 0:=rfl
 generalize hH2:s2.heap.push { cls:=.type "list",dict:=none,data:=.seq ([]:List Value).toArray }=H2 at hns₁ hsb₁ ⊢
 have hC:H2.objs.size=s2.heap.objs.size+1:=by rw [← hH2,Heap.size_push]
 have k1:∀ b o,s2.heap.get? b=some o→b≠H2.objs.size:=fun b o e q=>by
  have:b<s2.heap.objs.size:=Heap.lt_size e
  rw [q,hC] at this
  exact absurd this (Nat.not_lt.mpr (Nat.le_succ _))
 have kk:∀ b o,s2.heap.get? b=some o→h₁.get? b=some o:=fun b o e=>hsb₁.extBut b o (k1 b o e) (Heap.get?_push_of_some _ (hH2▸Heap.get?_push_of_some _ e))
 have size_le:Γ.h₀.objs.size≤s2.heap.objs.size:=by
  obtain ⟨_,h1,o',e,_⟩:=F1.own _ F1.me
  exact Jc4 (Jc9 h1 (Heap.lt_size e))
 have fresh:∀ a,s2.heap.objs.size≤a→s2.heap.get? a=none:=fun a ha=>by
  cases e:s2.heap.get? a with
  | none=>rfl
  | some o'=>exact absurd (Heap.lt_size e) (Nat.not_lt.mpr ha)
 have fresh0:∀ a,s2.heap.get? a=none→s.heap.get? a=none:=fun a ha=>by
  cases e:s.heap.get? a with
  | none=>rfl
  | some o'=>obtain ⟨o'',e'⟩:=st.dom _ _ e;rw [ha] at e';cases e'
 have cn:=fresh H2.objs.size (by rw [hC];exact Nat.le_succ _)
 have dn:=fresh s2.heap.objs.size (Jd7 _)
 have notOwn:∀ a,s2.heap.get? a=none→a∉own:=fun a ha hf=>by obtain ⟨_,_,o',e,_⟩:=F1.own _ hf;rw [ha] at e;cases e
 have notFoot:∀ a,s2.heap.get? a=none→a∉foot ρ1:=fun a ha hf=>by obtain ⟨o',e,_⟩:=R1.live _ hf;rw [ha] at e;cases e
 refine gabs fun gG gK=>?_
 obtain ⟨oi,ei,_⟩:=hit.nt
 refine gK ?_
 generalize hD:s2.heap.objs.size=Da at dn k1 hC cn ⊢
 generalize H2.objs.size=Ca at k1 hC cn hns₁ hsb₁ ⊢
 have size_le:Γ.h₀.objs.size≤Da:=hD▸size_le
 have f:LpF ⟨Γ,env,own,fr,m,ρ,s,Ca,Da,it,src⟩:=
  ⟨⟨fresh0 _ cn,notOwn _ cn,by rw [hC];exact Jg3 size_le⟩,⟨fresh0 _ dn,notOwn _ dn,size_le⟩,⟨itn,itO,it0⟩,by rw [hC];exact Nat.succ_ne_self _,fun q=>k1 _ _ ei q.symm,fun q=>by rw [← show Da=it from q,dn] at ei;cases ei⟩
 have ed:h₁.get? Da=some (listOf #[] 0):=hsb₁.extBut _ _ (fun q=>f.cd q.symm) (hD▸Heap.get?_push_of_some _ (hH2▸Heap.get?_push_size _ rfl))
 have l:Lp ⟨Γ,env,own,fr,m,ρ,s,Ca,Da,it,src⟩ (some 0) [] σ1 ρ1 { s2 with heap:=h₁,toks:=s2.toks+([]:List (Str×Value)).length }:=
  ⟨st.trans (Step.of_keeps kk rfl rfl),R1.keeps kk,F1.keeps kk,fun j e=>Jb7 e▸⟨hit.mono (Grow.of_keeps kk) fun o e=>kk _ _ e,itF⟩,⟨_,hns₁⟩,notFoot _ cn,⟨#[],0,ed,.nil⟩,notFoot _ dn⟩
 have key:=comp_loop (elt:=elt) (iter:=iter) (px:=px) (pos:=pos) (RR:=compPost (model Γ.prog Γ.w) A E use QV (.ref Da) Ca) f l hk O hcl helt hifs hR hxf (fun _ _ _ h=>h) (fun _ _ _ _ _ h=>h) hq (fun s' he=>fin _ _ s' he)
 refine codeAny_compStart_list key ?_
 exact op_self (l.itA 0 rfl).1 key
theorem comp_done {D:Value} {C:Addr} {s':Shared} {E:Value→Shared→Prop} (h:CompEnd Γ env own fr m ρ s Q D C s'):compPost (model Γ.prog Γ.w) A E none (Post Γ env own fr m ρ s Q) D C (.ok .next) s':=by
 refine gabs fun gG gK=>?_
 obtain ⟨r,σ',ρ',mm,st,R,F,rd,q,cf,hn,cn,co,c0⟩:=h
 refine gK ?_
 refine ⟨mm,hn,fun h' hs=>?_⟩
 have kk:∀ b o,b≠C→s'.heap.get? b=some o→h'.get? b=some o:=fun b o nb e=>(hs.2 b nb).trans e
 have nt:∀ o,s'.heap.get? C=some o→NT o:=fun o e=>by obtain ⟨o',e',q⟩:=ns_nt hn;rw [e] at e';cases e';exact q
 exact ⟨r,σ',ρ',st.out cn kk,R.out kk cf (h0_none c0) nt,F.out kk co nt,rd.mono (Grow.out kk nt),q⟩
theorem compOk_of (hk:scope.kind=.function) (hx:x<nsym) (h:compOkB kd scope (sy x)=true):CompOk kd scope x:=by
 unfold compOkB at h
 rw [Jd1] at h
 refine ⟨hk,eq_of_beq h.2,hx,fun y hy=>?_⟩
 have:=Jb3.mp h.1 y hy
 simp only [Jd1,Bool.or_eq_true,bne_iff_ne,ne_eq,beq_iff_eq] at this
 refine gabs fun gG gK=>?_
 obtain ⟨⟨h1,h2⟩,h3⟩:=this
 refine gK ?_
 refine ⟨h1,fun hl=>h2.resolve_left (fun q=>q hl),fun hf=>?_⟩
 obtain ⟨h4,h5⟩:=h3.resolve_left (fun q=>q hf)
 refine ⟨?_,h5⟩
 cases q:symId y.1 with
 | none=>rw [q] at h4;cases h4
 | some j=>obtain ⟨e1,e2⟩:=symId_sy q;exact ⟨j,e2,e1.symm⟩
theorem set_bad {e:PySem.Expr} (h:isSetE e=false):∀ x,foldedSetIterable e env x=pure x:=fun x=>by
 cases e <;> first | rfl | cases h
end
end
section
section
variable {Γ:Gl} {fr:Frees} {k:Nat} {kd:Kd}
theorem isSet_eq {e:PySem.Expr} (h:isSetE e=true):∃ a b c,e=.Set a b c:=by
 cases e with
 | Set a b c=>exact ⟨a,b,c,rfl⟩
 | _=>exact ft h
theorem set_tr {e:PySem.Expr} (h:isSetE e=true) (n:Nat):trE n kd e=.bad:=by
 obtain ⟨a,b,c,rfl⟩:=isSet_eq h
 cases n <;> rfl
theorem set_range {e:PySem.Expr} (h:isSetE e=true):rangeOf? kd e=none:=by
 obtain ⟨a,b,c,rfl⟩:=isSet_eq h
 rfl
theorem gen_no {e it:PySem.Expr} {ifs:List PySem.Expr} {n:Int} (h:Jc5 e.ctorIdx 23=false):genOf [⟨e,it,ifs,n⟩]=none:=by
 cases e <;> first | rfl | exact tf h
theorem gen_no2 {e it:PySem.Expr} {ifs:List PySem.Expr} {n:Int} {a:Comprehension} {r:List Comprehension}:genOf (⟨e,it,ifs,n⟩::a::r)=none:=by
 cases e <;> rfl
theorem genOf_eq {gens:List Comprehension} {x:Str} {px:Pos} {it:PySem.Expr} {ifs:List PySem.Expr} (h:genOf gens=some (x,px,it,ifs)):gens=[⟨.Name x px,it,ifs,0⟩]:=by
 cases gens with
 | nil=>cases h
 | cons g r=>
  obtain ⟨t,it',ifs',n⟩:=g
  cases r with
  | cons _ _=>rw [gen_no2] at h;cases h
  | nil=>
   cases h2:Jc5 t.ctorIdx 23 with
   | false=>rw [gen_no h2] at h;cases h
   | true=>
    obtain ⟨x',p,rfl⟩:=isName_eq h2
    cases q:Int.beq' n 0 with
    | true=>cases (Int.beq'_eq n 0).mp q;cases h;rfl
    | false=>have h:cond (Int.beq' n 0) _ none=some _:=h;rw [q] at h;cases h
theorem ifsOf_eq {f:PySem.Expr→Ex} {ifs:List PySem.Expr} {c:Option Ex} (h:ifsOf f ifs=some c):(ifs=[]∧c=none)∨∃ e,ifs=[e]∧c=some (f e):=by
 match ifs,h with
 | [],h=>cases h;exact .inl ⟨rfl,rfl⟩
 | [e],h=>cases h;exact .inr ⟨e,rfl,rfl⟩
 | _::_::_,h=>cases h
theorem Snd_rng {it:PySem.Expr} {f:PySem.Expr→Ex} {g:Bool→Ex→Ex} {x:PySem.Expr} (h:∀ rng e,(rng=true∧rangeOf? kd it=some e)∨(rng=false∧e=it)→Snd Γ k fr kd x (g rng (f e))):Snd Γ k fr kd x (trRng kd it f g):=by
 unfold trRng
 cases q:rangeOf? kd it with
 | none=>exact h false it (.inr ⟨rfl,rfl⟩)
 | some e=>exact h true e (.inl ⟨rfl,q⟩)
theorem fnSc_eq {s:ScopeKind} (h:isFnSc s=true):s=.function:=by
 cases s <;> first | rfl | cases h
theorem comp_set {n:Nat} {iter e:PySem.Expr} {rng:Bool} (he:(rng=true∧rangeOf? kd iter=some e)∨(rng=false∧e=iter)) (hset:isSetE iter=true):trE n kd e=.bad:=by
 rcases he with ⟨_,he⟩ | ⟨_,rfl⟩
 ·rw [set_range hset] at he;cases he
 ·exact set_tr hset n
theorem S_comp {n:Nat} {elt:PySem.Expr} {gens:List Comprehension} {scope:Scope} {pos:Pos} (ih:∀ (kd:Kd) (e:PySem.Expr),Snd Γ k fr kd e (trE n kd e)):Snd Γ k fr kd (.ListComp elt gens scope pos) (trE (n+1) kd (.ListComp elt gens scope pos)):=by
 refine Snd_oB fun g hg=>Snd_oB fun x hx=>Snd_iB fun hf=>Snd_iB fun ho=>Snd_oB fun c hc=>Snd_rng fun rng e he=>?_
 obtain ⟨x',px,iter,ifs⟩:=g
 dsimp only at hx ho hc he
 obtain ⟨e1,e2⟩:=symId_sy hx
 subst e1
 rw [genOf_eq hg]
 have O:=compOk_of (fnSc_eq hf) e2 ho
 refine .mk (fun _ _ _ _ x=>x) fun env own m n' mode σ Q A E s ρ hk h hR R F=>?_
 cases mode with
 | true=>exact h.elim
 | false=>
  by_cases hset:isSetE iter=true
  ·have h:flook fr x=none∧wpE Γ k fr n' false (trE n kd e) m σ _:=h
   rw [comp_set he hset] at h
   cases n' <;> exact h.2.elim
  ·show wpAny _ _ (eval (.ListComp elt [⟨.Name (sy x) px,iter,ifs,0⟩] scope pos) env) _ _ _
   rw [eval_ListComp]
   exact comp_core he (ih kd e) trE_plain (set_bad (by simpa using hset)) hk O (ih _ elt) (by
    rcases ifsOf_eq hc with hc | ⟨ce,h1,h2⟩
    ·exact .inl hc
    ·exact .inr ⟨ce,_,h1,h2,ih _ ce⟩) hR R F h fun D C s' hd=>comp_done hd
theorem isSlE_eq {i:PySem.Expr} (h:isSlE i=true):∃ lo hi st p,i=.Slice lo hi st p:=by
 cases i with
 | Slice lo hi st p=>exact ⟨_,_,_,_,rfl⟩
 | _=>exact ft h
theorem trE_sub {v i:PySem.Expr} {n:Nat} {pos:Pos} (h:isSlE i=false):trE (n+1) kd (.Subscript v i pos)=.item (trE n kd v) (trE n kd i):=by
 cases i <;> first | rfl | exact tf h
theorem wp_bad {m:List (Nat×V)} {n:Nat} {mode:Bool} {σ:St} {Q:V→St→Prop} {P:Prop} (h:wpE Γ k fr n mode .bad m σ Q):P:=by
 cases n <;> exact h.elim
theorem S_subE {v i:PySem.Expr} {pos:Pos} {n:Nat} (ih:∀ e:PySem.Expr,Snd Γ k fr kd e (trE n kd e)):Snd Γ k fr kd (.Subscript v i pos) (trE (n+1) kd (.Subscript v i pos)):=by
 cases hs:isSlE i with
 | false=>rw [trE_sub hs];exact S_item hs (ih v) (ih i)
 | true=>
  obtain ⟨lo,hi,st,p,rfl⟩:=isSlE_eq hs
  cases st with
  | none=>exact S_slice (ih v) (fun e _=>ih e) (fun e _=>ih e)
  | some st=>
   show Snd Γ k fr kd _ (.item (trE n kd v) (trE n kd (.Slice lo hi (some st) p)))
   rw [show trE n kd (.Slice lo hi (some st) p)=.bad from by cases n <;> rfl]
   exact .mk (fun _ _ _ _ x=>x) fun env own m n' mode σ Q A E s ρ hk h hR R F=>fin_plain rfl (PyProof.Rows.Subscript_ ((ih v).run hk h hR R F fun u s1 r1 σ1 ρ1 st1 R1 F1 rd1 h1=>wp_bad h1))
theorem S_cmpE {l:PySem.Expr} {ops:List CmpOp} {rs:List PySem.Expr} {pos:Pos} {n:Nat} (ih:∀ e:PySem.Expr,Snd Γ k fr kd e (trE n kd e)):Snd Γ k fr kd (.Compare l ops rs pos) (trE (n+1) kd (.Compare l ops rs pos)):=by
 cases ops with
 | nil=>exact Snd.bad
 | cons o ops=>
  cases ops with
  | nil=>
   cases rs with
   | nil=>exact Snd.bad
   | cons r rs=>
    cases rs with
    | nil=>exact S_cmp1 (ih l) (ih r)
    | cons _ _=>exact Snd.bad
  | cons p ops=>
   cases ops with
   | cons _ _=>exact Snd.bad
   | nil=>
    cases rs with
    | nil=>exact Snd.bad
    | cons r rs=>
     cases rs with
     | nil=>exact Snd.bad
     | cons q rs=>
      cases rs with
      | nil=>exact Snd_oB fun c q1=>Snd_oB fun d q2=>S_chain q1 q2 (ih l) (ih r) (ih q)
      | cons _ _=>exact Snd.bad
theorem S_attrE {v:PySem.Expr} {a:Str} {pos:Pos} {n:Nat} (ih:∀ e:PySem.Expr,Snd Γ k fr kd e (trE n kd e)):Snd Γ k fr kd (.Attribute v a pos) (trE (n+1) kd (.Attribute v a pos)):=by
 refine Snd_oB fun j q=>?_
 obtain ⟨e1,e2⟩:=symId_sy q
 subst e1
 cases hs:isSuper v with
 | true=>rw [super_bad hs];exact .mk (fun _ _ _ _ x=>x) fun env own m n' mode σ Q A E s ρ hk h hR R F=>wp_bad h
 | false=>exact S_attr e2 hs (ih v)
theorem S_methE {o:PySem.Expr} {a:Str} {apos pos:Pos} {args:List PySem.Expr} {n:Nat} (hp:args.all plainArg=true) (ih:∀ e:PySem.Expr,Snd Γ k fr kd e (trE n kd e)):Snd Γ k fr kd (.Call (.Attribute o a apos) args [] pos) (oB (symId a) fun k=>iB (apos.endLine == pos.line && args.length<20) (.meth (trE n kd o) k (args.map (trE n kd)))):=by
 refine Snd_oB fun j q=>Snd_iB fun hl=>?_
 obtain ⟨e1,e2⟩:=symId_sy q
 subst e1
 obtain ⟨h1,h2⟩:=Jd5.mp hl
 cases hs:isSuper o with
 | true=>rw [super_bad hs];exact .mk (fun _ _ _ _ x=>x) fun env own m n' mode σ Q A E s ρ hk h hR R F=>wp_bad h
 | false=>exact S_meth e2 hs hp h1 (of_decide_eq_true h2) (ih o) fun v _=>ih v
theorem S_callE {f:PySem.Expr} {args:List PySem.Expr} {kws:List Keyword} {pos:Pos} {n:Nat} (ih:∀ e:PySem.Expr,Snd Γ k fr kd e (trE n kd e)):Snd Γ k fr kd (.Call f args kws pos) (trE (n+1) kd (.Call f args kws pos)):=by
 cases kws with
 | cons _ _=>exact Snd.bad
 | nil=>
  refine Snd_iB fun hp=>?_
  cases f with
  | Name g p=>exact S_call hp fun v _=>ih v
  | Attribute o a apos=>exact S_methE hp ih
  | _=>exact Snd.bad
theorem S_boolE {op:BoolOp} {vs:List PySem.Expr} {pos:Pos} {n:Nat} (ih:∀ e:PySem.Expr,Snd Γ k fr kd e (trE n kd e)):Snd Γ k fr kd (.BoolOp op vs pos) (trE (n+1) kd (.BoolOp op vs pos)):=by
 refine Snd_iB fun hv=>?_
 have hne:vs≠[]:=fun q=>by subst q;cases hv
 cases op with
 | And=>exact .mk (fun _ _ _ _ x=>x) fun env own m n' mode σ Q A E s ρ hk h hR R F=>S_ands (fun v _=>ih v) hk hR hne h R F
 | Or=>exact .mk (fun _ _ _ _ x=>x) fun env own m n' mode σ Q A E s ρ hk h hR R F=>S_ors (fun v _=>ih v) hk hR hne h R F
theorem S_dictE {ks:List (Option PySem.Expr)} {vs:List PySem.Expr} {pos:Pos} {n:Nat}:Snd Γ k fr kd (.Dict ks vs pos) (trE (n+1) kd (.Dict ks vs pos)):=by
 refine Snd_iB fun hv=>?_
 cases ks with
 | nil=>cases vs with
  | nil=>exact S_dict
  | cons _ _=>cases hv
 | cons _ _=>cases hv
theorem S_E (n:Nat):∀ (kd:Kd) (e:PySem.Expr),Snd Γ k fr kd e (trE n kd e):=by
 induction n with
 | zero=>exact fun kd e=>Snd.bad
 | succ n ih=>
  intro kd e
  cases e with
  | BoolOp op vs pos=>exact S_boolE (ih kd)
  | BinOp l op r pos=>exact S_bin (ih kd l) (ih kd r)
  | UnaryOp op x pos=>exact S_neg (ih kd x)
  | IfExp t a b pos=>exact S_ite (ih kd t) (ih kd a) (ih kd b)
  | Dict ks vs pos=>exact S_dictE
  | ListComp elt gens scope pos=>exact S_comp ih
  | Compare l ops rs pos=>exact S_cmpE (ih kd)
  | Call f args kws pos=>exact S_callE (ih kd)
  | Constant c kk pos=>exact S_const
  | Attribute v a pos=>exact S_attrE (ih kd)
  | Subscript v i pos=>exact S_subE (ih kd)
  | Name x pos=>exact S_name
  | List es pos=>exact Snd_iB fun hp=>S_list (Jd5.mp hp).1 (of_decide_eq_true (Jd5.mp hp).2) fun v _=>ih kd v
  | Tuple es kk pos=>exact Snd_iB fun hp=>S_tup (Jd5.mp hp).1 (of_decide_eq_true (Jd5.mp hp).2) fun v _=>ih kd v
  | _=>exact Snd.bad
end
end
section
inductive FlIs (h:Heap) (ρ:List Slot):Flow→Fl→Prop
 | next:FlIs h ρ .next .next
 | cont:FlIs h ρ .cont .cont
 | brk:FlIs h ρ .brk .brk
 | ret {v:Value} {r:V}:Rd h ρ v r→FlIs h ρ (.ret v) (.ret r)
inductive PostS (Γ:Gl) (env:Env) (own:List Addr) (fr:Frees) (ρ:List Slot) (s:Shared) (Q:SPost) (f:Flow) (s':Shared):Prop
 | intro (fl:Fl) (m':List (Nat×V)) (σ':St) (ρ':List Slot) (st:Step own ρ ρ' s s') (R:Rel Γ ρ' σ' s'.heap) (F:FrR Γ env own fr ρ' m' s'.heap) (fi:FlIs s'.heap ρ' f fl) (q:Q fl m' σ'):PostS Γ env own fr ρ s Q f s'
noncomputable def SndS (Γ:Gl) (k:Nat) (fr:Frees) (kd:Kd) (st:Stmt) (c:S):Prop:=
 ∀ (env:Env) (own:List Addr) (m:List (Nat×V)) (n:Nat) (σ:St) (Q:SPost) (A:Around) (E:Value→Shared→Prop) (s:Shared) (ρ:List Slot),
  (∀ x,env.kindOf x=kd x)→wpS Γ k fr n c m σ Q→RoomB k A→Rel Γ ρ σ s.heap→FrR Γ env own fr ρ m s.heap→wpAny (model Γ.prog Γ.w) A (exec st env) (PostS Γ env own fr ρ s Q) E s
section
variable {Γ:Gl} {env:Env} {own:List Addr} {fr:Frees} {m:List (Nat×V)} {ρ:List Slot} {σ:St} {s:Shared} {A:Around} {E:Value→Shared→Prop} {k:Nat} {kd:Kd}
theorem SndS.bad {st:Stmt}:SndS Γ k fr kd st .bad:=fun env own m n σ Q A E s ρ _ h=>by cases n <;> exact h.elim
theorem PostS.trans {Q:SPost} {ρ':List Slot} {s' s'':Shared} {f:Flow} (x:Step own ρ ρ' s s') (p:PostS Γ env own fr ρ' s' Q f s''):PostS Γ env own fr ρ s Q f s'':=
 let ⟨fl,m',σ',ρ'',a,b,c,d,e⟩:=p;⟨fl,m',σ',ρ'',x.trans a,b,c,d,e⟩
theorem Step.loc {ρ':List Slot} {s':Shared} (x:Step [env.locals] ρ ρ' s s') (F:FrR Γ env own fr ρ m s.heap):Step own ρ ρ' s s':=x.wider fun a ha=>by simp at ha;rw [ha];exact F.me
theorem PostS.next {Q:SPost} {σ':St} {ρ':List Slot} {s':Shared} {m':List (Nat×V)} (x:Step own ρ ρ' s s') (R:Rel Γ ρ' σ' s'.heap) (F:FrR Γ env own fr ρ' m' s'.heap) (q:Q .next m' σ'):PostS Γ env own fr ρ s Q .next s':=⟨_,m',σ',ρ',x,R,F,.next,q⟩
inductive StoredM (Γ:Gl) (env:Env) (own:List Addr) (fr:Frees) (m':List (Nat×V)) (ρ:List Slot) (σ:St) (s s':Shared):Prop
 | intro (st:Step own ρ ρ s s') (R:Rel Γ ρ σ s'.heap) (F:FrR Γ env own fr ρ m' s'.heap) (k:∀ b o,b∉own→s.heap.get? b=some o→s'.heap.get? b=some o) (g:Grow s.heap ρ s'.heap ρ):StoredM Γ env own fr m' ρ σ s s'
noncomputable abbrev Stored (Γ:Gl) (env:Env) (own:List Addr) (fr:Frees) (m:List (Nat×V)) (ρ:List Slot) (σ:St) (s:Shared) (x:Nat) (r:V) (s':Shared):Prop:=StoredM Γ env own fr (put m x r) ρ σ s s'
theorem stored_at {x:Nat} {r:V} {a:Addr} {s':Shared} (hn:x<nsym) (hg:s'.gens=s.gens) (ho:s'.os=s.os) (R:Rel Γ ρ σ s.heap) (F:FrR Γ env own fr ρ m s.heap) (ao:a∈own) (kk:∀ b o,b≠a→s.heap.get? b=some o→s'.heap.get? b=some o) (ha:∃ o,s'.heap.get? a=some o∧NT o) (nt:∀ o,s.heap.get? a=some o→NT o)
  (ns:∃ mm,s'.heap.Ns env.locals mm∧∀ z pv,look (put m x r) z=some pv→env.kindOf (sy z)=some .local→∃ v,mm (sy z)=some v∧Rd s.heap ρ v pv)
  (cell:∀ z,env.kindOf (sy z)=some .cell→(∀ l,(z,l)∉fr)→∃ c u,env.cells.lookup (sy z)=some c∧s'.heap.IsCell c u∧c∈own∧c≠env.locals∧∀ pv,look (put m x r) z=some pv→∃ w,u=some w∧Rd s.heap ρ w pv) :
  Stored Γ env own fr m ρ σ s x r s':=by
 have g:Grow s.heap ρ s'.heap ρ:=Grow.out kk nt
 refine ⟨⟨Jf7,fun _ h=>.inl h,fun b o h1 h2 e=>kk b o (fun q=>h2 (q▸ao)) e,fun b o e=>?_,hg,ho⟩,R.out kk (F.own _ ao).1 (h0_none (F.own _ ao).2.1) nt,
  ⟨F.kind,F.globs,F.bui,ns.elim fun mm x=>⟨mm,x.1,fun z pv hz hl=>(x.2 z pv hz hl).elim fun v y=>⟨v,y.1,y.2.mono g⟩⟩,F.ccell,F.floc,fun z hz hzf=>?_,F.cinj,F.me,fun b hb=>?_,F.free,F.fcell,fun z pv hz=>(look_cases hz).elim (fun q=>q.1▸hn) fun q=>F.names z pv q.2⟩,fun b o nb e=>kk b o (fun q=>nb (q▸ao)) e,g⟩
 ·by_cases q:b=a
  ·exact q▸ha.elim fun o h=>⟨o,h.1⟩
  ·exact ⟨o,kk b o q e⟩
 ·obtain ⟨c,u,e1,e2,e3,e4,e5⟩:=cell z hz hzf
  exact ⟨c,u,e1,e2,e3,e4,fun pv h=>(e5 pv h).elim fun w y=>⟨w,y.1,y.2.mono g⟩⟩
 ·obtain ⟨e1,e2,o,e3,e4⟩:=F.own b hb
  by_cases q:b=a
  ·exact ⟨e1,e2,q▸ha⟩
  ·exact ⟨e1,e2,o,kk _ _ q e3,e4⟩
theorem op_store {x:Nat} {v:Value} {r:V} (hx:env.kindOf (sy x)=some .local∨env.kindOf (sy x)=some .cell) (hn:x<nsym) (hnf:flook fr x=none) (R:Rel Γ ρ σ s.heap) (F:FrR Γ env own fr ρ m s.heap) (rv:Rd s.heap ρ v r) :
  wpAny (model Γ.prog Γ.w) A (storeName env (sy x) v) (fun _ s'=>Stored Γ env own fr m ρ σ s x r s') E s:=by
 refine gabs fun gG gK=>?_
 obtain ⟨mm,hns,hm⟩:=F.ns
 rcases hx with hx | hx
 ·obtain ⟨oL,eL,ntL⟩:=ns_nt hns
  refine gK ?_
  refine wpAny_storeName_local hx hns (fun h' hn' hs=>?_) (by rw [F.kind];rfl)
  have kk:∀ b o,b≠env.locals→s.heap.get? b=some o→h'.get? b=some o:=fun b o nb e=>(hs.2 b nb).trans e
  refine stored_at hn rfl rfl R F F.me kk (ns_nt hn') (fun o e=>Jb7 (eL.symm.trans e)▸ntL) ⟨_,hn',fun z pv hz hl=>(look_cases hz).elim (fun q=>⟨v,if_pos (congrArg sy q.1),q.2▸rv⟩) fun q=>?_⟩ fun z hz hzf=>?_
  ·obtain ⟨u,e1,e2⟩:=hm z pv q.2 hl
   exact ⟨u,(if_neg fun e=>q.1 (sy_inj (F.names z pv q.2) hn e)).trans e1,e2⟩
  ·obtain ⟨c,u,e1,⟨o,ho,hd⟩,e3,e4,e5⟩:=F.cell z hz hzf
   exact ⟨c,u,e1,⟨o,kk _ _ e4 ho,hd⟩,e3,e4,fun pv hp=>(look_cases hp).elim (fun q=>by rw [q.1,hx] at hz;cases hz) fun q=>e5 pv q.2⟩
 ·obtain ⟨c,u,e1,hc,e3,e4,e5⟩:=F.cell x hx (flook_none hnf)
  obtain ⟨oc,eoc,doc⟩:=id hc
  refine gK ?_
  refine wpAny_storeName_cell F.kind hx e1 hc fun h' hc' hs=>?_
  have kk:∀ b o,b≠c→s.heap.get? b=some o→h'.get? b=some o:=fun b o nb e=>(hs.2 b nb).trans e
  refine stored_at hn rfl rfl R F e3 kk (hc'.elim fun o h=>⟨o,h.1,fun _ _ q=>by have:=h.2;rw [q] at this;cases this⟩) (fun o e=>by rw [eoc] at e;cases e;exact fun _ _ q=>by subst q;cases doc) ⟨mm,Ns_keep hns fun o e=>kk _ _ (fun q=>e4 q.symm) e,fun z pv hz hl=>(look_cases hz).elim (fun q=>by rw [q.1,hx] at hl;cases hl) fun q=>hm z pv q.2 hl⟩ fun z hz hzf=>?_
  by_cases q:z=x
  ·exact ⟨c,some v,q▸e1,hc',e3,e4,fun pv hp=>(look_cases hp).elim (fun q=>⟨v,rfl,q.2▸rv⟩) fun q'=>absurd q q'.1⟩
  ·obtain ⟨c2,u2,f1,f2,f3,f4,f5⟩:=F.cell z hz hzf
   by_cases qc:c2=c
   ·exact ⟨c2,some v,f1,qc▸hc',f3,f4,fun pv hp=>(look_cases hp).elim (fun q'=>absurd q'.1 q) fun q'=>absurd (sy_inj (F.names z pv q'.2) hn (F.cinj z x c2 f1 (qc▸e1) hz hx)) q⟩
   ·exact ⟨c2,u2,f1,f2.elim fun o h=>⟨o,kk _ _ qc h.1,h.2⟩,f3,f4,fun pv hp=>(look_cases hp).elim (fun q'=>absurd q'.1 q) fun q'=>f5 pv q'.2⟩
theorem op_shared {x l:Nat} {v:Value} {r:V} {c:Cell} {Q:St→Prop} (hfl:flook fr x=some l) (hx:env.kindOf (sy x)=some .local∨env.kindOf (sy x)=some .cell) (e:σ l=some c) (hc:isCellB c=true) (R:Rel Γ ρ σ s.heap) (F:FrR Γ env own fr ρ m s.heap) (rv:Rd s.heap ρ v r) (q:Q (upd σ l (.cell r))) :
  wpAny (model Γ.prog Γ.w) A (storeName env (sy x) v) (fun _ s'=>PostU Γ env own fr m ρ s Q s') E s:=by
 have hm:=flook_mem hfl
 rcases hx with hx | hx
 ·exact absurd hx (F.floc x l hm)
 ·refine gabs fun gG gK=>?_
  obtain ⟨a,e1,e2⟩:=F.free x l hm (.inr hx)
  have hca:=R.cells l c _ e e2
  have:∃ v0,s.heap.IsCell a v0:=by
   cases c with
   | cell w=>obtain ⟨u,hu,_⟩:=hca;exact ⟨_,hu⟩
   | unset=>exact ⟨_,hca⟩
   | _=>cases hc
  obtain ⟨v0,hv0⟩:=this
  refine gK ?_
  refine wpAny_storeName_cell F.kind hx e1 hv0 fun h' hc' hs=>?_
  have hc2:=hc'
  refine gabs fun gG gK=>?_
  obtain ⟨oc',eoc',doc'⟩:=hc2
  refine gK ?_
  exact PostU.change (s':={ s with heap:=h' }) (c:=.cell r) R F e2 (by simp [Slot.addrs]) hs eoc' (fun _ _ q=>by subst q;cases doc') (fun g=>⟨v,hc',rv.mono g⟩) q
theorem okStore_name {x:Str} {p:Pos} (hk:∀ x,env.kindOf x=kd x) (h:okStore kd (.Name x p)=true):env.kindOf x=some .local∨env.kindOf x=some .cell:=by
 rw [hk]
 unfold okStore at h
 simpa using h
theorem swaps_no {v:PySem.Expr} {t:Option PySem.Expr} {line:Nat} (h:isCompE v=false):swapsWith v t line env=pure false:=by cases v <;> first | rfl | exact tf h
theorem comp_cases {P:PySem.Expr→Prop} {v:PySem.Expr} (h:isCompE v=true) (h1:∀ a b c d,P (.ListComp a b c d)) (h2:∀ a b c d,P (.SetComp a b c d)) (h3:∀ a b c d e,P (.DictComp a b c d e)):P v:=by
 cases v with
 | ListComp=>exact h1 _ _ _ _
 | SetComp=>exact h2 _ _ _ _
 | DictComp=>exact h3 _ _ _ _ _
 | _=>exact ft h
theorem swaps_t {v:PySem.Expr} {t:PySem.Expr} {line:Nat} (h1:∀ a b c d,swapsWith (.ListComp a b c d) (some t) line env=pure false) (h2:∀ a b c d,swapsWith (.SetComp a b c d) (some t) line env=pure false) (h3:∀ a b c d e,swapsWith (.DictComp a b c d e) (some t) line env=pure false):swapsWith v (some t) line env=pure false:=by
 cases h:isCompE v with
 | false=>exact swaps_no h
 | true=>exact comp_cases (P:=fun v=>swapsWith v (some t) line env=pure false) h h1 h2 h3
theorem swaps_name {v:PySem.Expr} {x:Str} {p:Pos} {line:Nat} (h:isCompE v=true):∃ b,swapsWith v (some (.Name x p)) line env=pure b∧(b=true→env.kindOf x=some .local):=by
 refine comp_cases (P:=fun v=>∃ b,swapsWith v (some (.Name x p)) line env=pure b∧(b=true→env.kindOf x=some .local)) h (fun _ _ _ _=>?_) (fun _ _ _ _=>?_) fun _ _ _ _ _=>?_ <;> exact ⟨_,rfl,fun h=>eq_of_beq ((Jd1 _ _).mp ((Jd1 _ _).mp ((Jd1 _ _).mp h).1).1).2⟩
end
end
section
section
variable {Γ:Gl} {env:Env} {own:List Addr} {fr:Frees} {m:List (Nat×V)} {ρ:List Slot} {σ:St} {s:Shared} {A:Around} {E:Value→Shared→Prop} {k:Nat} {kd:Kd}
theorem SndS_oB {α:Type} {o:Option α} {f:α→S} {e:Stmt} (h:∀ a,o=some a→SndS Γ k fr kd e (f a)):SndS Γ k fr kd e (oBS o f):=by
 cases o with
 | none=>exact SndS.bad
 | some a=>exact h a rfl
theorem SndS_iB {b:Bool} {c:S} {e:Stmt} (h:b=true→SndS Γ k fr kd e c):SndS Γ k fr kd e (iBS b c):=by
 cases b with
 | false=>exact SndS.bad
 | true=>exact h rfl
theorem SndS.mk {e:Stmt} {c:S} (h:∀ (env:Env) (own:List Addr) (m:List (Nat×V)) (n:Nat) (σ:St) (Q:SPost) (A:Around) (E:Value→Shared→Prop) (s:Shared) (ρ:List Slot),
  (∀ x,env.kindOf x=kd x)→wpS Γ k fr (n+1) c m σ Q→RoomB k A→Rel Γ ρ σ s.heap→FrR Γ env own fr ρ m s.heap→wpAny (model Γ.prog Γ.w) A (exec e env) (PostS Γ env own fr ρ s Q) E s):SndS Γ k fr kd e c:=fun env own m n σ Q A E s ρ hk x hR R F=>by
 cases n with
 | zero=>exact False.elim x
 | succ n=>exact h env own m n σ Q A E s ρ hk x hR R F
theorem StoredM.post {Q:SPost} {t:Sem Unit} {ρ1:List Slot} {σ1:St} {s1 s2:Shared} {m1:List (Nat×V)} (st1:Step own ρ ρ1 s s1) (h:wpAny (model Γ.prog Γ.w) A t (fun _ s'=>StoredM Γ env own fr m1 ρ1 σ1 s1 s') E s2) (q:Q .next m1 σ1):wpAny (model Γ.prog Γ.w) A t (fun _ s'=>PostS Γ env own fr ρ s Q .next s') E s2:=
 wpAny_mono h (fun _ _ x=>match x with | ⟨st2,R2,F2,_,_⟩=>PostS.next (st1.trans st2) R2 F2 q) fun _ _ x=>x
theorem PostU.postS {Q:SPost} {t:Sem Unit} {ρ1:List Slot} {s1 s2:Shared} {P:St→Prop} (st1:Step [env.locals] ρ ρ1 s s1) (F:FrR Γ env own fr ρ m s.heap) (h:wpAny (model Γ.prog Γ.w) A t (fun _ s'=>PostU Γ env own fr m ρ1 s1 P s') E s2) (q:∀ σ,P σ→Q .next m σ):wpAny (model Γ.prog Γ.w) A t (fun _ s'=>PostS Γ env own fr ρ s Q .next s') E s2:=
 wpAny_mono h (fun _ _ x=>match x with | ⟨σ2,ρ2,st2,R2,F2,p⟩=>PostS.next ((st1.trans st2).loc F) R2 F2 (q _ p)) fun _ _ x=>x
theorem T_ret {e:PySem.Expr} {pos:Pos}:SndS Γ k fr kd (.Return (some e) pos) (.ret (trE 60 kd e)):=.mk fun env own m n σ Q A E s ρ hk h hR R F=>
 wpAny_Return_some ((S_E 60 kd e).run hk h hR R F fun v s1 r1 σ1 ρ1 st1 R1 F1 rd1 h1=>⟨_,m,σ1,ρ1,st1.loc F,R1,F1,.ret rd1,h1⟩)
theorem T_retN {pos:Pos}:SndS Γ k fr kd (.Return none pos) .retN:=.mk fun env own m n σ Q A E s ρ hk h hR R F=>wpAny_Return_none ⟨_,m,σ,ρ,Step.refl ..,R,F,.ret .none,h⟩
theorem T_cont {pos:Pos}:SndS Γ k fr kd (.Continue pos) .cont:=.mk fun env own m n σ Q A E s ρ hk h hR R F=>wpAny_Continue ⟨_,m,σ,ρ,Step.refl ..,R,F,.cont,h⟩
theorem T_expr {e:PySem.Expr} {pos:Pos} (hc:isCompE e=false):SndS Γ k fr kd (.Expr e pos) (.expr (trE 60 kd e)):=.mk fun env own m n σ Q A E s ρ hk h hR R F=>
 wpAny_Expr ((S_E 60 kd e).run hk h hR R F fun v s1 r1 σ1 ρ1 st1 R1 F1 rd1 hx=>by
  obtain ⟨h0,h1⟩:=hx
  cases rd1 with
  | none=>exact PostS.next (st1.loc F) R1 F1 h1
  | int=>exact PostS.next (st1.loc F) R1 F1 h1
  | _=>exact h0.elim) (by unfold interactive;rw [F.kind];rfl) (swaps_no hc)
theorem asg_comp {n1 j y:Nat} {p px cpos pos:Pos} {elt iter e:PySem.Expr} {celt ce:Ex} {ifs:List PySem.Expr} {rng:Bool} {c:Option Ex} {scope:Scope} {Q:V→St→Prop} {P:SPost}
  (hb:swapsWith (.ListComp elt [⟨.Name (sy y) px,iter,ifs,0⟩] scope cpos) (some (.Name (sy j) p)) pos.line env=pure true)
  (he:(rng=true∧rangeOf? kd iter=some e)∨(rng=false∧e=iter)) (hs:Snd Γ k fr kd e ce) (hp:plainArg e=false→ce=.bad) (hset:isSetE iter=true→ce=.bad) (O:CompOk kd scope y) (helt:Snd Γ k fr (kdComp kd scope.names) elt celt) (hcc:(ifs=[]∧c=none)∨∃ e ce,ifs=[e]∧c=some ce∧Snd Γ k fr (kdComp kd scope.names) e ce)
  (hnf:flook fr j=none) (h:wpE Γ k fr (n1+1) false (.comp celt y rng ce c) m σ Q) (hQ:∀ v σ,Q v σ→P .next (put m j v) σ) (hk:∀ x,env.kindOf x=kd x) (hR:RoomB k A) (R:Rel Γ ρ σ s.heap) (F:FrR Γ env own fr ρ m s.heap)
  (hx:env.kindOf (sy j)=some .local∨env.kindOf (sy j)=some .cell) (e2:j<nsym) :
  wpAny (model Γ.prog Γ.w) A (exec (.Assign [.Name (sy j) p] (.ListComp elt [⟨.Name (sy y) px,iter,ifs,0⟩] scope cpos) pos) env) (PostS Γ env own fr ρ s P) E s:=by
 rw [exec_Assign_Name_used _ _ _ _ hb]
 refine wpAny_bind (wpAny_standAt ?_)
 show wpAny _ _ ((comprehension (.ListComp elt [⟨.Name (sy y) px,iter,ifs,0⟩] scope cpos) scope env (firstIterPos [⟨.Name (sy y) px,iter,ifs,0⟩] cpos) (newList []) false (eval iter env) (some (assign (.Name (sy j) p) env)) >>= fun _=>pure ()) >>= fun _=>pure Flow.next) _ _ _
 by_cases hs':isSetE iter=true
 ·have h:flook fr y=none∧wpE Γ k fr n1 false ce m σ _:=h
  rw [hset hs'] at h
  cases n1 <;> exact h.2.elim
 ·refine wpAny_bind (wpAny_bind (wpAny_mono (comp_core (use:=some (assign (.Name (sy j) p) env)) (QV:=fun _ s'=>PostS Γ env own fr ρ s P .next s') he hs hp (set_bad (by simpa using hs')) hk O helt hcc hR R F h fun D C s' hd=>?_) (fun _ _ x=>wpAny_pure (wpAny_pure x)) fun _ _ x=>x))
  cases hd with
  | intro r σ' ρ' mm st R' F' rd q cf hn cn co c0=>
   refine PyProof.Rows.assign_Name (wpAny_mono (op_store hx e2 hnf R' F' rd) (fun _ s2 h2=>?_) fun _ _ x=>x)
   cases h2 with
   | intro st2 R2 F2 k2 _=>
    have hn2:=Ns_keep hn fun o e=>k2 _ _ co e
    refine ⟨mm,hn2,fun h' hs=>?_⟩
    have kk:∀ b o,b≠C→s2.heap.get? b=some o→h'.get? b=some o:=fun b o nb e=>(hs.2 b nb).trans e
    have nt:∀ o,s2.heap.get? C=some o→NT o:=fun o e=>by obtain ⟨o',e',q⟩:=ns_nt hn2;rw [e] at e';cases e';exact q
    exact PostS.next (s':={ s2 with heap:=h' }) (((st.loc F).trans st2).out cn kk) (R2.out kk cf (h0_none c0) nt) (F2.out kk co nt) (hQ _ _ q)
theorem oB_inv {α:Type} {n:Nat} {mode:Bool} {o:Option α} {f:α→Ex} {Q:V→St→Prop} (h:wpE Γ k fr n mode (oB o f) m σ Q):∃ a,o=some a∧wpE Γ k fr n mode (f a) m σ Q:=by
 cases o with
 | none=>cases n <;> exact h.elim
 | some a=>exact ⟨a,rfl,h⟩
theorem iB_inv {n:Nat} {mode b:Bool} {c:Ex} {Q:V→St→Prop} (h:wpE Γ k fr n mode (iB b c) m σ Q):b=true∧wpE Γ k fr n mode c m σ Q:=by
 cases b with
 | false=>cases n <;> exact h.elim
 | true=>exact ⟨rfl,h⟩
theorem rng_inv {n:Nat} {mode:Bool} {it:PySem.Expr} {f:PySem.Expr→Ex} {g:Bool→Ex→Ex} {Q:V→St→Prop} (h:wpE Γ k fr n mode (trRng kd it f g) m σ Q):∃ rng e,((rng=true∧rangeOf? kd it=some e)∨(rng=false∧e=it))∧wpE Γ k fr n mode (g rng (f e)) m σ Q:=by
 unfold trRng at h
 cases q:rangeOf? kd it with
 | none=>rw [q] at h;exact ⟨false,it,.inr ⟨rfl,rfl⟩,h⟩
 | some e=>rw [q] at h;exact ⟨true,e,.inl ⟨rfl,rfl⟩,h⟩
theorem asg_plain {j:Nat} {p pos:Pos} {v:PySem.Expr} {Q:SPost} (hx:env.kindOf (sy j)=some .local∨env.kindOf (sy j)=some .cell) (e2:j<nsym) (hk:∀ x,env.kindOf x=kd x) (h:wpE Γ k fr 60 false (trE 60 kd v) m σ (kAsg fr j m Q)) (hR:RoomB k A) (R:Rel Γ ρ σ s.heap) (F:FrR Γ env own fr ρ m s.heap)
  (hb:swapsWith v (some (.Name (sy j) p)) pos.line env=pure false):wpAny (model Γ.prog Γ.w) A (exec (.Assign [.Name (sy j) p] v pos) env) (PostS Γ env own fr ρ s Q) E s:=by
 refine wpAny_Assign_Name ((S_E 60 kd v).run hk h hR R F fun u s1 r1 σ1 ρ1 st1 R1 F1 rd1 h1=>?_) hb
 have h1:asgV fr j r1 m σ1 (Q .next):=h1
 unfold asgV at h1
 cases hfl:flook fr j with
 | none=>rw [hfl] at h1;exact StoredM.post (st1.loc F) (op_store hx e2 hfl R1 F1 rd1) h1
 | some l=>
  rw [hfl] at h1
  obtain ⟨⟨c,hc1,hc2⟩,h1⟩:=h1
  exact PostU.postS st1 F (op_shared (Q:=Q .next m) hfl hx hc1 hc2 R1 F1 rd1 h1) fun _ x=>x
theorem asgV_none {j:Nat} {v:V} {Q:List (Nat×V)→St→Prop} (hnf:flook fr j=none) (x:asgV fr j v m σ Q):Q (put m j v) σ:=by
 unfold asgV at x
 rw [hnf] at x
 exact x
theorem asg_list {j:Nat} {p pos cpos:Pos} {elt:PySem.Expr} {gens:List Comprehension} {scope:Scope} {Q:SPost} (hx:env.kindOf (sy j)=some .local∨env.kindOf (sy j)=some .cell) (e2:j<nsym) (hk:∀ x,env.kindOf x=kd x) (h:wpE Γ k fr 60 false (trE 60 kd (.ListComp elt gens scope cpos)) m σ (kAsg fr j m Q)) (hR:RoomB k A) (R:Rel Γ ρ σ s.heap) (F:FrR Γ env own fr ρ m s.heap)
  (hb:swapsWith (.ListComp elt gens scope cpos) (some (.Name (sy j) p)) pos.line env=pure true) (hnf:flook fr j=none):wpAny (model Γ.prog Γ.w) A (exec (.Assign [.Name (sy j) p] (.ListComp elt gens scope cpos) pos) env) (PostS Γ env own fr ρ s Q) E s:=by
 obtain ⟨g,hg,h⟩:=oB_inv h
 obtain ⟨y,px,iter,ifs⟩:=g
 obtain ⟨y',hy,h⟩:=oB_inv h
 obtain ⟨hf,h⟩:=iB_inv h
 obtain ⟨ho,h⟩:=iB_inv h
 obtain ⟨c,hci,h⟩:=oB_inv h
 obtain ⟨rng,e,he,h9⟩:=rng_inv h
 obtain ⟨e1,e2'⟩:=symId_sy hy
 cases e1
 cases genOf_eq hg
 exact asg_comp hb he (S_E 59 kd e) trE_plain (comp_set he) (compOk_of (fnSc_eq hf) e2' ho) (S_E 59 _ elt) ((ifsOf_eq hci).imp id fun ⟨ce,h1,h2⟩=>⟨ce,_,h1,h2,S_E 59 _ ce⟩) hnf h9 (fun v σ x=>asgV_none hnf x) hk hR R F hx e2
theorem T_asg {j:Nat} {p pos:Pos} {v:PySem.Expr} (hok:okStore kd (.Name (sy j) p)=true) (e2:j<nsym):SndS Γ k fr kd (.Assign [.Name (sy j) p] v pos) (.asg j (trE 60 kd v)):=.mk fun env own m n σ Q A E s ρ hk h hR R F=>by
 have hx:=okStore_name hk hok
 cases hc:isCompE v with
 | false=>exact asg_plain hx e2 hk h hR R F (swaps_no hc)
 | true=>
  obtain ⟨b,hb,hb1⟩:=swaps_name (env:=env) (x:=sy j) (p:=p) (line:=pos.line) hc
  cases b with
  | false=>exact asg_plain hx e2 hk h hR R F hb
  | true=>
   have hnf:flook fr j=none:=by
    cases hfl:flook fr j with
    | none=>rfl
    | some l=>exact absurd (hb1 rfl) (F.floc j l (flook_mem hfl))
   refine comp_cases (P:=fun v=>∀ (h:wpE Γ k fr 60 false (trE 60 kd v) m σ (kAsg fr j m Q)) (hb:swapsWith v (some (.Name (sy j) p)) pos.line env=pure true),wpAny (model Γ.prog Γ.w) A (exec (.Assign [.Name (sy j) p] v pos) env) (PostS Γ env own fr ρ s Q) E s) hc (fun _ _ _ _ h hb=>asg_list hx e2 hk h hR R F hb hnf) (fun _ _ _ _ h _=>h.elim) (fun _ _ _ _ _ h _=>h.elim) h hb
theorem T_setA {o v:PySem.Expr} {j:Nat} {p pos:Pos}:SndS Γ k fr kd (.Assign [.Attribute o (sy j) p] v pos) (.setA (trE 60 kd o) j (trE 60 kd v)):=.mk fun env own m n σ Q A E s ρ hk h hR R F=>by
 refine wpAny_Assign_stores ((S_E 60 kd v).run hk h hR R F fun u s1 r1 σ1 ρ1 st1 R1 F1 rd1 h1=>?_) (swaps_t (fun _ _ _ _=>rfl) (fun _ _ _ _=>rfl) fun _ _ _ _ _=>rfl:swapsWith v (some (.Attribute o (sy j) p)) pos.line env=pure false) (by cases v <;> rfl)
 show wpAny _ _ (holding [u] (eval o env) >>= fun ov=>standAt p.atName >>= fun _=>holding [u,ov] (setAttr ov (sy j) u) >>= fun _=>release [u,ov] []) _ _ _
 exact wpAny_bind (wpAny_holding ((S_E 60 kd o).run hk h1 hR R1 F1 fun w s2 r2 σ2 ρ2 st2 R2 F2 rd2 hx=>
  wpAny_bind (wpAny_standAt (wpAny_bind (wpAny_holding (wpAny_mono (PostU.postS (st1.trans st2) F (op_setA hx.1 hx.2 R2 F2 rd2 (rd1.mono (st2.grow F1.ownLive))) fun _ x=>x) (fun _ s3 h3=>wpAny_release h3) fun _ _ x=>x))))))
theorem T_setI {o i v:PySem.Expr} {p pos:Pos} (hs:isSlE i=false):SndS Γ k fr kd (.Assign [.Subscript o i p] v pos) (.setI (trE 60 kd o) (trE 60 kd i) (trE 60 kd v)):=.mk fun env own m n σ Q A E s ρ hk h hR R F=>by
 refine wpAny_Assign_stores ((S_E 60 kd v).run hk h hR R F fun u s1 r1 σ1 ρ1 st1 R1 F1 rd1 h1=>?_) (swaps_t (fun _ _ _ _=>rfl) (fun _ _ _ _=>rfl) fun _ _ _ _ _=>rfl:swapsWith v (some (.Subscript o i p)) pos.line env=pure false) (by cases v <;> rfl)
 show wpAny _ _ (holding [u] (eval o env) >>= fun ov=>holding [u,ov] (eval i env) >>= fun iv=>standAt p >>= fun _=>holding [u,ov,iv] (setItem ov iv u) >>= fun _=>release _ []) _ _ _
 exact wpAny_bind (wpAny_holding ((S_E 60 kd o).run hk h1 hR R1 F1 fun w s2 r2 σ2 ρ2 st2 R2 F2 rd2 h2=>wpAny_bind (wpAny_holding ((S_E 60 kd i).run hk h2 hR R2 F2 fun w3 s3 r3 σ3 ρ3 st3 R3 F3 rd3 h3=>
  wpAny_bind (wpAny_standAt (wpAny_bind (wpAny_holding (wpAny_mono (PostU.postS ((st1.trans st2).trans st3) F (op_setI h3 R3 F3 (rd2.mono (st3.grow F2.ownLive)) rd3 ((rd1.mono (st2.grow F1.ownLive)).mono (st3.grow F2.ownLive))) fun _ x=>x) (fun _ s4 h4=>wpAny_release h4) fun _ _ x=>x))))))))
theorem kAug_inv {x:Nat} {op:Operator} {u v:V} {Q:SPost} (h:kAug x op u m Q v σ):∃ i j,u=.int i∧v=.int j∧bopI op i j (putQ x m σ Q):=by
 cases u with
 | int i=>cases v with
  | int j=>exact ⟨i,j,rfl,rfl,h⟩
  | _=>exact h.elim
 | _=>exact h.elim
theorem kAA2_inv {x:Nat} {op:Operator} {w u v:V} {Q:SPost} (h:kAA2 x op w u m Q v σ):∃ i j,u=.int i∧v=.int j∧bopI op i j (setQ w x σ m Q):=by
 cases u with
 | int i=>cases v with
  | int j=>exact ⟨i,j,rfl,rfl,h⟩
  | _=>exact h.elim
 | _=>exact h.elim
theorem T_aug {j:Nat} {op:Operator} {v:PySem.Expr} {p pos:Pos} (hok:okStore kd (.Name (sy j) p)=true) (e2:j<nsym):SndS Γ k fr kd (.AugAssign (.Name (sy j) p) op v pos) (.aug j op (trE 60 kd v)):=.mk fun env own m n σ Q A E s ρ hk h hR R F=>by
 have hx:=okStore_name hk hok
 have h:match look m j with | some u=>flook fr j=none∧wpE Γ k fr 60 false (trE 60 kd v) m σ (kAug j op u m Q) | none=>False:=h
 cases q2:look m j with
 | none=>rw [q2] at h;exact h.elim
 | some r=>
  rw [q2] at h
  refine wpAny_AugAssign_Name (F.get (flook_none h.1) q2 hx fun u hu=>(S_E 60 kd v).run hk h.2 hR R F fun w s1 r1 σ1 ρ1 st1 R1 F1 rd1 h1=>?_)
  obtain ⟨i,i2,rfl,rfl,h1⟩:=kAug_inv h1
  exact hu.intOf.elim fun t e=>rd1.intOf.elim fun t2 e'=>e▸e'▸iop_int h1 fun r tk tk' q=>StoredM.post (s1:={ s1 with toks:=tk' }) ((st1.trans (Step.of_keeps (s':={ s1 with toks:=tk' }) (fun _ _ e=>e) rfl rfl)).loc F) (op_store (s:={ s1 with toks:=tk' }) hx e2 h.1 R1 F1 (.int r tk)) q
theorem T_augA {a:PySem.Expr} {j:Nat} {op:Operator} {v:PySem.Expr} {p pos:Pos}:SndS Γ k fr kd (.AugAssign (.Attribute a (sy j) p) op v pos) (.augA (trE 60 kd a) j op (trE 60 kd v)):=.mk fun env own m n σ Q A E s ρ hk h hR R F=>by
 refine wpAny_AugAssign_AttributeAny ((S_E 60 kd a).run hk h hR R F fun w s1 r1 σ1 ρ1 st1 R1 F1 rd1 hx=>?_)
 refine op_attr (Q:=fun u σ2=>_) hx.1 hx.2 R1 rd1 fun r x tk q rx=>?_
 refine (S_E 60 kd v).run (s:={ s1 with toks:=tk }) hk q hR R1 F1 fun w3 s3 r3 σ3 ρ3 st3 R3 F3 rd3 h3=>?_
 have st13:Step [env.locals] ρ ρ3 s s3:=(st1.trans (s'':={ s1 with toks:=tk }) (Step.of_keeps (fun _ _ e=>e) rfl rfl)).trans st3
 have rd13:=rd1.mono (st3.grow (s:={ s1 with toks:=tk }) F1.ownLive)
 clear st3 st1 R1 F1 rd1 h hR R
 obtain ⟨i,i2,rfl,rfl,h3⟩:=kAA2_inv h3
 exact rx.intOf.elim fun t e=>rd3.intOf.elim fun t2 e'=>e▸e'▸iop_int h3 fun r tk2 tk' q=>PostU.postS (s1:={ s3 with toks:=tk' }) (st13.trans (Step.of_keeps (s':={ s3 with toks:=tk' }) (fun _ _ e=>e) rfl rfl)) F (op_setA (s:={ s3 with toks:=tk' }) hx.1 q R3 F3 rd13 (.int r tk2)) fun _ x=>x
end
end
section
section
variable {Γ:Gl} {env:Env} {own:List Addr} {fr:Frees} {m:List (Nat×V)} {ρ:List Slot} {σ:St} {s:Shared} {A:Around} {E:Value→Shared→Prop} {k:Nat} {kd:Kd}
theorem no_some {α:Type} {a:α} {P:Prop} (h:none=some a):P:=(by cases h)
theorem trNames_name {e:PySem.Expr} {es:List PySem.Expr} {ks:List Nat} (h:trNames (e::es)=some ks):∃ x p,e=.Name x p:=by
 cases e with
 | Name x p=>exact ⟨x,p,rfl⟩
 | _=>exact no_some h
theorem trNames_inv {es:List PySem.Expr} {ks:List Nat} (h:trNames es=some ks):∃ xs:List (Nat×Pos),es=xs.map (fun x=>.Name (sy x.1) x.2)∧ks=xs.map (·.1)∧∀ x∈xs,x.1<nsym:=by
 induction es generalizing ks with
 | nil=>cases h;exact ⟨[],rfl,rfl,fun _ h=>(by cases h)⟩
 | cons e es ih=>
  obtain ⟨x,p,rfl⟩:=trNames_name h
  have h:(match symId x,trNames es with | some k,some ks=>some (k::ks) | _,_=>none)=some ks:=h
  cases q1:symId x with
  | none=>rw [q1] at h;exact no_some h
  | some j=>
   cases q2:trNames es with
   | none=>rw [q1,q2] at h;exact no_some h
   | some js=>
    rw [q1,q2] at h;cases h
    have y:=symId_sy q1
    exact (ih q2).elim fun xs z=>⟨(j,p)::xs,y.1▸z.1▸rfl,z.2.1▸rfl,Ja7.mpr ⟨y.2,z.2.2⟩⟩
theorem op_puts:∀ (xs:List (Nat×Pos)) (vs:List Value) (rs:List V) (m m1:List (Nat×V)) (s:Shared),(∀ x∈xs,x.1<nsym)→nofr fr (xs.map (·.1))=true→(xs.map fun x=>PySem.Expr.Name (sy x.1) x.2).all (okStore kd)=true→puts m (xs.map (·.1)) rs=some m1→RdL s.heap ρ vs rs→(∀ x,env.kindOf x=kd x)→Rel Γ ρ σ s.heap→FrR Γ env own fr ρ m s.heap→
  wpAny (model Γ.prog Γ.w) A (assignInOrder ((assignEach (xs.map fun x=>PySem.Expr.Name (sy x.1) x.2) env).map (·.2)) vs) (fun _ s'=>StoredM Γ env own fr m1 ρ σ s s') E s:=by
 intro xs
 induction xs with
 | nil=>
  intro vs rs m m1 s _ _ _ h3 h4 hk R F
  cases h4 with
  | nil=>exact Jb7 h3▸wpAny_pure ⟨Step.refl ..,R,F,fun _ _ _ e=>e,Grow.of_keeps fun _ _ e=>e⟩
  | cons _ _=>exact (Option.some_ne_none _ (Eq.symm h3)).elim
 | cons x xs ih=>
  intro vs rs m m1 s hx h0 h2 h3 h4 hk R F
  cases h4 with
  | nil=>exact (Option.some_ne_none _ (Eq.symm h3)).elim
  | cons a b=>
   have hx:=Ja7.mp hx
   have h2:=Jd5.mp h2
   have h00:=nofr_mem h0 _ (.head _)
   refine wpAny_bind (wpAny_holding (PyProof.Rows.assign_Name (wpAny_mono (op_store (okStore_name hk h2.1) hx.1 h00 R F a) (fun _ s2 hs2=>?_) fun _ _ x=>x)))
   cases hs2 with
   | intro st2 R2 F2 k2 g2=>
    refine wpAny_mono (ih _ _ _ m1 s2 hx.2 (nofr_tail h0) h2.2 h3 (b.mono g2) hk R2 F2) (fun _ s3 h=>?_) fun _ _ x=>x
    cases h with
    | intro st3 R3 F3 k3 g3=>
     exact ⟨st2.trans st3,R3,F3,fun b o n e=>k3 b o n (k2 b o n e),⟨Jf7,fun a its n e nf=>have y:=g2.tups a its n e nf;g3.tups a its n y.1 y.2⟩⟩
theorem trNames_plain (xs:List (Nat×Pos)):(assignEach (xs.map fun x=>PySem.Expr.Name (sy x.1) x.2) env).findIdx? (·.1)=none∧(assignEach (xs.map fun x=>PySem.Expr.Name (sy x.1) x.2) env).length=xs.length:=by
 induction xs with
 | nil=>exact ⟨rfl,rfl⟩
 | cons x xs ih=>
  refine ⟨?_,congrArg (· + 1) ih.2⟩
  show List.findIdx? (·.1) ((false,assign (.Name (sy x.1) x.2) env)::assignEach _ env)=none
  rw [List.findIdx?_cons,ih.1];rfl
theorem puts_len {ks:List Nat}:∀ {rs:List V} {m m1:List (Nat×V)},puts m ks rs=some m1→rs.length=ks.length:=by
 induction ks with
 | nil=>
  intro rs m m1 h
  cases rs with
  | nil=>rfl
  | cons _ _=>cases h
 | cons k ks ih=>
  intro rs m m1 h
  cases rs with
  | nil=>cases h
  | cons r rs=>exact congrArg (· + 1) (ih h)
theorem op_unpack {es:List PySem.Expr} {ks:List Nat} {kk:Nat} {p:Pos} {v:Value} {r:V} {m1:List (Nat×V)} (hh:A.handled=none) (h0:nofr fr ks=true) (h1:trNames es=some ks) (h2:es.all (okStore kd)=true) (h3:unpackV ks r m=some m1) (hk:∀ x,env.kindOf x=kd x) (R:Rel Γ ρ σ s.heap) (F:FrR Γ env own fr ρ m s.heap) (rv:Rd s.heap ρ v r) :
  wpAny (model Γ.prog Γ.w) A (assign (.Tuple es kk p) env v) (fun _ s'=>StoredM Γ env own fr m1 ρ σ s s') E s:=by
 cases r with
 | tup rs=>
  refine gabs fun gG gK=>?_
  obtain ⟨a,its,n,rfl,g,nf,rl⟩:=rv.tupOf
  obtain ⟨xs,rfl,rfl,hx⟩:=trNames_inv h1
  obtain ⟨f1,f2⟩:=trNames_plain (env:=env) xs
  refine gK ?_
  have hl:=(puts_len h3).trans (Ja2 _)
  have hr:=rl.length
  rw [PyProof.Rows.assign_Tuple]
  refine wpAny_bind (wpAny_standAt ?_)
  unfold unpack
  rw [f1,f2]
  have hsz:xs.length=its.toArray.size:=hl.symm.trans hr.symm
  rw [hsz]
  refine wpAny_bind (wpAny_holding (unpackItems_tuple hh ⟨_,g,rfl,_,rfl⟩ fun h' he=>?_))
  have kp:∀ b o,s.heap.get? b=some o→h'.get? b=some o:=fun b o e=>he b o (fun q=>by subst q;rw [push_none] at e;cases e) e
  refine wpAny_mono (op_puts xs its rs m m1 { s with heap:=h' } hx h0 h2 h3 (rl.mono (Grow.of_keeps kp)) hk (R.keeps kp) (F.keeps kp)) (fun _ s2 h=>?_) fun _ _ x=>x
  refine gabs fun gG gK=>?_
  obtain ⟨st,R2,F2,k2,g2⟩:=h
  refine gK ?_
  exact ⟨Step.trans (s':={ s with heap:=h' }) (Step.of_keeps kp rfl rfl) st,R2,F2,fun b o n e=>k2 b o n (kp b o e),⟨Jf7,fun a its n e nf=>g2.tups a its n (kp _ _ e) nf⟩⟩
 | _=>cases h3
theorem T_unp {es:List PySem.Expr} {ks:List Nat} {kk:Nat} {p pos:Pos} {v:PySem.Expr} (hks:trNames es=some ks) (hok:es.all (okStore kd)=true) (ht:isTupE v=false):SndS Γ k fr kd (.Assign [.Tuple es kk p] v pos) (.unp ks (trE 60 kd v)):=.mk fun env own m n σ Q A E s ρ hk h hR R F=>by
 refine Assign_Tuple ((S_E 60 kd v).run hk h hR R F fun u s1 r1 σ1 ρ1 st1 R1 F1 rd1 hx=>?_) (swaps_t (fun _ _ _ _=>rfl) (fun _ _ _ _=>rfl) fun _ _ _ _ _=>rfl:swapsWith v (some (.Tuple es kk p)) pos.line env=pure false) (by cases v <;> first | rfl | cases ht)
 have hx:nofr fr ks=true∧match unpackV ks r1 m with | some m1=>Q .next m1 σ1 | none=>False:=hx
 obtain ⟨h0,h1⟩:=hx
 cases q:unpackV ks r1 m with
 | none=>rw [q] at h1;exact h1.elim
 | some m1=>rw [q] at h1;exact StoredM.post (st1.loc F) (op_unpack hR.2.2 h0 hks hok q hk R1 F1 rd1) h1
noncomputable def SndB (Γ:Gl) (k:Nat) (fr:Frees) (kd:Kd) (b:List Stmt) (c:List S):Prop:=
 ∀ (env:Env) (own:List Addr) (m:List (Nat×V)) (n:Nat) (σ:St) (Q:SPost) (A:Around) (E:Value→Shared→Prop) (s:Shared) (ρ:List Slot),
  (∀ x,env.kindOf x=kd x)→wpSs (wpS Γ k fr n) c m σ Q→RoomB k A→Rel Γ ρ σ s.heap→FrR Γ env own fr ρ m s.heap→wpAny (model Γ.prog Γ.w) A (execs b env) (PostS Γ env own fr ρ s Q) E s
theorem PostS.sh {ρ1:List Slot} {s1 s2:Shared} {Q:SPost} {t:Sem Flow} (st:Step own ρ ρ1 s s1) (h:wpAny (model Γ.prog Γ.w) A t (PostS Γ env own fr ρ1 s1 Q) E s2):wpAny (model Γ.prog Γ.w) A t (PostS Γ env own fr ρ s Q) E s2:=
 wpAny_mono h (fun _ _ p=>PostS.trans st p) fun _ _ x=>x
theorem T_block {n:Nat} {b:List Stmt} (hb:∀ st∈b,SndS Γ k fr kd st (trS n kd st)):SndB Γ k fr kd b (b.map (trS n kd)):=by
 intro env own m n' σ Q A E s ρ hk h hR R F
 induction b generalizing m σ s ρ with
 | nil=>exact wpAny_execs_nil (PostS.next (Step.refl ..) R F h)
 | cons st b ih=>
  refine wpAny_execs_cons (wpAny_mono (hb st (.head _) env own m n' σ _ A E s ρ hk h hR R F) (fun f s1 hf=>?_) fun _ _ x=>x)
  cases hf with
  | intro fl m1 σ1 ρ1 st1 R1 F1 fi h1=>
   cases fi with
   | next=>exact PostS.sh st1 (ih (fun st hst=>hb st (.tail _ hst)) m1 σ1 s1 ρ1 h1 R1 F1)
   | cont=>exact ⟨_,m1,σ1,ρ1,st1,R1,F1,.cont,h1⟩
   | brk=>exact ⟨_,m1,σ1,ρ1,st1,R1,F1,.brk,h1⟩
   | ret rd=>exact ⟨_,m1,σ1,ρ1,st1,R1,F1,.ret rd,h1⟩
theorem T_if {t:PySem.Expr} {a b:List Stmt} {ca cb:List S} {pos:Pos} (ha:SndB Γ k fr kd a ca) (hb:SndB Γ k fr kd b cb):SndS Γ k fr kd (.If t a b pos) (.ifs (trE 60 kd t) ca cb):=.mk fun env own m n σ Q A E s ρ hk h hR R F=>by
 refine wpAny_If ((S_E 60 kd t).runT hk h hR R F fun c s1 r1 σ1 ρ1 st1 R1 F1 rd1 h1=>?_)
 cases rd1
 cases c with
 | true=>
  rw [if_pos rfl]
  exact PostS.sh (st1.loc F) (ha env own m n σ1 Q A E s1 ρ1 hk (ifB_true h1 rfl) hR R1 F1)
 | false=>
  rw [if_neg (by decide)]
  exact PostS.sh (st1.loc F) (hb env own m n σ1 Q A E s1 ρ1 hk (ifB_false h1 rfl) hR R1 F1)
theorem FrR.sub {h:Heap} {m0:List (Nat×V)} (F:FrR Γ env own fr ρ m h) (hs:SubE m0 m):FrR Γ env own fr ρ m0 h:=
 { kind:=F.kind,globs:=F.globs,bui:=F.bui,ns:=F.ns.elim fun mm q=>⟨mm,q.1,fun x pv e=>q.2 x pv (hs x pv e)⟩,ccell:=F.ccell,floc:=F.floc,cell:=fun x hx hl=>(F.cell x hx hl).elim fun c q=>q.elim fun v q=>⟨c,v,q.1,q.2.1,q.2.2.1,q.2.2.2.1,fun pv e=>q.2.2.2.2 pv (hs x pv e)⟩,cinj:=F.cinj,me:=F.me,own:=F.own,free:=F.free,fcell:=F.fcell,names:=fun x pv e=>F.names x pv (hs x pv e) }
inductive WhI (Γ:Gl) (env:Env) (own:List Addr) (fr:Frees) (ρ:List Slot) (s:Shared) (W:List (Nat×V)→St→Prop) (s':Shared):Prop
 | intro (m':List (Nat×V)) (σ':St) (ρ':List Slot) (st:Step own ρ ρ' s s') (R:Rel Γ ρ' σ' s'.heap) (F:FrR Γ env own fr ρ' m' s'.heap) (w:W m' σ'):WhI Γ env own fr ρ s W s'
theorem while_core {n j:Nat} {t:PySem.Expr} {ct:Ex} {b:List Stmt} {cb:List S} {pos:Pos} {N:Nat} {Q:SPost} (ht:Snd Γ k fr kd t ct) (hb:SndB Γ k fr kd b cb) (hk:∀ x,env.kindOf x=kd x) (h:wpWh (evT (wpE Γ k fr N) ct) (wpSs (wpS Γ k fr n) cb) j m σ Q) (hR:RoomB k A) (R:Rel Γ ρ σ s.heap) (F:FrR Γ env own fr ρ m s.heap) :
  wpAny (model Γ.prog Γ.w) A (exec (.While t b [] pos) env) (PostS Γ env own fr ρ s Q) E s:=by
 refine wpAny_While (codeAny_whileLoop (fun i s'=>WhI Γ env own fr ρ s (fun m σ=>wpWh (evT (wpE Γ k fr N) ct) (wpSs (wpS Γ k fr n) cb) i m σ Q) s') ?_ j ⟨m,σ,ρ,Step.refl ..,R,F,h⟩)
 rintro i s' ⟨m1,σ1,ρ1,st1,R1,F1,h1⟩
 cases i with
 | zero=>exact False.elim h1
 | succ i=>
  refine ht.runT hk h1 hR R1 F1 fun c s2 r2 σ2 ρ2 st2 R2 F2 rd2 h2=>?_
  cases rd2
  have st2:=st1.trans (st2.loc F1)
  cases c with
  | true=>
   rw [if_pos rfl]
   refine wpAny_mono (hb env own m1 n σ2 _ A _ s2 ρ2 hk (ifB_true h2 rfl) hR R2 F2) (fun f s3 p=>?_) fun _ _ x=>x
   cases p with
   | intro fl m3 σ3 ρ3 st3 R3 F3 fi h3=>
    have st:=st2.trans st3
    cases fi with
    | next=>cases h3 with | mk m0 hs h3=>exact ⟨i,Jh4 i,m0,σ3,ρ3,st,R3,F3.sub hs,h3⟩
    | cont=>cases h3 with | mk m0 hs h3=>exact ⟨i,Jh4 i,m0,σ3,ρ3,st,R3,F3.sub hs,h3⟩
    | brk=>exact ⟨_,m3,σ3,ρ3,st,R3,F3,.next,h3⟩
    | ret rd=>exact ⟨_,m3,σ3,ρ3,st,R3,F3,.ret rd,h3⟩
  | false=>
   rw [if_neg (by decide)]
   exact wpAny_execs_nil ⟨_,m1,σ2,ρ2,st2,R2,F2,.next,ifB_false h2 rfl⟩
theorem T_while {t:PySem.Expr} {b:List Stmt} {cb:List S} {pos:Pos} (hb:SndB Γ k fr kd b cb):SndS Γ k fr kd (.While t b [] pos) (.while_ (trE 60 kd t) cb):=.mk fun env own m n σ Q A E s ρ hk h hR R F=>by
 obtain ⟨j,h⟩:=h
 exact while_core (S_E 60 kd t) hb hk h hR R F
theorem it_go {target:PySem.Expr} {it:Addr} {src:Src} {i:Nat} {v:Value} {P:Unit→Shared→Prop} (hit:ItAt ρ s.heap it src i) (h:P () s):wpAny (model Γ.prog Γ.w) A (letOwnedTupleGo target (.ref it) v) P E s:=by
 have go:wpAny (model Γ.prog Γ.w) A (letOwnedTupleGo (.Tuple [] 0 target.pos) (.ref it) v) P E s:=by
  cases v with
  | ref a=>
   show wpAny _ _ (load it >>= fun o=>_) _ _ _
   cases src with
   | list l xs=>
    obtain ⟨_,b,_,o,e,c,d⟩:=hit
    refine wpAny_bind (wpAny_load e ?_)
    rw [c,d]
    exact wpAny_pure h
   | tup xs=>
    obtain ⟨t,its,n,_,_,_,o,e,c,d⟩:=hit
    refine wpAny_bind (wpAny_load e ?_)
    rw [c,d]
    exact wpAny_pure h
   | range n=>
    refine wpAny_bind (wpAny_load hit ?_)
    exact wpAny_pure h
  | _=>exact wpAny_pure h
 cases target <;> first | exact wpAny_pure h | exact go
inductive ForI (Γ:Gl) (env:Env) (own:List Addr) (fr:Frees) (ρ:List Slot) (s:Shared) (it:Addr) (src:Src) (W:Nat→List (Nat×V)→St→Prop) (j:Nat) (s':Shared):Prop
 | intro (i:Nat) (m':List (Nat×V)) (σ':St) (ρ':List Slot) (st:Step own ρ ρ' s s') (R:Rel Γ ρ' σ' s'.heap) (F:FrR Γ env own fr ρ' m' s'.heap) (a:ItAt ρ' s'.heap it src i) (f:it∉foot ρ') (e:j=src.items.length+1 - i) (w:W i m' σ'):ForI Γ env own fr ρ s it src W j s'
theorem for_turn {target:PySem.Expr} {b:List Stmt} {c:List S} {bind:V→List (Nat×V)→Option (List (Nat×V))} {Q:SPost} {n1:Nat} (hb:SndB Γ k fr kd b c)
  (hbind:∀ (y:V) (v:Value) (m m1:List (Nat×V)) (σ:St) (ρ:List Slot) (s:Shared) (E:Value→Shared→Prop),bind y m=some m1→Rel Γ ρ σ s.heap→FrR Γ env own fr ρ m s.heap→Rd s.heap ρ v y→wpAny (model Γ.prog Γ.w) A (assign target env v) (fun _ s'=>StoredM Γ env own fr m1 ρ σ s s') E s)
  (hk:∀ x,env.kindOf x=kd x) (hR:RoomB k A) {it:Addr} {src:Src} {i:Nat} {y:V} {v:Value} {s4:Shared} {ρ3:List Slot} {m3:List (Nat×V)} {σ3:St} {P:Flow→Shared→Prop} (st4:Step own ρ ρ3 s s4) (R4:Rel Γ ρ3 σ3 s4.heap) (F4:FrR Γ env own fr ρ3 m3 s4.heap) (hit4:ItAt ρ3 s4.heap it src (i+1)) (itF:it∉foot ρ3) (itO:it∉own) (rv:Rd s4.heap ρ3 v y)
  (hq:match bind y m3 with | some m1=>wpSs (wpS Γ k fr n1) c m1 σ3 (forQ (wpFor src.ok bind (wpSs (wpS Γ k fr n1) c) (src.items.drop (i+1))) Q) | none=>False)
  (pn:∀ s6,ForI Γ env own fr ρ s it src (fun i m σ=>wpFor src.ok bind (wpSs (wpS Γ k fr n1) c) (src.items.drop i) m σ Q) (src.items.length+1 - (i+1)) s6→P .next s6∧P .cont s6) (pb:∀ s6,PostS Γ env own fr ρ s Q .next s6→P .brk s6) (pr:∀ v s6,PostS Γ env own fr ρ s Q (.ret v) s6→P (.ret v) s6) :
  wpAny (model Γ.prog Γ.w) A (assign target env v) (fun _ s5=>wpAny (model Γ.prog Γ.w) A (execs b env) P E s5) E s4:=by
 cases hbq:bind y m3 with
 | none=>rw [hbq] at hq;exact hq.elim
 | some m4=>
  rw [hbq] at hq
  refine wpAny_mono (hbind y v m3 m4 σ3 ρ3 s4 _ hbq R4 F4 rv) (fun _ s5 h5=>?_) fun _ _ x=>x
  cases h5 with
  | intro st5 R5 F5 k5 g5=>
   have hit5:ItAt ρ3 s5.heap it src (i+1):=hit4.mono g5 fun o e=>k5 _ _ itO e
   refine wpAny_mono (hb env own m4 n1 σ3 _ A _ s5 ρ3 hk hq hR R5 F5) (fun f s6 p=>?_) fun _ _ x=>x
   cases p with
   | intro fl m6 σ6 ρ6 st6 R6 F6 fi h6=>
    have st:=(st4.trans st5).trans st6
    have hit6:=hit5.mono (st6.grow fun a ha=>(F5.own a ha).2.2) fun o e=>st6.keep _ _ itF itO e
    have itF6:it∉foot ρ6:=hit5.nt.elim fun _ x=>not_foot_step st6 itF x.1
    cases fi with
    | next=>cases h6 with | mk m0 hs h6=>exact (pn s6 ⟨i+1,m0,σ6,ρ6,st,R6,F6.sub hs,hit6,itF6,rfl,h6⟩).1
    | cont=>cases h6 with | mk m0 hs h6=>exact (pn s6 ⟨i+1,m0,σ6,ρ6,st,R6,F6.sub hs,hit6,itF6,rfl,h6⟩).2
    | brk=>exact pb s6 ⟨_,m6,σ6,ρ6,st,R6,F6,.next,h6⟩
    | ret rd=>exact pr _ s6 ⟨_,m6,σ6,ρ6,st,R6,F6,.ret rd,h6⟩
theorem for_core {n n':Nat} {target iter e:PySem.Expr} {b:List Stmt} {c:List S} {pos:Pos} {rng:Bool} {bind:V→List (Nat×V)→Option (List (Nat×V))} {Q:SPost} {n1:Nat}
  (hb:SndB Γ k fr kd b c)
  (hbind:∀ (y:V) (v:Value) (m m1:List (Nat×V)) (σ:St) (ρ:List Slot) (s:Shared) (E:Value→Shared→Prop),bind y m=some m1→Rel Γ ρ σ s.heap→FrR Γ env own fr ρ m s.heap→Rd s.heap ρ v y→wpAny (model Γ.prog Γ.w) A (assign target env v) (fun _ s'=>StoredM Γ env own fr m1 ρ σ s s') E s)
  (he:(rng=true∧rangeOf? kd iter=some e)∨(rng=false∧e=iter)) (hset:∀ x,foldedSetIterable iter env x=pure x) (hk:∀ x,env.kindOf x=kd x) (hR:RoomB k A) (R:Rel Γ ρ σ s.heap) (F:FrR Γ env own fr ρ m s.heap)
  (h:wpE Γ k fr n' false (trE n kd e) m σ (kFor bind (wpSs (wpS Γ k fr n1) c) rng m Q)) :
  wpAny (model Γ.prog Γ.w) A (exec (.For target iter b [] pos) env) (PostS Γ env own fr ρ s Q) E s:=by
 refine PySem.wpAny_For (wpAny_mono (head_iter (QI:=fun xs src σ1=>wpFor src bind (wpSs (wpS Γ k fr n1) c) xs m σ1 Q) he (S_E n kd e) trE_plain hk h hR R F) (fun xv s1 h1=>wpAny_mono h1 (fun itv s2 h2=>?_) fun _ _ e=>e) fun _ _ e=>e) hset
 refine gabs fun gG gK=>?_
 obtain ⟨it,src,σ1,ρ1,rfl,st,R1,F1,hit,itn,itF,itO,it0,hq⟩:=h2
 refine gK ?_
 refine codeAny_forLoop_any (fun j s'=>ForI Γ env own fr ρ s it src (fun i m σ=>wpFor src.ok bind (wpSs (wpS Γ k fr n1) c) (src.items.drop i) m σ Q) j s') ?_ _ ⟨0,m,σ1,ρ1,st.loc F,R1,F1,hit,itF,rfl,hq⟩
 rintro j s3 ⟨i,m3,σ3,ρ3,st3,R3,F3,hit3,itF3,rfl,hw⟩
 have nt:∀ o,s3.heap.get? it=some o→NT o:=fun o e=>hit3.nt.elim fun o' x=>Jb7 (x.1.symm.trans e)▸x.2
 cases hx:src.items[i]? with
 | none=>
  rw [List.drop_eq_nil_of_le (List.getElem?_eq_none_iff.mp hx)] at hw
  refine op_next_end hR.2.2 hit3 hx hw.1 R3 fun h' kk=>wpAny_execs_nil ?_
  exact PostS.next (s':={ s3 with heap:=h' }) (st3.out itn kk) (R3.out kk itF3 (h0_none it0) nt) (F3.out kk itO nt) hw.2
 | some y=>
  obtain ⟨hlt,e⟩:=Ja3.mp hx
  rw [List.drop_eq_getElem_cons hlt,e] at hw
  refine op_next_item hit3 hx hw.1 R3 itF3 fun h4 tk v hs hit4 rv=>?_
  have kk:∀ b o,b≠it→s3.heap.get? b=some o→h4.get? b=some o:=fun b o nb e=>(hs.2 b nb).trans e
  refine it_go (s:={ s3 with heap:=h4,toks:=tk }) hit4 ?_
  have ml:=Nat.sub_lt_sub_left (Nat.lt_succ_of_lt hlt) (Jh4 i)
  exact for_turn hb hbind hk hR (s4:={ s3 with heap:=h4,toks:=tk }) (st3.out itn kk) (R3.out kk itF3 (h0_none it0) nt) (F3.out kk itO nt) hit4 itF3 itO (rv.mono (Grow.out kk nt)) hw.2 (fun s6 p=>⟨⟨_,ml,p⟩,⟨_,ml,p⟩⟩) (fun _ p=>p) fun _ _ p=>p
theorem SndS_rng {it:PySem.Expr} {f:PySem.Expr→Ex} {g:Bool→Ex→S} {x:Stmt} (h:∀ rng e,(rng=true∧rangeOf? kd it=some e)∨(rng=false∧e=it)→SndS Γ k fr kd x (g rng (f e))):SndS Γ k fr kd x (trRngS kd it f g):=by
 unfold trRngS
 cases q:rangeOf? kd it with
 | none=>exact h false it (.inr ⟨rfl,rfl⟩)
 | some e=>exact h true e (.inl ⟨rfl,q⟩)
theorem T_for1 {j:Nat} {iter e:PySem.Expr} {rng:Bool} {b:List Stmt} {c:List S} {p pos:Pos} (hset:isSetE iter=false) (hok:okStore kd (.Name (sy j) p)=true) (e2:j<nsym) (he:(rng=true∧rangeOf? kd iter=some e)∨(rng=false∧e=iter)) (hb:SndB Γ k fr kd b c):SndS Γ k fr kd (.For (.Name (sy j) p) iter b [] pos) (.for1 j rng (trE 60 kd e) c):=.mk fun env own m n σ Q A E s ρ hk h hR R F=>
 for_core (n:=60) (n':=60) (bind:=bind1 j) hb (fun y v m m1 σ ρ s E hm R F rv=>by cases hm;exact PyProof.Rows.assign_Name (op_store (okStore_name hk hok) e2 h.1 R F rv)) he (set_bad hset) hk hR R F h.2
theorem T_forU {es:List PySem.Expr} {ks:List Nat} {kk:Nat} {iter:PySem.Expr} {b:List Stmt} {c:List S} {p pos:Pos} (hset:isSetE iter=false) (hks:trNames es=some ks) (hok:es.all (okStore kd)=true) (hb:SndB Γ k fr kd b c):SndS Γ k fr kd (.For (.Tuple es kk p) iter b [] pos) (.forU ks false (trE 60 kd iter) c):=.mk fun env own m n σ Q A E s ρ hk h hR R F=>
 for_core (n:=60) (n':=60) (rng:=false) (bind:=unpackV ks) hb (fun y v m m1 σ ρ s E hm R F rv=>op_unpack hR.2.2 h.1 hks hok hm hk R F rv) (.inr ⟨rfl,rfl⟩) (set_bad hset) hk hR R F h.2
theorem T_asgE {n:Nat} {ts:List PySem.Expr} {v:PySem.Expr} {pos:Pos}:SndS Γ k fr kd (.Assign ts v pos) (trS (n+1) kd (.Assign ts v pos)):=by
 cases ts with
 | nil=>exact SndS.bad
 | cons t ts=>
  cases ts with
  | cons _ _=>exact SndS.bad
  | nil=>
   cases t with
   | Name x p=>
    refine SndS_iB fun hok=>SndS_oB fun j q=>?_
    obtain ⟨e1,e2⟩:=symId_sy q
    subst e1
    exact T_asg hok e2
   | Tuple es kk p=>exact SndS_iB fun hok=>SndS_oB fun ks q=>T_unp q (Jd5.mp hok).1 (by simpa using (Jd5.mp hok).2)
   | Attribute o a p=>
    refine SndS_oB fun j q=>?_
    obtain ⟨e1,e2⟩:=symId_sy q
    subst e1
    exact T_setA
   | Subscript o i p=>exact SndS_iB fun hs=>T_setI (by simpa using hs)
   | _=>exact SndS.bad
theorem T_augE {n:Nat} {t:PySem.Expr} {op:Operator} {v:PySem.Expr} {pos:Pos}:SndS Γ k fr kd (.AugAssign t op v pos) (trS (n+1) kd (.AugAssign t op v pos)):=by
 cases t with
 | Name x p=>
  refine SndS_iB fun hok=>SndS_oB fun j q=>?_
  obtain ⟨e1,e2⟩:=symId_sy q
  subst e1
  exact T_aug hok e2
 | Attribute a nm p=>
  refine SndS_oB fun j q=>?_
  obtain ⟨e1,e2⟩:=symId_sy q
  subst e1
  exact T_augA
 | _=>exact SndS.bad
theorem T_forE {n:Nat} {t it:PySem.Expr} {b o:List Stmt} {pos:Pos} (ihb:SndB Γ k fr kd b (b.map (trS n kd))):SndS Γ k fr kd (.For t it b o pos) (trS (n+1) kd (.For t it b o pos)):=by
 cases o with
 | cons _ _=>exact SndS.bad
 | nil=>
  refine SndS_iB fun hs=>?_
  have hs:isSetE it=false:=by simpa using hs
  cases t with
  | Name x p=>
   refine SndS_iB fun hok=>SndS_oB fun j q=>?_
   obtain ⟨e1,e2⟩:=symId_sy q
   subst e1
   exact SndS_rng fun rng e he=>T_for1 hs hok e2 he ihb
  | Tuple es kk p=>exact SndS_iB fun hok=>SndS_oB fun ks q=>SndS_iB fun _=>T_forU hs q hok ihb
  | _=>exact SndS.bad
theorem T_S (n:Nat):∀ st:Stmt,SndS Γ k fr kd st (trS n kd st):=by
 induction n with
 | zero=>exact fun st=>SndS.bad
 | succ n ih=>
  have ihb:∀ b:List Stmt,SndB Γ k fr kd b (b.map (trS n kd)):=fun b=>T_block fun st _=>ih st
  intro st
  cases st with
  | Return v pos=>
   cases v with
   | none=>exact T_retN
   | some e=>exact T_ret
  | Continue pos=>exact T_cont
  | Assign ts v pos=>exact T_asgE
  | AugAssign t op v pos=>exact T_augE
  | If t a b pos=>exact T_if (ihb a) (ihb b)
  | For t it b o pos=>exact T_forE (ihb b)
  | While t b o pos=>
   cases o with
   | nil=>exact T_while (ihb b)
   | cons _ _=>exact SndS.bad
  | Expr e pos=>exact SndS_iB fun hc=>T_expr (by simpa using hc)
  | _=>exact SndS.bad
theorem T_B (n:Nat) (b:List Stmt):SndB Γ k fr kd b (b.map (trS n kd)):=T_block fun st _=>T_S n st
end
end
section
structure FunOk (Γ:Gl) (fd:FuncData) (ps:List Nat) (code:List S):Prop where
 body:∃ body,fd.body=.stmts body∧body.map (trS 40 fun x=>fd.scope.names.lookup x)=code
 globs:fd.globals=mainGlobals
 bui:fd.builtins=builtinsNs
 kind:fd.scope.kind=.function
 co:fd.scope.isCoroutine=false
 gen:fd.scope.isGenerator=false
 bind:∀ (vs:List Value) (s:Shared),Γ.K.In s.heap→vs.length=ps.length→BindsTo s fd ⟨vs,[]⟩ ((ps.map sy).zip vs)
 nd:ps.Nodup
 lt:∀ p∈ps,p<nsym
structure DefOk (Γ:Gl) (a:Addr) (ps:List Nat) (code:List S):Prop where
 ex:∃ oc od osl fd,Γ.K.lookup a=some ⟨oc,od,.func fd,osl⟩∧FunOk Γ fd ps code∧codeIn Γ.K fd.code fd.qualname=true∧fd.closure=[]∧(∀ x∈fd.scope.names,x.2≠.free)∧
  (∀ p∈ps,fd.scope.names.lookup (sy p)=some .local∨fd.scope.names.lookup (sy p)=some .cell)
theorem look_step {α β:Type} [BEq α] {l:List (α×β)} {x z:α} {v:β} (h:(l.lookup z).isSome=true):(((x,v)::l).lookup z).isSome=true:=by
 rw [List.lookup_cons]
 cases z == x with
 | true=>rfl
 | false=>exact h
theorem cells_some (names:List (Str×NameKind)) (n:Nat) (acc:List (Str×Addr)) (z:Str) (h:(z,NameKind.cell)∈names∨(acc.lookup z).isSome=true):((cellsFrom n names acc).lookup z).isSome=true:=by
 induction names generalizing n acc with
 | nil=>exact h.elim (fun q=>by cases q) id
 | cons p r ih=>
  obtain ⟨x,kk⟩:=p
  unfold cellsFrom
  by_cases hk:kk=.cell
  ·rw [if_pos (by rw [hk];decide)]
   refine ih _ _ (h.elim (fun q=>?_) fun q=>.inr (look_step q))
   exact (Jc0.mp q).elim (fun e=>.inr (by cases e;rw [List.lookup_cons_self];rfl)) .inl
  ·rw [if_neg (by simpa using hk)]
   refine ih _ _ (h.imp (fun q=>?_) id)
   exact (Jc0.mp q).elim (fun e=>absurd (congrArg Prod.snd e).symm hk) id
section
variable {ρ:List Slot} {h:Heap}
theorem look_cons {p z:Nat} {r pv:V} {l:List (Nat×V)} (e:look ((p,r)::l) z=some pv):(p=z∧r=pv)∨look l z=some pv:=by
 unfold look at e
 cases hb:Jc5 p z with
 | true=>rw [hb] at e;exact .inl ⟨Jb9 hb,Jb7 e⟩
 | false=>rw [hb] at e;exact .inr e
noncomputable def BG (ko:Str→Option NameKind) (h:Heap) (ρ:List Slot) (ps:List Nat) (rs:List V) (L C mL mC:Str→Option Value):Prop:=
 (∀ z pv,look (ps.zip rs) z=some pv→(ko (sy z)=some .local→∃ v,L (sy z)=some v∧Rd h ρ v pv)∧(ko (sy z)≠some .local→∃ v,C (sy z)=some v∧Rd h ρ v pv))∧
  (∀ x:Str,(∀ p∈ps,sy p≠x)→L x=mL x∧C x=mC x)
theorem binds_get (ko:Str→Option NameKind) {ps:List Nat} (hnd:ps.Nodup) (hlt:∀ p∈ps,p<nsym):∀ {vs:List Value} {rs:List V} (mL mC:Str→Option Value),RdL h ρ vs rs→ps.length=rs.length→BG ko h ρ ps rs (bindL ko ((ps.map sy).zip vs) mL) (bindC ko ((ps.map sy).zip vs) mC) mL mC:=by
 induction ps with
 | nil=>exact fun mL mC r hl=>⟨(fun z pv e=>(by cases e)),fun x _=>⟨rfl,rfl⟩⟩
 | cons p ps ih=>
  intro vs rs mL mC r hl
  cases r with
  | nil=>cases hl
  | @cons v vs r0 rs a b=>
   have hnd:=Jb6.mp hnd
   have ne:∀ q∈ps,sy q≠sy p:=fun q hq e=>hnd.1 (sy_inj (hlt q (.tail _ hq)) (hlt p (.head _)) e▸hq)
   have ih:=fun mL mC=>ih hnd.2 (fun q hq=>hlt q (.tail _ hq)) (vs:=vs) (rs:=rs) mL mC b (Nat.succ.inj hl)
   by_cases hk:ko (sy p)=some .local
   ·have e1:bindL ko (((p::ps).map sy).zip (v::vs)) mL=bindL ko ((ps.map sy).zip vs) (fun y=>if y=sy p then some v else mL y):=congrArg (bindL ko ((ps.map sy).zip vs)) (if_pos hk)
    have e2:bindC ko (((p::ps).map sy).zip (v::vs)) mC=bindC ko ((ps.map sy).zip vs) mC:=congrArg (bindC ko ((ps.map sy).zip vs)) (if_pos hk)
    rw [e1,e2]
    have I:=ih (fun y=>if y=sy p then some v else mL y) mC
    exact ⟨fun z pv e=>(look_cons e).elim (fun q=>q.1▸q.2▸⟨fun _=>⟨v,(I.2 _ ne).1.trans (if_pos rfl),a⟩,fun hn=>absurd hk hn⟩) (I.1 z pv),
     fun x hx=>⟨(I.2 x fun q hq=>hx q (.tail _ hq)).1.trans (if_neg fun q=>hx p (.head _) q.symm),(I.2 x fun q hq=>hx q (.tail _ hq)).2⟩⟩
   ·have e1:bindL ko (((p::ps).map sy).zip (v::vs)) mL=bindL ko ((ps.map sy).zip vs) mL:=congrArg (bindL ko ((ps.map sy).zip vs)) (if_neg hk)
    have e2:bindC ko (((p::ps).map sy).zip (v::vs)) mC=bindC ko ((ps.map sy).zip vs) (fun y=>if y=sy p then some v else mC y):=congrArg (bindC ko ((ps.map sy).zip vs)) (if_neg hk)
    rw [e1,e2]
    have I:=ih mL (fun y=>if y=sy p then some v else mC y)
    exact ⟨fun z pv e=>(look_cons e).elim (fun q=>q.1▸q.2▸⟨fun q=>absurd q hk,fun _=>⟨v,(I.2 _ ne).2.trans (if_pos rfl),a⟩⟩) (I.1 z pv),
     fun x hx=>⟨(I.2 x fun q hq=>hx q (.tail _ hq)).1,(I.2 x fun q hq=>hx q (.tail _ hq)).2.trans (if_neg fun q=>hx p (.head _) q.symm)⟩⟩
theorem zip_look {ps:List Nat} {z:Nat} {pv:V}:∀ {rs:List V},look (ps.zip rs) z=some pv→z∈ps:=by
 induction ps with
 | nil=>exact fun e=>(by cases e)
 | cons p ps ih=>
  intro rs e
  cases rs with
  | nil=>cases e
  | cons r rs=>exact (look_cons e).elim (fun q=>q.1▸.head _) fun q=>.tail _ (ih q)
end
section
variable {Γ:Gl} {k:Nat} {σ:St} {Q:V→St→Prop} {ps:List Nat} {code:List S} {f:Fn} {args:List V} {n:Nat}
theorem size_le {ρ:List Slot} {σ:St} {h:Heap} (R:Rel Γ ρ σ h):Γ.h₀.objs.size≤h.objs.size:=Γ.top h R.base
theorem body_run {kd:Kd} {fr:Frees} {env:Env} {own:List Addr} {m:List (Nat×V)} {ρ ρ1:List Slot} {s s1:Shared} {A:Around} {E:Value→Shared→Prop} {P:Flow→Shared→Prop} {body:List Stmt} (hko:∀ z,env.kindOf z=kd z) (h:wpSs (wpS Γ k fr n) (body.map (trS 40 kd)) m σ (retQ Q)) (hR:RoomB k A)
  (R1:Rel Γ ρ1 σ s1.heap) (F:FrR Γ env own fr ρ1 m s1.heap) (st0:Step [] ρ ρ1 s s1) (hd:∀ a∈own,s.heap.get? a=none) (hn:∀ s2,RetP Γ ρ s Q (.ok (.ret .none)) s2→P .next s2∧P .cont s2∧P .brk s2) (hr:∀ v s2,RetP Γ ρ s Q (.ok (.ret v)) s2→P (.ret v) s2) :
  wpAny (model Γ.prog Γ.w) A (execs body env) P E s1:=
 wpAny_mono (T_B 40 body env own m n σ _ A E s1 ρ1 hko h hR R1 F) (fun fl s2 p=>by
  cases p with
  | intro fl' m2 σ2 ρ2 st2 R2 F2 fi q=>
   have st:=st0.join st2 hd
   cases fi with
   | next=>exact (hn s2 ⟨_,_,σ2,ρ2,rfl,st,R2,.none,q⟩).1
   | cont=>exact (hn s2 ⟨_,_,σ2,ρ2,rfl,st,R2,.none,q⟩).2.1
   | brk=>exact (hn s2 ⟨_,_,σ2,ρ2,rfl,st,R2,.none,q⟩).2.2
   | ret rd=>exact hr _ s2 ⟨_,_,σ2,ρ2,rfl,st,R2,rd,q⟩) fun _ _ x=>x
theorem WC_def (D:∀ a ρ,f.At Γ ρ a→DefOk Γ a ps code) (hl:args.length=ps.length) (h:wpSs (wpS Γ k [] n) code (ps.zip args) σ (retQ Q)):WC Γ (k+1) f args σ Q:=by
 refine ⟨fun A s ρ vs a hR R ra ha=>?_⟩
 refine gabs fun gG gK=>?_
 obtain ⟨oc,od,osl,fd,hK,ok,hcd,hcl,hfree,hps⟩:=(D a ρ ha).ex
 have X:Γ.K.In s.heap:=Γ.X.keeps R.base
 obtain ⟨body,hbody,hcode⟩:=ok.body
 refine gK ?_
 have hlen:=ra.length
 refine codeAny_call_function hR.dep (X _ _ hK) rfl ok.co ok.gen hbody (codeRec_of X hcd) (ok.bind vs s X (ra.length.trans hl) _ _ _ _ ?_)
 rw [hcl]
 have hcs:=fun p hp=>cells_some fd.scope.names (s.heap.objs.size+1) [] (sy p) (.inl (lookup_mem hp))
 refine wpAny_newFunctionEnv_cells ok.kind (fun x hx=>?_) fun env he s' x=>?_
 ·refine gabs fun gG gK=>?_
  obtain ⟨n',v'⟩:=x
  obtain ⟨i,hi⟩:=List.mem_iff_getElem?.mp hx
  have:=List.of_mem_zip hx
  obtain ⟨p,hp,rfl⟩:=Jf2.mp this.1
  refine gK ?_
  rcases hps p hp with q | q
  ·exact .inl q
  ·exact .inr ⟨q,hcs p q⟩
 ·refine gabs fun gG gK=>?_
  obtain ⟨h₁,tk,rfl,kk⟩:=x.done
  have hns:=x.toInCall.ns
  have hL:env.locals=s.heap.objs.size:=by rw [he];rfl
  have hcells:env.cells=cellsFrom (s.heap.objs.size+1) fd.scope.names []:=by rw [he];rfl
  have hko:∀ z,env.kindOf z=fd.scope.names.lookup z:=fun z=>by rw [he];rfl
  have R1:Rel Γ ρ σ h₁:=R.keeps kk
  have ra1:RdL h₁ ρ vs args:=ra.mono (Grow.of_keeps kk)
  obtain ⟨bg,_⟩:=binds_get (h:=h₁) (ρ:=ρ) env.kindOf ok.nd ok.lt (fun _=>none) (fun _=>none) ra1 hl.symm
  refine gK ?_
  let own:=env.locals::(env.cells.filter fun p=>env.cells.lookup p.1 == some p.2).map (·.2)
  have hown:∀ a∈own,a=env.locals∨∃ nm,env.cells.lookup nm=some a:=fun a ha=>by
   rcases Jc0.mp ha with q | q
   ·exact .inl q
   ·obtain ⟨p,hp,rfl⟩:=Jf2.mp q
    exact .inr ⟨p.1,eq_of_beq (List.mem_filter.mp hp).2⟩
  have hmem:∀ nm c,env.cells.lookup nm=some c→c∈own:=fun nm c e=>.tail _ (Jf2.mpr ⟨(nm,c),List.mem_filter.mpr ⟨mem_of_lookup e,by simp [e]⟩,rfl⟩)
  have hge:∀ a∈own,s.heap.objs.size≤a:=fun a ha=>by
   rcases hown a ha with rfl | ⟨nm,e⟩
   ·rw [hL];exact Jd7 _
   ·exact Jc4 (by have:=x.above nm a (mem_of_lookup e);rw [hL] at this;exact this)
  have hdead:∀ a∈own,s.heap.get? a=none:=fun a ha=>by
   cases e:s.heap.get? a with
   | none=>rfl
   | some o=>exact absurd (Heap.lt_size e) (Nat.not_lt.mpr (hge a ha))
  have F:FrR Γ env own [] ρ (ps.zip args) h₁:=by
   refine ⟨by rw [he];exact ok.kind,by rw [he];exact ok.globs,by rw [he];exact ok.bui,⟨_,hns,fun z pv hz hk=>(bg z pv hz).1 hk⟩,fun z hz=>?_,fun z l hl=>absurd hl (by simp),fun z hz _=>?_,fun a b c h1 h2 _ _=>name_of_addr x.apart (mem_of_lookup h1) (mem_of_lookup h2),.head _,fun a ha=>?_,fun z l hl=>absurd hl (by simp),fun z hz=>?_,fun z pv hz=>ok.lt z (zip_look hz)⟩
   ·rw [hko] at hz
    rw [hcells]
    exact Jg9.mp (hcs z hz)
   ·have hz':=hz
    rw [hko] at hz'
    obtain ⟨c,hc⟩:=Jg9.mp (hcs z hz')
    rw [← hcells] at hc
    refine ⟨c,_,hc,x.cell _ _ hc,hmem _ _ hc,fun q=>?_,fun pv hp=>(bg z pv hp).2 (by rw [hz];decide)⟩
    have:=x.above _ _ (mem_of_lookup hc)
    rw [q] at this;exact Nat.lt_irrefl _ this
   ·refine ⟨fun hf=>?_,Ja1 (size_le R) (hge a ha),?_⟩
    ·obtain ⟨o,e,_⟩:=R.live a hf
     rw [hdead a ha] at e;cases e
    ·rcases hown a ha with rfl | ⟨nm,e⟩
     ·exact ns_nt hns
     ·obtain ⟨o,ho,hd⟩:=x.cell nm a e
      exact ⟨o,ho,fun _ _ q=>by subst q;cases hd⟩
   ·rw [hko] at hz
    exact absurd rfl (hfree _ (lookup_mem hz))
  refine ⟨(Γ.nolimit.keeps R.base).keeps kk,codeAny_func ?_⟩
  subst hcode
  exact body_run hko h (hR.deeper env) (s1:={ s with heap:=h₁,toks:=tk }) R1 F (Step.of_keeps kk rfl rfl) hdead (fun _ p=>⟨p,p,p⟩) fun _ _ p=>p
structure ClosOk (Γ:Gl) (kk:Nat) (ps frn:List Nat) (code:List S):Prop where
 ex:∀ cs d o,Γ.fnObj kk cs d o→∃ oc od osl fd,o=⟨oc,od,.func fd,osl⟩∧FunOk Γ fd ps code∧fd.closure=cs∧fd.code=.ref d∧(∀ od,Γ.codeObj kk od→∃ vs t,od.data=.fields vs∧vs[1]?=some (.str fd.qualname t))∧
  (∀ x∈fd.scope.names,x.2≠.cell)∧(∀ p∈ps,fd.scope.names.lookup (sy p)=some .local)∧(∀ x∈frn,fd.scope.names.lookup (sy x)≠some .local)∧(∀ x,fd.scope.names.lookup (sy x)=some .free→∃ c,cs.lookup (sy x)=some c)
theorem binds_rev {h:Heap} {ρ:List Slot} {z:Nat} {pv:V} {ps:List Nat} (hnd:ps.Nodup) (hlt:∀ p∈ps,p<nsym):∀ {vs:List Value} {rs:List V},RdL h ρ vs rs→ps.length=rs.length→look (ps.zip rs) z=some pv→∃ v,(((ps.map sy).zip vs).reverse.lookup (sy z))=some v∧Rd h ρ v pv:=by
 induction ps with
 | nil=>exact fun _ _ e=>(by cases e)
 | cons p ps ih=>
  intro vs rs r hl e
  cases r with
  | nil=>cases hl
  | @cons v vs r0 rs a b=>
   rw [Jb6] at hnd
   show ∃ v',((sy p,v)::(ps.map sy).zip vs).reverse.lookup (sy z)=some v'∧_
   rw [Jh1,List.lookup_append]
   refine (look_cons e).elim (fun q=>?_) fun q=>?_
   ·obtain ⟨rfl,rfl⟩:=q
    have:(((ps.map sy).zip vs).reverse.lookup (sy p))=none:=by
     cases q:((ps.map sy).zip vs).reverse.lookup (sy p) with
     | none=>rfl
     | some w=>
      have:=List.of_mem_zip (List.mem_reverse.mp (lookup_mem q))
      obtain ⟨p',hp',e'⟩:=Jf2.mp this.1
      exact absurd (sy_inj (hlt p' (.tail _ hp')) (hlt p (.head _)) e'▸hp') hnd.1
    exact ⟨v,by rw [this];exact (congrArg _ (List.lookup_cons_self ..)).trans rfl,a⟩
   ·obtain ⟨w,h1,h2⟩:=ih hnd.2 (fun q hq=>hlt q (.tail _ hq)) b (Nat.succ.inj hl) q
    exact ⟨w,by rw [h1];rfl,h2⟩
theorem WC_clos {l kk:Nat} {cl:Frees} {frn:List Nat} (D:ClosOk Γ kk ps frn code) (he:σ l=some (.fn kk cl)) (hcl:∀ p∈cl,p.1∈frn) (hl:args.length=ps.length) (h:wpSs (wpS Γ k cl n) code (ps.zip args) σ (retQ Q)):WC Γ (k+1) (.clos l) args σ Q:=by
 refine ⟨fun A s ρ vs a hR R ra ha=>?_⟩
 refine gabs fun gG gK=>?_
 obtain ⟨sl,hs,rfl⟩:=ha
 refine gK ?_
 have hc:=R.cells l _ sl he hs
 cases sl with
 | one b=>exact hc.elim
 | two a d=>
  refine gabs fun gG gK=>?_
  obtain ⟨cs,o,od,g,gd,fo,co,hfr⟩:=hc
  obtain ⟨oc,odd,osl,fd,rfl,ok,hcs,hcode',hrec,hcell,hps,hfrn,hfree⟩:=D.ex cs d o fo
  obtain ⟨cvs,ct,cd1,cd2⟩:=hrec od co
  have X:Γ.K.In s.heap:=Γ.X.keeps R.base
  obtain ⟨body,hbody,hcode⟩:=ok.body
  refine gK ?_
  have hlen:=ra.length
  refine codeAny_call_function hR.dep g rfl ok.co ok.gen hbody ⟨d,od,cvs,ct,hcode',gd,cd1,cd2⟩ (ok.bind vs s X (ra.length.trans hl) _ _ _ _ ?_)
  refine wpAny_newFunctionEnv hcell (fun x hx=>?_) (fun h₁ hns hsb=>?_) ok.kind
  ·refine gabs fun gG gK=>?_
   obtain ⟨n',v'⟩:=x
   have:=List.of_mem_zip hx
   obtain ⟨p,hp,rfl⟩:=Jf2.mp this.1
   refine gK ?_
   exact hps p hp
  ·have kk:∀ b o,s.heap.get? b=some o→h₁.get? b=some o:=fun b o e=>hsb.extBut b o (fun q=>by subst q;rw [push_none] at e;cases e) (Heap.get?_push_of_some _ e)
   generalize henv:newEnv fd.scope s.heap.objs.size fd.globals fd.closure (fd.qualname++".<locals>.") (some (Slot.two a d).main) fd.code none fd.builtins=env
   have hL:env.locals=s.heap.objs.size:=by rw [← henv];rfl
   have hcells:env.cells=cs:=by rw [← henv];exact hcs
   have hko:∀ z,env.kindOf z=fd.scope.names.lookup z:=fun z=>by rw [← henv];rfl
   have R1:Rel Γ ρ σ h₁:=R.keeps kk
   have ra1:RdL h₁ ρ vs args:=ra.mono (Grow.of_keeps kk)
   have hdead:∀ a∈[env.locals],s.heap.get? a=none:=fun a ha=>by
    simp at ha;subst ha;rw [hL];exact push_none _
   rw [← hL] at hns
   have F:FrR Γ env [env.locals] cl ρ (ps.zip args) h₁:=by
    refine ⟨by rw [← henv];exact ok.kind,by rw [← henv];exact ok.globs,by rw [← henv];exact ok.bui,⟨_,hns,fun z pv hz _=>binds_rev ok.nd ok.lt ra1 hl.symm hz⟩,fun z hz=>?_,fun z l hl=>?_,fun z hz _=>?_,fun a b c _ _ h3 _=>?_,.head _,fun a ha=>?_,fun z l hl hz=>?_,fun z hz=>?_,fun z pv hz=>ok.lt z (zip_look hz)⟩
    ·rw [hko] at hz;exact absurd rfl (hcell _ (lookup_mem hz))
    ·rw [hko];exact hfrn z (hcl _ hl)
    ·rw [hko] at hz;exact absurd rfl (hcell _ (lookup_mem hz))
    ·rw [hko] at h3;exact absurd rfl (hcell _ (lookup_mem h3))
    ·simp at ha;subst ha
     refine ⟨fun hf=>?_,by rw [hL];exact size_le R,ns_nt hns⟩
     obtain ⟨o,e,_⟩:=R.live _ hf
     rw [hL,push_none] at e;cases e
    ·obtain ⟨c,e1,e2⟩:=hfr z l hl
     exact ⟨c,by rw [hcells];exact e1,e2⟩
    ·rw [hko] at hz;rw [hcells];exact hfree z hz
   refine ⟨(Γ.nolimit.keeps R.base).keeps kk,codeAny_func ?_⟩
   subst hcode
   exact body_run hko h (hR.deeper env) (s1:={ s with heap:=h₁,toks:=_ }) R1 F (Step.of_keeps kk rfl rfl) hdead (fun _ p=>⟨p,p,p⟩) fun _ _ p=>p
end
end
section
noncomputable def c_CodeMaker___init__:List S:=[
 .setA (.var 143) 152 (.var 152),
 .setA (.var 143) 54 (.list [])]
noncomputable def p_CodeMaker___init__:List Nat:=[143,152]
noncomputable def c_CodeMaker_emit:List S:=[
 .expr (.meth (.attr (.var 143) 54) 37 [(.var 136)]),
 .ret (.bin .Sub (.bi 199 [(.attr (.var 143) 54)]) (.int 1))]
noncomputable def p_CodeMaker_emit:List Nat:=[143,136]
noncomputable def c_CodeMaker_here:List S:=[
 .ret (.bi 199 [(.attr (.var 143) 54)])]
noncomputable def p_CodeMaker_here:List Nat:=[143]
noncomputable def c_CodeMaker_new_slot:List S:=[
 .asg 151 (.attr (.var 143) 152),
 .augA (.var 143) 152 .Add (.int 1),
 .ret (.var 151)]
noncomputable def p_CodeMaker_new_slot:List Nat:=[143]
noncomputable def c_CodeMaker_aim:List S:=[
 .asg 136 (.item (.attr (.var 143) 54) (.var 33)),
 .ifs (.cmp .eq (.item (.var 136) (.int 0)) (.str 69)) [.setI (.attr (.var 143) 54) (.var 33) (.tup [(.str 69),(.item (.var 136) (.int 1)),(.meth (.var 143) 82 [])])] [.setI (.attr (.var 143) 54) (.var 33) (.bin .Add (.slice (.var 136) none (some (.neg (.int 1)))) (.tup [(.meth (.var 143) 82 [])]))]]
noncomputable def p_CodeMaker_aim:List Nat:=[143,33]
noncomputable def c_CodeMaker_repetition:List S:=[
 .asg 151 (.meth (.var 143) 111 []),
 .expr (.meth (.var 143) 67 [(.tup [(.str 166),(.var 151),(.item (.var 138) (.int 1)),(.item (.var 138) (.int 2))])]),
 .asg 156 (.meth (.var 143) 67 [(.tup [(.str 34),(.var 151),(.neg (.int 1))])]),
 .expr (.meth (.var 143) 107 [(.item (.var 138) (.int 3))]),
 .expr (.meth (.var 143) 67 [(.tup [(.str 92),(.var 156)])]),
 .expr (.meth (.var 143) 35 [(.var 156)])]
noncomputable def p_CodeMaker_repetition:List Nat:=[143,138]
noncomputable def c_CodeMaker_scoped:List S:=[
 .ifs (.cmp .lt (.var 139) (.int 0)) [.ret (.neg (.int 1))] [],
 .ret (.meth (.var 143) 67 [(.tup [(.str 69),(.var 139),(.neg (.int 1))])])]
noncomputable def p_CodeMaker_scoped:List Nat:=[143,139]
noncomputable def c_CodeMaker_close:List S:=[
 .ifs (.cmp .ge (.var 33) (.int 0)) [.expr (.meth (.var 143) 67 [(.tup [(.str 97),(.var 139)])]),
  .expr (.meth (.var 143) 35 [(.var 33)])] []]
noncomputable def p_CodeMaker_close:List Nat:=[143,33,139]
noncomputable def c_CodeMaker_block:List S:=[
 .asg 114 (.meth (.var 143) 140 [(.item (.var 138) (.int 2))]),
 .for1 88 false (.item (.var 138) (.int 1)) [.expr (.meth (.var 143) 107 [(.var 88)])],
 .expr (.meth (.var 143) 52 [(.var 114),(.item (.var 138) (.int 2))])]
noncomputable def p_CodeMaker_block:List Nat:=[143,138]
noncomputable def c_CodeMaker_make:List S:=[
 .ifs (.isN (.var 138)) [.retN] [],
 .asg 161 (.item (.var 138) (.int 0)),
 .ifs (.cmp .eq (.var 161) (.str 144)) [.expr .bad] [.ifs (.cmp .eq (.var 161) (.str 188)) [.expr .bad] [.ifs (.cmp .eq (.var 161) (.str 189)) [.expr .bad] [.ifs (.cmp .eq (.var 161) (.str 190)) [.expr .bad] [.ifs (.cmp .eq (.var 161) (.str 43)) [.expr (.meth (.var 143) 43 [(.var 138)])] [.ifs (.cmp .eq (.var 161) (.str 191)) [.expr .bad] [.ifs (.inn (.var 161) (.tup [(.str 192),(.str 193),(.str 128),(.str 194)])) [.expr (.meth (.var 143) 214 [(.var 138)])] [.ifs (.inn (.var 161) (.tup [(.str 195),(.str 196),(.str 178)])) [.expr .bad] [.expr (.meth (.var 143) 67 [(.var 138)])]]]]]]]]]
noncomputable def p_CodeMaker_make:List Nat:=[143,138]
noncomputable def c_CodeMaker_looping:List S:=[
 .ifs (.cmp .eq (.item (.var 138) (.int 0)) (.str 192)) [.expr (.meth (.var 143) 107 [(.item (.var 138) (.int 1))]),
  .expr .bad] [.ifs (.cmp .eq (.item (.var 138) (.int 0)) (.str 193)) [.expr .bad] [.ifs (.cmp .eq (.item (.var 138) (.int 0)) (.str 128)) [.expr (.meth (.var 143) 129 [(.var 138)])] [.asg 156 (.meth (.var 143) 82 []),
    .expr (.meth (.var 143) 107 [(.item (.var 138) (.int 1))]),
    .expr (.meth (.var 143) 67 [(.tup [(.str 92),(.var 156)])])]]]]
noncomputable def p_CodeMaker_looping:List Nat:=[143,138]
noncomputable def c_compile_routine:List S:=[
 .asg 108 (.new 3 [(.bi 199 [(.attr (.var 134) 152)])]),
 .asg 114 (.meth (.var 108) 140 [(.var 139)]),
 .expr (.meth (.var 108) 107 [(.attr (.var 134) 44)]),
 .expr (.meth (.var 108) 52 [(.var 114),(.var 139)]),
 .expr (.meth (.var 108) 67 [(.tup [(.str 131)])]),
 .ret (.tup [(.attr (.var 108) 54),(.attr (.var 108) 152)])]
noncomputable def p_compile_routine:List Nat:=[134,139]
noncomputable def c_mask:List S:=[
 .ret (.bin .Sub (.bin .LShift (.int 1) (.var 177)) (.int 1))]
noncomputable def p_mask:List Nat:=[177]
noncomputable def c_vec:List S:=[
 .asg 78 (.call 110 [(.var 177)]),
 .ret (.tup [(.var 177),(.bin .BitAnd (.var 32) (.var 78)),(.bin .BitAnd (.var 40) (.var 78))])]
noncomputable def p_vec:List Nat:=[177,32,40]
noncomputable def c_all_x:List S:=[
 .asg 78 (.call 110 [(.var 177)]),
 .ret (.tup [(.var 177),(.var 78),(.var 78)])]
noncomputable def p_all_x:List Nat:=[177]
noncomputable def c_to_int:List S:=[
 .unp [177,32,40] (.var 173),
 .ifs (.cmp .ne (.var 40) (.int 0)) [.ret .none] [],
 .ifs (.ands [(.var 149),(.cmp .eq (.bin .RShift (.var 32) (.bin .Sub (.var 177) (.int 1))) (.int 1))]) [.ret (.bin .Sub (.var 32) (.bin .LShift (.int 1) (.var 177)))] [],
 .ret (.var 32)]
noncomputable def p_to_int:List Nat:=[173,149]
noncomputable def c_code:List S:=[
 .ret (.bin .Add (.bin .BitAnd (.bin .RShift (.item (.var 173) (.int 1)) (.var 86)) (.int 1)) (.bin .Mult (.int 2) (.bin .BitAnd (.bin .RShift (.item (.var 173) (.int 2)) (.var 86)) (.int 1))))]
noncomputable def p_code:List Nat:=[173,86]
noncomputable def c_extend:List S:=[
 .ifs (.cmp .le (.var 177) (.item (.var 173) (.int 0))) [.ret (.call 176 [(.var 177),(.item (.var 173) (.int 1)),(.item (.var 173) (.int 2))])] [],
 .ifs (.not (.var 149)) [.ret (.tup [(.var 177),(.item (.var 173) (.int 1)),(.item (.var 173) (.int 2))])] [],
 .asg 73 (.bin .BitXor (.call 110 [(.var 177)]) (.call 110 [(.item (.var 173) (.int 0))])),
 .asg 169 (.call 54 [(.var 173),(.bin .Sub (.item (.var 173) (.int 0)) (.int 1))]),
 .asg 32 (.bin .BitOr (.item (.var 173) (.int 1)) (.ite (.bin .BitAnd (.var 169) (.int 1)) (.var 73) (.int 0))),
 .asg 40 (.bin .BitOr (.item (.var 173) (.int 2)) (.ite (.bin .BitAnd (.var 169) (.int 2)) (.var 73) (.int 0))),
 .ret (.tup [(.var 177),(.var 32),(.var 40)])]
noncomputable def p_extend:List Nat:=[173,177,149]
noncomputable def c_whole_of:List S:=[
 .ret (.call 167 [(.call 70 [(.var 66),(.var 59)]),(.var 149)])]
noncomputable def p_whole_of:List Nat:=[66,149,59]
noncomputable def c_evaluate:List S:=[
 .asg 161 (.item (.var 66) (.int 0)),
 .ifs (.cmp .eq (.var 161) (.str 57)) [.ret (.tup [(.item (.var 66) (.int 1)),(.item (.var 66) (.int 2)),(.item (.var 66) (.int 3))])] [],
 .ifs (.cmp .eq (.var 161) (.str 146)) [.ret (.meth (.attr (.var 59) 157) 79 [(.item (.var 66) (.int 2))])] [],
 .ifs (.cmp .eq (.var 161) (.str 101)) [.ret (.item (.attr (.var 59) 76) (.item (.var 66) (.int 2)))] [],
 .ifs (.cmp .eq (.var 161) (.str 207)) [.ret .bad] [],
 .ifs (.cmp .eq (.var 161) (.str 208)) [.ret .bad] [],
 .ifs (.cmp .eq (.var 161) (.str 209)) [.ret (.call 72 [(.call 70 [(.item (.var 66) (.int 2)),(.var 59)]),(.item (.var 66) (.int 1)),(.item (.var 66) (.int 3))])] [],
 .ifs (.cmp .eq (.var 161) (.str 210)) [.ret .bad] [],
 .ifs (.cmp .eq (.var 161) (.str 122)) [.ret .bad] [],
 .ifs (.cmp .eq (.var 161) (.str 183)) [.ret .bad] [],
 .ifs (.cmp .eq (.var 161) (.str 211)) [.ret .bad] [],
 .ifs (.cmp .eq (.var 161) (.str 212)) [.ret .bad] [],
 .ifs (.cmp .eq (.var 161) (.str 213)) [.ret .bad] [],
 .ifs (.cmp .eq (.var 161) (.str 46)) [.ret (.meth (.var 59) 46 [(.item (.var 66) (.int 2)),(.comp (.call 70 [(.var 118),(.var 59)]) 118 false (.item (.var 66) (.int 3)) none)])] [],
 .ifs (.cmp .eq (.var 161) (.str 160)) [.ret .bad] [],
 .bad]
noncomputable def p_evaluate:List Nat:=[66,59]
noncomputable def c_locate:List S:=[
 .ifs (.cmp .eq (.item (.var 179) (.int 0)) (.str 39)) [.ret (.item (.var 179) (.int 1))] [],
 .asg 87 (.call 180 [(.item (.var 179) (.int 1)),(.item (.var 179) (.int 2)),(.var 59)]),
 .ifs (.isN (.var 87)) [.ret .none] [],
 .ret (.bin .Mult (.bin .Sub (.var 87) (.item (.var 179) (.int 3))) (.item (.var 179) (.int 4)))]
noncomputable def p_locate:List Nat:=[179,59]
noncomputable def c_holder_width:List S:=[
 .ifs (.cmp .eq (.item (.var 118) (.int 0)) (.str 146)) [.ret (.attr (.item (.attr (.attr (.var 59) 157) 148) (.item (.var 118) (.int 2))) 181)] [],
 .ret (.item (.item (.attr (.var 59) 76) (.item (.var 118) (.int 2))) (.int 0))]
noncomputable def p_holder_width:List Nat:=[118,59]
noncomputable def c_resolve_target:List S:=[
 .asg 137 (.list []),
 .asg 162 (.item (.var 105) (.int 1)),
 .for1 118 false (.item (.var 105) (.int 2)) [.unp [95,177,127,183,179] (.var 118),
  .aug 162 .Sub (.var 177),
  .asg 124 .none,
  .ifs (.notN (.var 183)) [.asg 87 (.call 180 [(.item (.var 183) (.int 0)),(.item (.var 183) (.int 1)),(.var 59)]),
   .ifs (.isN (.var 87)) [.cont] [],
   .asg 124 (.meth (.item (.attr (.attr (.var 59) 157) 148) (.var 127)) 124 [(.var 87)]),
   .ifs (.cmp .lt (.var 124) (.int 0)) [.cont] []] [],
  .asg 100 (.call 102 [(.var 179),(.var 59)]),
  .ifs (.ors [(.isN (.var 100)),(.cmp .le (.bin .Add (.var 100) (.var 177)) (.int 0)),(.cmp .ge (.var 100) (.call 84 [(.var 118),(.var 59)]))]) [.cont] [],
  .expr (.meth (.var 137) 37 [(.tup [(.var 95),(.var 127),(.var 124),(.var 100),(.var 177),(.var 162)])])],
 .ret (.var 137)]
noncomputable def p_resolve_target:List Nat:=[105,59]
noncomputable def c_routine_code:List S:=[
 .ifs (.notIn (.var 112) (.attr (.var 106) 56)) [.asg 134 (.meth (.attr (.var 106) 61) 134 [(.var 112)]),
  .setI (.attr (.var 106) 56) (.var 112) (.call 55 [(.var 134),(.attr (.var 134) 63)])] [],
 .ret (.item (.attr (.var 106) 56) (.var 112))]
noncomputable def p_routine_code:List Nat:=[106,112]
noncomputable def c_call_task:List S:=[
 .unp [136,99] (.call 135 [(.var 106),(.var 112)]),
 .asg 134 (.meth (.attr (.var 106) 61) 134 [(.var 112)]),
 .asg 175 (.comp (.meth (.var 106) 71 [(.var 165),(.var 66)]) 66 false (.var 91) none),
 .asg 76 (.comp (.call 36 [(.var 181)]) 181 false (.attr (.var 134) 152) none),
 .while_ (.cmp .lt (.bi 199 [(.var 76)]) (.var 99)) [.expr (.meth (.var 76) 37 [.none])],
 .expr (.meth (.attr (.var 165) 48) 37 [(.tup [(.attr (.var 165) 54),(.attr (.var 165) 121),(.attr (.var 165) 76),(.var 112),(.var 116)])]),
 .setA (.var 165) 54 (.var 136),
 .setA (.var 165) 121 (.int 0),
 .setA (.var 165) 76 (.var 76),
 .asg 39 (.int 0),
 .forU [62,181,149,95,127] false (.attr (.var 134) 126) [.ifs (.cmp .eq (.var 62) (.str 115)) [.cont] [],
  .asg 174 (.call 72 [(.item (.var 175) (.var 39)),(.var 181),(.var 149)]),
  .aug 39 .Add (.int 1),
  .ifs (.cmp .eq (.var 95) (.str 101)) [.setI (.var 76) (.var 127) (.var 174)] [.ifs (.meth (.attr (.var 106) 157) 145 [(.var 127),.none,(.int 0),(.var 174)]) [.expr (.meth (.var 106) 50 [(.var 127)])] []]]]
noncomputable def p_call_task:List Nat:=[106,165,112,91,116]
noncomputable def c_return_from_task:List S:=[
 .unp [136,121,76,112,116] (.meth (.attr (.var 165) 48) 125 []),
 .asg 134 (.meth (.attr (.var 106) 61) 134 [(.var 112)]),
 .asg 175 (.list []),
 .forU [105,87] false (.var 116) [.unp [62,181,149,95,127] (.item (.attr (.var 134) 126) (.var 87)),
  .ifs (.cmp .eq (.var 95) (.str 101)) [.asg 174 (.item (.attr (.var 165) 76) (.var 127))] [.asg 174 (.meth (.attr (.var 106) 157) 79 [(.var 127)])],
  .expr (.meth (.var 175) 37 [(.call 72 [(.var 174),(.item (.var 105) (.int 1)),(.var 149)])])],
 .setA (.var 165) 54 (.var 136),
 .setA (.var 165) 121 (.var 121),
 .setA (.var 165) 76 (.var 76),
 .for1 124 true (.bi 199 [(.var 116)]) [.expr (.call 38 [(.var 106),(.var 165),(.item (.item (.var 116) (.var 124)) (.int 0)),(.item (.var 175) (.var 124))])]]
noncomputable def p_return_from_task:List Nat:=[106,165]
noncomputable def c_assign:List S:=[
 .asg 59 (.meth (.var 106) 58 [(.var 165)]),
 .asg 137 (.call 130 [(.var 105),(.var 59)]),
 .expr (.meth (.var 106) 53 [(.var 59)]),
 .expr (.meth (.var 106) 184 [(.var 137),(.var 174),(.attr (.var 165) 76)])]
noncomputable def p_assign:List Nat:=[106,165,105,174]
noncomputable def c_Thread___init__:List S:=[
 .setA (.var 143) 112 (.var 112),
 .setA (.var 143) 54 (.var 54),
 .setA (.var 143) 121 (.var 121),
 .setA (.var 143) 76 (.var 76),
 .setA (.var 143) 120 (.var 120),
 .setA (.var 143) 48 (.list []),
 .setA (.var 143) 141 (.list []),
 .setA (.var 143) 117 (.neg (.int 1)),
 .setA (.var 143) 51 .dict,
 .setA (.var 143) 64 (.bool false),
 .setA (.var 143) 178 .none,
 .setA (.var 143) 155 (.int 0),
 .setA (.var 143) 103 (.bool false),
 .setA (.var 143) 34 (.bool false)]
noncomputable def p_Thread___init__:List Nat:=[143,112,54,121,76,120]
noncomputable def c__law_bag:List S:=[
 .asg 42 (.list [(.int 0),(.int 1)]),
 .for1 49 false (.slice (.bi 201 [(.var 142)]) none (some (.int 20))) [.expr (.meth (.var 42) 37 [(.bi 0 [(.var 49)])]),
  .setI (.var 42) (.int 1) (.bin .Mod (.bin .Add (.bin .Add (.bin .Mult (.item (.var 42) (.int 1)) (.int 31)) (.bin .Mod (.bi 0 [(.var 49)]) (.int 9973))) (.int 1)) (.int 1000003))],
 .ret (.var 42)]
noncomputable def p__law_bag:List Nat:=[142]
noncomputable def c__law_pull:List S:=[
 .ifs (.cmp .eq (.item (.var 42) (.int 0)) (.int 0)) [.ifs (.cmp .gt (.bi 199 [(.var 42)]) (.int 2)) [.asg 49 (.meth (.var 42) 125 [(.int 2)]),
   .setI (.var 42) (.int 0) (.ite (.cmp .ge (.var 49) (.int 0)) (.bin .Mult (.int 2) (.var 49)) (.bin .Sub (.bin .Mult (.neg (.int 2)) (.var 49)) (.int 1)))] [.setI (.var 42) (.int 1) (.bin .Mod (.bin .Add (.bin .Mult (.item (.var 42) (.int 1)) (.int 69069)) (.int 12345)) (.int 4294967296)),
   .setI (.var 42) (.int 0) (.bin .FloorDiv (.item (.var 42) (.int 1)) (.int 16))]] [],
 .asg 81 (.bin .Mod (.bi 0 [(.item (.var 42) (.int 0))]) (.var 109)),
 .setI (.var 42) (.int 0) (.bin .FloorDiv (.item (.var 42) (.int 0)) (.var 109)),
 .ret (.var 81)]
noncomputable def p__law_pull:List Nat:=[42,109]
noncomputable def c__law_vector:List S:=[
 .ifs (.isN (.var 136)) [.ret .none] [],
 .asg 32 (.int 0),
 .asg 40 (.int 0),
 .for1 86 true (.bi 199 [(.var 136)]) [.aug 32 .Add (.bin .LShift (.bin .Mod (.bi 0 [(.item (.var 136) (.var 86))]) (.int 2)) (.var 86)),
  .aug 40 .Add (.bin .LShift (.bin .FloorDiv (.item (.var 136) (.var 86)) (.int 2)) (.var 86))],
 .ret (.tup [(.bi 199 [(.var 136)]),(.var 32),(.var 40)])]
noncomputable def p__law_vector:List Nat:=[136]
noncomputable def c__law_row:List S:=[
 .ret (.comp (.bin .Add (.bin .Mod (.bi 0 [(.bin .RShift (.item (.var 173) (.int 1)) (.var 86))]) (.int 2)) (.bin .Mult (.int 2) (.bin .Mod (.bi 0 [(.bin .RShift (.item (.var 173) (.int 2)) (.var 86))]) (.int 2)))) 86 true (.item (.var 173) (.int 0)) none)]
noncomputable def p__law_row:List Nat:=[173]
noncomputable def c__law_drawn:List S:=[
 .asg 182 (.cmp .eq (.call 20 [(.var 42),(.int 3)]) (.int 0)),
 .ret (.comp (.call 20 [(.var 42),(.ite (.var 182) (.int 4) (.int 2))]) 86 true (.var 177) none)]
noncomputable def p__law_drawn:List Nat:=[42,177]
noncomputable def c__law_value:List S:=[
 .ifs (.cmp .eq (.item (.var 66) (.int 0)) (.str 146)) [.ret (.bi 201 [(.item (.var 150) (.item (.var 66) (.int 2)))])] [],
 .ifs (.cmp .eq (.item (.var 66) (.int 0)) (.str 101)) [.ret (.bi 201 [(.item (.var 76) (.item (.var 66) (.int 2)))])] [],
 .ret (.call 23 [(.tup [(.item (.var 66) (.int 1)),(.item (.var 66) (.int 2)),(.item (.var 66) (.int 3))])])]
noncomputable def p__law_value:List Nat:=[66,150,76]
noncomputable def c__law_wide:List S:=[
 .ifs (.cmp .le (.var 177) (.bi 199 [(.var 136)])) [.ret (.slice (.var 136) none (some (.var 177)))] [],
 .ret (.bin .Add (.var 136) (.bin .Mult (.list [(.ite (.var 149) (.item (.var 136) (.neg (.int 1))) (.int 0))]) (.bin .Sub (.var 177) (.bi 199 [(.var 136)]))))]
noncomputable def p__law_wide:List Nat:=[136,177,149]
noncomputable def c__law_number:List S:=[
 .ifs (.cmp .gt (.bi 202 [(.var 136)]) (.int 1)) [.ret .none] [],
 .asg 170 (.bi 204 [(.comp (.bin .LShift (.item (.var 136) (.var 86)) (.var 86)) 86 true (.bi 199 [(.var 136)]) none)]),
 .ret (.ite (.ands [(.var 149),(.cmp .eq (.item (.var 136) (.neg (.int 1))) (.int 1))]) (.bin .Sub (.var 170) (.bin .LShift (.int 1) (.bi 199 [(.var 136)]))) (.var 170))]
noncomputable def p__law_number:List Nat:=[136,149]
noncomputable def c__law_put:List S:=[
 .asg 75 (.list []),
 .asg 104 (.item (.var 105) (.int 1)),
 .forU [95,177,127,183,179] false (.item (.var 105) (.int 2)) [.aug 104 .Sub (.var 177),
  .asg 100 (.item (.var 179) (.int 1)),
  .ifs (.cmp .eq (.item (.var 179) (.int 0)) (.str 122)) [.asg 112 (.call 18 [(.call 28 [(.item (.var 179) (.int 1)),(.var 150),(.var 76)]),(.item (.var 179) (.int 2))]),
   .ifs (.isN (.var 112)) [.cont] [],
   .asg 100 (.bin .Mult (.bin .Sub (.var 112) (.item (.var 179) (.int 3))) (.item (.var 179) (.int 4)))] [],
  .expr (.meth (.var 75) 37 [(.tup [(.ite (.cmp .eq (.var 95) (.str 146)) (.item (.var 150) (.var 127)) (.item (.var 76) (.var 127))),(.var 100),(.slice (.var 136) (some (.var 104)) (some (.bin .Add (.var 104) (.var 177))))])])],
 .forU [83,100,123] false (.var 75) [.for1 86 true (.bi 199 [(.var 123)]) [.ifs (.chain .le .lt (.int 0) (.bin .Add (.var 100) (.var 86)) (.bi 199 [(.var 83)])) [.setI (.var 83) (.bin .Add (.var 100) (.var 86)) (.item (.var 123) (.var 86))] []]]]
noncomputable def p__law_put:List Nat:=[105,136,150,76]
noncomputable def c__law_task:List S:=[
 .asg 163 (.new 4 [(.var 112),(.list []),(.int 0),(.list []),(.str 163)]),
 .setA (.var 163) 152 (.var 152),
 .setA (.var 163) 126 (.var 126),
 .setA (.var 163) 63 (.var 139),
 .asg 119 (.list [(.tup [(.str 160),(.var 112),(.tup [])])]),
 .for1 171 true (.var 172) [.expr (.meth (.var 119) 37 [(.tup [(.str 128),(.tup [(.str 57),(.int 2),(.int 1),(.int 0)]),(.bool false),.none])])],
 .setA (.var 163) 172 (.var 172),
 .setA (.var 163) 44 (.tup [(.str 43),(.bi 205 [(.var 119)]),(.neg (.int 1))]),
 .ret (.var 163)]
noncomputable def p__law_task:List Nat:=[112,152,126,172,139]
noncomputable def c__law_second:List S:=[
 .asg 152 (.list []),
 .asg 126 (.list []),
 .for1 171 true (.bin .Add (.int 1) (.call 20 [(.var 42),(.int 3)])) [.asg 62 (.item (.tup [(.str 90),(.str 115),(.str 89)]) (.call 20 [(.var 42),(.int 3)])),
  .asg 177 (.bin .Add (.int 1) (.call 20 [(.var 42),(.int 4)])),
  .asg 149 (.cmp .eq (.call 20 [(.var 42),(.int 2)]) (.int 1)),
  .ifs (.cmp .eq (.call 20 [(.var 42),(.int 2)]) (.int 0)) [.expr (.meth (.var 126) 37 [(.tup [(.var 62),(.var 177),(.var 149),(.str 101),(.bi 199 [(.var 152)])])]),
   .expr (.meth (.var 152) 37 [(.var 177)])] [.expr (.meth (.var 126) 37 [(.tup [(.var 62),(.var 177),(.var 149),(.str 146),(.bi 199 [(.var 150)])])]),
   .expr (.meth (.var 150) 37 [(.call 10 [(.var 42),(.var 177)])])]],
 .for1 171 true (.call 20 [(.var 42),(.int 2)]) [.expr (.meth (.var 152) 37 [(.int 2)])],
 .ret (.call 27 [(.int 1),(.var 152),(.var 126),(.call 20 [(.var 42),(.int 3)]),(.bin .Sub (.call 20 [(.var 42),(.int 3)]) (.int 1))])]
noncomputable def p__law_second:List Nat:=[42,150]
noncomputable def c__law_given:List S:=[
 .asg 122 (.call 20 [(.var 42),(.int 4)]),
 .ifs (.cmp .eq (.var 122) (.int 0)) [.asg 177 (.bin .Add (.int 1) (.call 20 [(.var 42),(.int 4)])),
  .asg 173 (.call 29 [(.call 10 [(.var 42),(.var 177)])]),
  .ret (.tup [(.str 57),(.var 177),(.item (.var 173) (.int 1)),(.item (.var 173) (.int 2))])] [],
 .asg 154 (.comp (.var 86) 86 true (.bi 199 [(.var 76)]) (some (.notN (.item (.var 76) (.var 86))))),
 .ifs (.ands [(.cmp .eq (.var 122) (.int 1)),(.cmp .gt (.bi 199 [(.var 154)]) (.int 0))]) [.asg 153 (.item (.var 154) (.call 20 [(.var 42),(.bi 199 [(.var 154)])])),
  .ret (.tup [(.str 101),(.bi 199 [(.item (.var 76) (.var 153))]),(.var 153)])] [],
 .asg 94 (.call 20 [(.var 42),(.bi 199 [(.var 150)])]),
 .ret (.tup [(.str 146),(.bi 199 [(.item (.var 150) (.var 94))]),(.var 94)])]
noncomputable def p__law_given:List Nat:=[42,150,76]
noncomputable def c__law_target:List S:=[
 .asg 119 (.list []),
 .asg 170 (.int 0),
 .for1 171 true (.bin .Add (.int 1) (.call 20 [(.var 42),(.int 2)])) [.asg 154 (.comp (.var 86) 86 true (.bi 199 [(.var 76)]) (some (.notN (.item (.var 76) (.var 86))))),
  .asg 95 (.str 146),
  .asg 127 (.call 20 [(.var 42),(.bi 199 [(.var 150)])]),
  .ifs (.ands [(.cmp .gt (.bi 199 [(.var 154)]) (.int 0)),(.cmp .eq (.call 20 [(.var 42),(.int 3)]) (.int 0))]) [.asg 95 (.str 101),
   .asg 127 (.item (.var 154) (.call 20 [(.var 42),(.bi 199 [(.var 154)])]))] [],
  .asg 177 (.bin .Add (.int 1) (.call 20 [(.var 42),(.int 4)])),
  .asg 179 (.tup [(.str 39),(.int 0)]),
  .ifs (.cmp .eq (.call 20 [(.var 42),(.int 2)]) (.int 0)) [.asg 94 (.call 20 [(.var 42),(.bi 199 [(.var 150)])]),
   .asg 87 (.tup [(.str 146),(.bi 199 [(.item (.var 150) (.var 94))]),(.var 94)]),
   .asg 179 (.tup [(.str 122),(.var 87),(.cmp .eq (.call 20 [(.var 42),(.int 2)]) (.int 0)),(.call 20 [(.var 42),(.int 3)]),(.bin .Sub (.int 1) (.bin .Mult (.int 2) (.call 20 [(.var 42),(.int 2)])))])] [],
  .expr (.meth (.var 119) 37 [(.tup [(.var 95),(.var 177),(.var 127),.none,(.var 179)])]),
  .aug 170 .Add (.var 177)],
 .ret (.tup [(.str 105),(.var 170),(.bi 205 [(.var 119)])])]
noncomputable def p__law_target:List Nat:=[42,150,76]
noncomputable def c__law_call:List S:=[
 .asg 91 (.list []),
 .asg 116 (.list []),
 .for1 86 true (.bi 199 [(.attr (.var 163) 126)]) [.ifs (.cmp .ne (.item (.item (.attr (.var 163) 126) (.var 86)) (.int 0)) (.str 115)) [.expr (.meth (.var 91) 37 [(.call 14 [(.var 42),(.var 150),(.var 76)])])] [],
  .ifs (.cmp .ne (.item (.item (.attr (.var 163) 126) (.var 86)) (.int 0)) (.str 90)) [.expr (.meth (.var 116) 37 [(.tup [(.call 26 [(.var 42),(.var 150),(.var 76)]),(.var 86)])])] []],
 .ifs (.cmp .eq (.call 20 [(.var 42),(.int 2)]) (.int 0)) [.expr (.meth (.var 116) 133 [])] [],
 .ret (.tup [(.bi 205 [(.var 91)]),(.bi 205 [(.var 116)])])]
noncomputable def p__law_call:List Nat:=[42,163,150,76]
noncomputable def c__law_enter:List S:=[
 .asg 80 (.comp (.call 28 [(.var 66),(.var 150),(.item (.var 77) (.neg (.int 1)))]) 66 false (.item (.var 46) (.int 0)) none),
 .asg 76 (.bin .Add (.comp (.bin .Mult (.list [(.int 3)]) (.var 177)) 177 false (.attr (.var 163) 152) none) (.bin .Mult (.list [.none]) (.attr (.var 163) 172))),
 .forU [62,177,149,95,127] false (.attr (.var 163) 126) [.ifs (.cmp .eq (.var 62) (.str 115)) [.cont] [],
  .asg 136 (.call 30 [(.meth (.var 80) 125 [(.int 0)]),(.var 177),(.var 149)]),
  .ifs (.cmp .eq (.var 95) (.str 101)) [.setI (.var 76) (.var 127) (.var 136)] [.ifs (.cmp .ne (.item (.var 150) (.var 127)) (.var 136)) [.setI (.var 150) (.var 127) (.var 136),
    .expr (.meth (.var 168) 37 [(.var 127)])] []]],
 .expr (.meth (.var 77) 37 [(.var 76)])]
noncomputable def p__law_enter:List Nat:=[163,46,150,77,168]
noncomputable def c__law_leave:List S:=[
 .asg 76 (.meth (.var 77) 125 []),
 .asg 137 (.list []),
 .forU [105,86] false (.item (.var 46) (.int 1)) [.unp [62,177,149,95,127] (.item (.attr (.var 163) 126) (.var 86)),
  .expr (.meth (.var 137) 37 [(.call 30 [(.bi 201 [(.ite (.cmp .eq (.var 95) (.str 101)) (.item (.var 76) (.var 127)) (.item (.var 150) (.var 127)))]),(.item (.var 105) (.int 1)),(.var 149)])])],
 .for1 86 true (.bi 199 [(.var 137)]) [.expr (.call 21 [(.item (.item (.item (.var 46) (.int 1)) (.var 86)) (.int 0)),(.item (.var 137) (.var 86)),(.var 150),(.item (.var 77) (.neg (.int 1)))])]]
noncomputable def p__law_leave:List Nat:=[163,46,150,77]
noncomputable def c__law_host:List S:=[
 .bad,
 .bad,
 .bad,
 .bad,
 .bad,
 .bad,
 .bad,
 .bad,
 .asg 85 (.new 4 [(.neg (.int 1)),(.list []),(.int 0),(.list []),(.str 85)]),
 .setA (.var 85) 56 .dict,
 .setA (.var 85) 157 (.new 4 [(.neg (.int 2)),(.list []),(.int 0),(.list []),(.str 157)]),
 .setA (.attr (.var 85) 157) 79 (.var 13),
 .setA (.attr (.var 85) 157) 145 (.var 25),
 .setA (.attr (.var 85) 157) 148 (.list []),
 .for1 173 false (.var 158) [.asg 113 (.new 4 [(.int 0),(.list []),(.int 0),(.list []),(.str 147)]),
  .setA (.var 113) 181 (.item (.var 173) (.int 0)),
  .expr (.meth (.attr (.attr (.var 85) 157) 148) 37 [(.var 113)])],
 .setA (.var 85) 61 (.new 4 [(.neg (.int 4)),(.list []),(.int 0),(.list []),(.str 61)]),
 .setA (.attr (.var 85) 61) 134 (.var 22),
 .setA (.var 85) 71 (.var 17),
 .setA (.var 85) 58 (.var 9),
 .setA (.var 85) 53 (.var 8),
 .setA (.var 85) 184 (.var 31),
 .setA (.var 85) 50 (.var 7),
 .ret (.var 85)]
noncomputable def p__law_host:List Nat:=[164,158,168]
noncomputable def c__law_host__law_get:List S:=[
 .ret (.item (.free 158) (.var 94))]
noncomputable def p__law_host__law_get:List Nat:=[94]
noncomputable def c__law_host__law_set:List S:=[
 .ifs (.cmp .eq (.item (.free 158) (.var 94)) (.var 173)) [.ret (.bool false)] [],
 .setI (.free 158) (.var 94) (.var 173),
 .ret (.bool true)]
noncomputable def p__law_host__law_set:List Nat:=[94,183,100,173]
noncomputable def c__law_host__law_now:List S:=[
 .ifs (.cmp .eq (.item (.var 66) (.int 0)) (.str 146)) [.ret (.item (.free 158) (.item (.var 66) (.int 2)))] [],
 .ifs (.cmp .eq (.item (.var 66) (.int 0)) (.str 101)) [.ret (.item (.attr (.var 165) 76) (.item (.var 66) (.int 2)))] [],
 .ret (.tup [(.item (.var 66) (.int 1)),(.item (.var 66) (.int 2)),(.item (.var 66) (.int 3))])]
noncomputable def p__law_host__law_now:List Nat:=[165,66]
noncomputable def c__law_host__law_context:List S:=[
 .asg 59 (.new 4 [(.neg (.int 3)),(.list []),(.int 0),(.attr (.var 165) 76),(.str 59)]),
 .setA (.var 59) 157 (.attr (.free 85) 157),
 .ret (.var 59)]
noncomputable def p__law_host__law_context:List Nat:=[165]
noncomputable def c__law_host__law_closed:List S:=[
 .setA (.var 59) 64 (.bool true)]
noncomputable def p__law_host__law_closed:List Nat:=[59]
noncomputable def c__law_host__law_write:List S:=[
 .asg 136 (.call 23 [(.var 173)]),
 .forU [95,127,183,100,177,162] false (.var 137) [.asg 83 (.call 23 [(.ite (.cmp .eq (.var 95) (.str 146)) (.item (.free 158) (.var 127)) (.item (.var 76) (.var 127)))]),
  .for1 86 true (.var 177) [.ifs (.chain .le .lt (.int 0) (.bin .Add (.var 100) (.var 86)) (.bi 199 [(.var 83)])) [.setI (.var 83) (.bin .Add (.var 100) (.var 86)) (.item (.var 136) (.bin .Add (.var 162) (.var 86)))] []],
  .ifs (.cmp .eq (.var 95) (.str 146)) [.setI (.free 158) (.var 127) (.call 29 [(.var 83)])] [.setI (.var 76) (.var 127) (.call 29 [(.var 83)])]]]
noncomputable def p__law_host__law_write:List Nat:=[137,173,76]
noncomputable def c__law_host__law_changed:List S:=[
 .expr (.meth (.free 168) 37 [(.var 94)])]
noncomputable def p__law_host__law_changed:List Nat:=[94]
noncomputable def c__law_host__law_routine:List S:=[
 .ret (.item (.free 164) (.var 112))]
noncomputable def p__law_host__law_routine:List Nat:=[112]
noncomputable def c__law_poke:List S:=[
 .asg 94 (.call 20 [(.var 42),(.bi 199 [(.var 150)])]),
 .setI (.var 150) (.var 94) (.call 10 [(.var 42),(.bi 199 [(.item (.var 150) (.var 94))])]),
 .setI (.var 158) (.var 94) (.call 29 [(.item (.var 150) (.var 94))]),
 .asg 154 (.comp (.var 86) 86 true (.bi 199 [(.var 76)]) (some (.notN (.item (.var 76) (.var 86))))),
 .ifs (.cmp .gt (.bi 199 [(.var 154)]) (.int 0)) [.asg 153 (.item (.var 154) (.call 20 [(.var 42),(.bi 199 [(.var 154)])])),
  .setI (.var 76) (.var 153) (.call 10 [(.var 42),(.bi 199 [(.item (.var 76) (.var 153))])]),
  .setI (.attr (.var 165) 76) (.var 153) (.call 29 [(.item (.var 76) (.var 153))])] []]
noncomputable def p__law_poke:List Nat:=[42,150,76,158,165]
noncomputable def c__law_fits:List S:=[
 .ifs (.cmp .ne (.var 158) (.comp (.call 29 [(.var 136)]) 136 false (.var 150) none)) [.ret (.bool false)] [],
 .ifs (.cmp .ne (.attr (.var 165) 76) (.comp (.call 29 [(.var 136)]) 136 false (.item (.var 77) (.neg (.int 1))) none)) [.ret (.bool false)] [],
 .ifs (.ors [(.cmp .ne (.attr (.var 165) 121) (.var 121)),(.cmp .ne (.bi 199 [(.attr (.var 165) 48)]) (.bi 199 [(.var 114)]))]) [.ret (.bool false)] [],
 .asg 112 (.ite (.cmp .gt (.bi 199 [(.var 114)]) (.int 0)) (.attr (.item (.item (.var 114) (.neg (.int 1))) (.int 0)) 112) (.int 7)),
 .ret (.inn (.tup [(.str 160),(.var 112),(.tup [])]) (.attr (.var 165) 54))]
noncomputable def p__law_fits:List Nat:=[165,158,150,77,114,121]
noncomputable def c_law:List S:=[
 .asg 42 (.call 5 [(.var 142)]),
 .asg 150 (.list [(.call 10 [(.var 42),(.int 4)])]),
 .expr (.meth (.var 150) 37 [(.call 10 [(.var 42),(.bin .Add (.int 1) (.call 20 [(.var 42),(.int 3)]))])]),
 .expr (.meth (.var 150) 37 [(.list [(.int 1),(.int 0)])]),
 .expr (.meth (.var 150) 37 [(.list [(.int 0),(.int 1),(.int 1)])]),
 .asg 126 (.list [(.tup [(.str 90),(.int 2),(.bool true),(.str 146),(.int 2)]),(.tup [(.str 89),(.int 3),(.bool false),(.str 146),(.int 3)]),(.tup [(.str 115),(.int 2),(.bool true),(.str 101),(.int 0)])]),
 .asg 164 (.list [(.call 27 [(.int 0),(.list [(.int 2),(.int 3)]),(.var 126),(.int 1),(.int 5)]),(.call 24 [(.var 42),(.var 150)])]),
 .asg 158 (.comp (.call 29 [(.var 136)]) 136 false (.var 150) none),
 .asg 77 (.list [(.list [(.call 10 [(.var 42),(.int 3)]),(.call 10 [(.var 42),(.int 1)])])]),
 .asg 168 (.list []),
 .asg 65 (.list []),
 .asg 85 (.call 15 [(.var 164),(.var 158),(.var 168)]),
 .asg 165 (.new 4 [(.int 0),(.list [(.tup [(.str 160),(.int 7),(.tup [])]),(.tup [(.str 68)])]),(.int 1),(.comp (.call 29 [(.var 136)]) 136 false (.item (.var 77) (.int 0)) none),(.str 169)]),
 .asg 114 (.list []),
 .asg 74 (.tup [(.tup [(.str 146),(.int 3),(.int 3)]),(.tup [(.str 146),(.int 2),(.int 2)])]),
 .asg 159 (.tup [(.tup [(.str 105),(.int 3),(.tup [(.tup [(.str 146),(.int 3),(.int 3),.none,(.tup [(.str 39),(.int 0)])])])]),(.int 2)]),
 .asg 93 (.tup [(.tup [(.str 105),(.int 4),(.tup [(.tup [(.str 146),(.int 4),(.int 0),.none,(.tup [(.str 39),(.int 0)])])])]),(.int 1)]),
 .asg 98 (.int 4),
 .while_ (.ors [(.cmp .gt (.var 98) (.int 0)),(.cmp .gt (.bi 199 [(.var 114)]) (.int 0))]) [.aug 98 .Sub (.int 1),
  .asg 41 (.ands [(.cmp .gt (.bi 199 [(.var 114)]) (.int 0)),(.ors [(.cmp .eq (.var 98) (.int 2)),(.cmp .lt (.var 98) (.int 0)),(.cmp .eq (.call 20 [(.var 42),(.int 2)]) (.int 0))])]),
  .expr (.call 19 [(.var 42),(.var 150),(.item (.var 77) (.neg (.int 1))),(.var 158),(.var 165)]),
  .ifs (.var 41) [.ifs (.cmp .eq (.var 98) (.int 2)) [.setI (.var 150) (.int 3) (.list [(.int 1),(.int 0),(.int 1)]),
    .setI (.var 158) (.int 3) (.tup [(.int 3),(.int 5),(.int 0)]),
    .setI (.item (.var 77) (.neg (.int 1))) (.int 0) (.list [(.int 1),(.int 1)]),
    .setI (.attr (.var 165) 76) (.int 0) (.tup [(.int 2),(.int 3),(.int 0)])] [],
   .unp [163,46,121] (.meth (.var 114) 125 []),
   .expr (.call 16 [(.var 163),(.var 46),(.var 150),(.var 77)]),
   .expr (.call 132 [(.var 85),(.var 165)])] [.asg 163 (.item (.var 164) (.call 20 [(.var 42),(.int 2)])),
   .ifs (.cmp .eq (.var 98) (.int 3)) [.asg 163 (.item (.var 164) (.int 0)),
    .asg 46 (.tup [(.var 74),(.tup [(.var 159),(.var 93)])])] [.asg 46 (.call 6 [(.var 42),(.var 163),(.var 150),(.item (.var 77) (.neg (.int 1)))])],
   .expr (.meth (.var 114) 37 [(.tup [(.var 163),(.var 46),(.attr (.var 165) 121)])]),
   .asg 121 (.int 0),
   .expr (.call 11 [(.var 163),(.var 46),(.var 150),(.var 77),(.var 65)]),
   .expr (.call 47 [(.var 85),(.var 165),(.attr (.var 163) 112),(.item (.var 46) (.int 0)),(.item (.var 46) (.int 1))])],
  .ifs (.ors [(.cmp .ne (.var 168) (.var 65)),(.not (.call 12 [(.var 165),(.var 158),(.var 150),(.var 77),(.var 114),(.var 121)]))]) [.ret (.bool false)] [],
  .setA (.var 165) 121 (.call 20 [(.var 42),(.int 9)])],
 .ret (.bool true)]
noncomputable def p_law:List Nat:=[142]
noncomputable def libTab:List (Fn×Addr×List Nat×List S):=[
 (.meth 3 2,49,p_CodeMaker___init__,c_CodeMaker___init__),
 (.meth 3 67,56,p_CodeMaker_emit,c_CodeMaker_emit),
 (.meth 3 82,63,p_CodeMaker_here,c_CodeMaker_here),
 (.meth 3 111,70,p_CodeMaker_new_slot,c_CodeMaker_new_slot),
 (.meth 3 35,77,p_CodeMaker_aim,c_CodeMaker_aim),
 (.meth 3 129,126,p_CodeMaker_repetition,c_CodeMaker_repetition),
 (.meth 3 140,133,p_CodeMaker_scoped,c_CodeMaker_scoped),
 (.meth 3 52,140,p_CodeMaker_close,c_CodeMaker_close),
 (.meth 3 43,147,p_CodeMaker_block,c_CodeMaker_block),
 (.meth 3 107,175,p_CodeMaker_make,c_CodeMaker_make),
 (.meth 3 214,168,p_CodeMaker_looping,c_CodeMaker_looping),
 (.glob 55,190,p_compile_routine,c_compile_routine),
 (.glob 110,230,p_mask,c_mask),
 (.glob 176,238,p_vec,c_vec),
 (.glob 36,252,p_all_x,c_all_x),
 (.glob 167,273,p_to_int,c_to_int),
 (.glob 54,280,p_code,c_code),
 (.glob 72,301,p_extend,c_extend),
 (.glob 180,616,p_whole_of,c_whole_of),
 (.glob 70,656,p_evaluate,c_evaluate),
 (.glob 102,663,p_locate,c_locate),
 (.glob 84,670,p_holder_width,c_holder_width),
 (.glob 130,677,p_resolve_target,c_resolve_target),
 (.glob 135,684,p_routine_code,c_routine_code),
 (.glob 47,689,p_call_task,c_call_task),
 (.glob 132,696,p_return_from_task,c_return_from_task),
 (.glob 38,703,p_assign,c_assign),
 (.meth 4 2,717,p_Thread___init__,c_Thread___init__),
 (.glob 5,731,p__law_bag,c__law_bag),
 (.glob 20,738,p__law_pull,c__law_pull),
 (.glob 29,745,p__law_vector,c__law_vector),
 (.glob 23,750,p__law_row,c__law_row),
 (.glob 10,755,p__law_drawn,c__law_drawn),
 (.glob 28,762,p__law_value,c__law_value),
 (.glob 30,769,p__law_wide,c__law_wide),
 (.glob 18,774,p__law_number,c__law_number),
 (.glob 21,781,p__law_put,c__law_put),
 (.glob 27,788,p__law_task,c__law_task),
 (.glob 24,795,p__law_second,c__law_second),
 (.glob 14,800,p__law_given,c__law_given),
 (.glob 26,805,p__law_target,c__law_target),
 (.glob 6,812,p__law_call,c__law_call),
 (.glob 11,817,p__law_enter,c__law_enter),
 (.glob 16,824,p__law_leave,c__law_leave),
 (.glob 19,836,p__law_poke,c__law_poke),
 (.glob 12,841,p__law_fits,c__law_fits),
 (.glob 96,846,p_law,c_law)]
noncomputable def closTab:List (List Nat×List Nat×List S):=[
 (p__law_host__law_get,[158],c__law_host__law_get),
 (p__law_host__law_set,[158],c__law_host__law_set),
 (p__law_host__law_now,[158],c__law_host__law_now),
 (p__law_host__law_context,[85],c__law_host__law_context),
 (p__law_host__law_closed,[],c__law_host__law_closed),
 (p__law_host__law_write,[158],c__law_host__law_write),
 (p__law_host__law_changed,[168],c__law_host__law_changed),
 (p__law_host__law_routine,[164],c__law_host__law_routine)]
structure Lib (Γ:Gl):Prop where
 fns:∀ (i:Nat) (f:Fn) (d:Addr) (p:List Nat) (c:List S),libTab[i]?=some (f,d,p,c)→∀ a (ρ:List Slot),f.At Γ ρ a→DefOk Γ a p c
 clos:∀ (k:Nat) (p fr:List Nat) (c:List S),closTab[k]?=some (p,fr,c)→ClosOk Γ k p fr c
end
section
theorem upd_upd (σ:St) (l:Nat) (c d:Cell):upd (upd σ l c) l d=upd σ l d:=by funext i;unfold upd;split <;> rfl
section
variable {Γ:Gl} {k:Nat} {f:Fn} {args:List V} {σ:St} {Q Q':V→St→Prop} {P:St→Prop}
theorem WC.mono (h:WC Γ k f args σ Q) (hq:∀ v σ',Q v σ'→Q' v σ'):WC Γ k f args σ Q':=
 ⟨fun A s ρ vs a hR R ra ha=>codeAny_mono (h.go A s ρ vs a hR R ra ha) fun res s' x=>by
  refine gabs fun gG gK=>?_
  obtain ⟨v,r,σ',ρ',e,st,R',rd,q⟩:=x
  refine gK ?_
  exact ⟨v,r,σ',ρ',e,st,R',rd,hq _ _ q⟩⟩
theorem WC.more {j:Nat} (h:WC Γ k f args σ Q) (hj:k≤j):WC Γ j f args σ Q:=
 ⟨fun A s ρ vs a hR R ra ha=>h.go A s ρ vs a (hR.less hj) R ra ha⟩
theorem idx_nat {i:Int} {n:Nat} (h0:0≤i) (h1:i<n):idx i n=some i.toNat:=by
 unfold idx;rw [decide_eq_true h0];simp [h1]
theorem idx_neg {i:Int} {n:Nat} (h0:i<0) (h1:0≤i+n):idx i n=some (i+n).toNat:=by
 unfold idx;rw [decide_eq_false (by lia)];simp [h1]
theorem item_l {l:Nat} {xs:List V} {i:Int} {r:V} (e:σ l=some (.list xs)) (h0:0≤i) (hx:xs[i.toNat]?=some r) (q:Q r σ) (h1:i<2 ^ 62:=by omega):itemV (.loc l) (.int i) σ Q:=
 ⟨_,e,by lia,i.toNat,r,idx_nat h0 (by have:=(Ja3.mp hx).1;lia),hx,q⟩
theorem item_k {l i:Nat} {xs:List V} {r:V} (e:σ l=some (.list xs)) (hx:xs[i]?=some r) (q:Q r σ) (h1:i≤1000000):itemV (.loc l) (.int i) σ Q:=item_l e (Jb0 _) hx q (by lia)
theorem item_m {α:Type} {l i:Nat} {f:α→V} {xs:List α} {y:α} (e:σ l=some (.list (xs.map f))) (hx:xs[i]?=some y) (q:Q (f y) σ) (h1:i≤1000000):itemV (.loc l) (.int i) σ Q:=item_k e (by rw [Ja8,hx];rfl) q h1
theorem item_last {l:Nat} {xs:List V} {r:V} (e:σ l=some (.list (xs++[r]))) (q:Q r σ):itemV (.loc l) (.int (-1)) σ Q:=
 ⟨_,e,by decide,xs.length,r,by rw [idx_neg (by lia) (by simp;lia)];simp;lia,by simp,q⟩
theorem item_t {xs:List V} {i:Int} {r:V} (h0:0≤i) (hx:xs[i.toNat]?=some r) (q:Q r σ) (h1:i<2 ^ 62:=by omega):itemV (.tup xs) (.int i) σ Q:=
 ⟨by lia,i.toNat,r,idx_nat h0 (by have:=(Ja3.mp hx).1;lia),hx,q⟩
theorem item_d {l:Nat} {es:List (Int×V)} {i:Int} {r:V} (e:σ l=some (.dict es)) (hx:ilook es i=some r) (q:Q r σ):itemV (.loc l) (.int i) σ Q:=⟨_,e,r,hx,q⟩
theorem attr_i {l c n:Nat} {as:List (Nat×V)} {r:V} (e:σ l=some (.inst c as)) (hx:look as n=some r) (q:Q r σ):attrV (.loc l) n σ Q:=⟨c,as,r,e,hx,q⟩
theorem setA_i {l c n:Nat} {as:List (Nat×V)} {v:V} (e:σ l=some (.inst c as)) (hl:as.length≤100) (q:P (upd σ l (.inst c (put as n v)))):setAV (.loc l) n v σ P:=⟨c,as,e,hl,q⟩
theorem setI_l {l:Nat} {xs:List V} {i:Int} {v:V} (e:σ l=some (.list xs)) (h0:0≤i) (h1:i<xs.length) (hz:i<2 ^ 62) (q:P (upd σ l (.list (xs.set i.toNat v)))):setIV (.loc l) (.int i) v σ P:=
 ⟨_,e,by lia,h0,h1,q⟩
theorem setI_d {l:Nat} {es:List (Int×V)} {i:Int} {v:V} (e:σ l=some (.dict es)) (hl:es.length≤100) (hx:ilook es i=none) (q:P (upd σ l (.dict (es++[(i,v)])))):setIV (.loc l) (.int i) v σ P:=⟨_,e,hl,hx,q⟩
theorem len_l {l:Nat} {xs:List V} (e:σ l=some (.list xs)) (hl:xs.length≤10000) (q:Q (.int xs.length) σ):biV .len [.loc l] σ Q:=⟨xs,e,hl,q⟩
theorem int_i {i:Int} (q:Q (.int i) σ):biV .int [.int i] σ Q:=q
theorem append_l {l:Nat} {xs:List V} {v:V} (e:σ l=some (.list xs)) (hl:xs.length≤10000) (q:Q .none (upd σ l (.list (xs++[v])))):listM l .append [v] σ Q:=⟨xs,e,hl,q⟩
theorem pop_l {l:Nat} {ys:List V} {r:V} (e:σ l=some (.list (ys++[r]))) (hl:ys.length≤9999) (q:Q r (upd σ l (.list ys))):listM l .pop [] σ Q:=⟨_,e,by simp;lia,ys,r,rfl,q⟩
theorem popi_l {l:Nat} {xs:List V} {i:Int} {r:V} (e:σ l=some (.list xs)) (hl:xs.length≤10000) (h0:0≤i) (hx:xs[i.toNat]?=some r) (q:Q r (upd σ l (.list (xs.eraseIdx i.toNat)))):listM l .pop [.int i] σ Q:=⟨xs,e,hl,h0,r,hx,q⟩
theorem meth_l {l n:Nat} {xs:List V} {R:MK→Prop} (e:σ l=some (.list xs)) (q:R (.list l)):methL (.loc l) n σ R:=⟨_,e,q⟩
theorem meth_m {l n c:Nat} {as:List (Nat×V)} {R:MK→Prop} (e:σ l=some (.inst c as)) (hn:look as n=none) (hm:methOk c n=true) (q:R (.fn (.meth c n) [.loc l])):methL (.loc l) n σ R:=by
 refine ⟨_,e,?_⟩
 show match look as n with | some f=>_ | none=>_
 rw [hn];exact ⟨hm,q⟩
theorem meth_c {l n c fl:Nat} {as:List (Nat×V)} {R:MK→Prop} (e:σ l=some (.inst c as)) (hn:look as n=some (.loc fl)) (hf:fieldOk n=true) (q:R (.fn (.clos fl) [])):methL (.loc l) n σ R:=by
 refine ⟨_,e,?_⟩
 show match look as n with | some f=>_ | none=>_
 rw [hn];exact ⟨hf,q⟩
theorem c62 {i n:Nat} (h:i<n) (hn:Nat.ble n 1000000=true:=by rfl):(i:Int)<2 ^ 62:=by have:=Ja0 hn;lia
theorem c62' {i n:Nat} (h:i≤n) (hn:Nat.ble n 1000000=true:=by rfl):(i:Int)<2 ^ 62:=by have:=Ja0 hn;lia
noncomputable def tagO (x:Option Cell):Nat:=x.elim 0 fun c=>c.ctorIdx+1
theorem st_ne {a b:Nat} {x y:Option Cell} (e1:σ a=x) (e2:σ b=y) (h:Jc5 (tagO x) (tagO y)=false:=by rfl):a≠b:=fun q=>by
 subst q
 rw [← e1,← e2,Ji1] at h;cases h
theorem fn_ok {l j:Nat} {cl:List (Nat×Nat)} (e:σ l=some (.fn j cl)):fnOk (.clos l) σ:=⟨j,cl,e⟩
theorem attr_j {v:V} {n:Nat} (h:attrV v n σ Q) (hf:fieldOk n=true:=by rfl):fieldOk n=true∧attrV v n σ Q:=⟨hf,h⟩
theorem setA_j {l c n:Nat} {as:List (Nat×V)} {v:V} (e:σ l=some (.inst c as)) (q:P (upd σ l (.inst c (put as n v)))) (hl:Nat.ble as.length 100=true:=by rfl) (hf:fieldOk n=true:=by rfl):fieldOk n=true∧setAV (.loc l) n v σ P:=⟨hf,c,as,e,Ja0 hl,q⟩
theorem okZ {X:Prop} (h:X):okX .none∧X:=⟨trivial,h⟩
theorem iter_r {i:Int} {R:List V→(St→Prop)→Prop} (h0:0≤i) (h:i≤10000) (q:R (upTo i.toNat) fun _=>True):iterV true (.int i) σ R:=⟨by lia,q⟩
theorem iter_l {l:Nat} {xs:List V} {R:List V→(St→Prop)→Prop} (e:σ l=some (.list xs)) (h:xs.length≤10000) (q:R xs fun σ'=>σ' l=some (.list xs)):iterV false (.loc l) σ R:=⟨xs,e,h,q⟩
theorem iter_t {xs:List V} {R:List V→(St→Prop)→Prop} (q:R xs fun _=>True):iterV false (.tup xs) σ R:=q
theorem upTo_some {n i:Nat} {v:V} (h:(upTo n)[i]?=some v):v=.int i∧i<n:=by
 rw [upTo_get] at h
 split at h
 ·cases h;exact ⟨rfl,by assumption⟩
 ·cases h
theorem upTo_len (n:Nat):(upTo n).length=n:=by simp [upTo]
end
end
section
section
variable {Γ:Gl} {k:Nat} {σ:St} {fr:Frees}
theorem wpSs_join {n:Nat} {s:S} {ss:List S} {m:List (Nat×V)} {Q:SPost} (J:List (Nat×V)→St→Prop) (h:∀ Q':SPost,Le (joinQ J Q) Q'→wpS Γ k fr n s m σ Q') (hj:∀ m1 σ1,J m1 σ1→wpSs (wpS Γ k fr n) ss m1 σ1 Q) :
  wpSs (wpS Γ k fr n) (s::ss) m σ Q:=
 h _ fun fl m1 σ1 x=>by
  cases fl with
  | next=>exact hj _ _ x
  | _=>exact x
theorem SubE.refl (m:List (Nat×V)):SubE m m:=fun _ _ h=>h
theorem look_hd {r:List (Nat×V)} {y x:Nat} {w:V} (h:Jc5 y x=true):look ((y,w)::r) x=some w:=by
 show (match Jc5 y x with | true=>some w | false=>look r x)=_
 rw [h]
theorem look_tl {r:List (Nat×V)} {y x:Nat} {w:V} (h:Jc5 y x=false):look ((y,w)::r) x=look r x:=by
 show (match Jc5 y x with | true=>some w | false=>look r x)=_
 rw [h]
theorem SubE.app (m t:List (Nat×V)):SubE m (m++t):=fun x v h=>by
 induction m with
 | nil=>cases h
 | cons p r ih=>
  cases q:Jc5 p.1 x with
  | true=>exact (look_hd q).trans ((look_hd q).symm.trans h)
  | false=>exact (look_tl q).trans (ih ((look_tl q).symm.trans h))
theorem take_snoc {α:Type} {xs:List α} {i:Nat} {x:α} (h:xs[i]?=some x):xs.take (i+1)=xs.take i++[x]:=by rw [List.take_add_one,h];rfl
theorem range_some {n i x:Nat} (h:(Je1 n)[i]?=some x):x=i∧i<n:=by
 have:=Ja3.mp h
 exact this.elim fun h1 h2=>⟨h2.symm.trans (List.getElem_range h1),Jd4 (n:=n)▸h1⟩
/-- a loop over xs (mapped to values),states β with an environment of their own -/
theorem wpFor_map {α β:Type} {n:Nat} {src:St→Prop} {bind:V→List (Nat×V)→Option (List (Nat×V))} {body:List S} {xs:List α} {f:α→V} {Q:SPost} (env:β→List (Nat×V)) (I:Nat→β→St→Prop) (b0:β) (h0:I 0 b0 σ)
  (step:∀ i x b σ,xs[i]?=some x→I i b σ→src σ∧∃ m1,bind (f x) (env b)=some m1∧∀ Q':SPost,Le (invQ (EnvI env (I (i+1))) Q) Q'→wpSs (wpS Γ k fr n) body m1 σ Q')
  (fin:∀ b σ,I xs.length b σ→src σ∧Q .next (env b) σ):wpFor src bind (wpSs (wpS Γ k fr n) body) (xs.map f) (env b0) σ Q:=by
 have go:∀ (ys:List α) (i:Nat) (b:β) (σ:St),xs.drop i=ys→I i b σ→i+ys.length=xs.length→wpFor src bind (wpSs (wpS Γ k fr n) body) (ys.map f) (env b) σ Q:=by
  intro ys
  induction ys with
  | nil=>
   intro i b σ _ hI hi
   have:i=xs.length:=hi
   subst this
   exact fin b σ hI
  | cons y ys ih=>
   intro i b σ hd hI hi
   have hx:xs[i]?=some y:=by rw [← List.head?_drop,hd];rfl
   have hd':xs.drop (i+1)=ys:=by rw [← List.tail_drop,hd];rfl
   have hi':i+1+ys.length=xs.length:=(Jf4 ..).trans hi
   refine ⟨(step i y b σ hx hI).1,?_⟩
   refine (step i y b σ hx hI).2.elim fun m1 h=>?_
   rw [h.1]
   refine h.2 _ (fun fl m2 σ2 z=>?_)
   cases fl with
   | next=>cases z with | mk b' hs z=>exact ⟨_,hs,ih (i+1) b' σ2 hd' z hi'⟩
   | cont=>cases z with | mk b' hs z=>exact ⟨_,hs,ih (i+1) b' σ2 hd' z hi'⟩
   | brk=>exact z
   | ret v=>exact z
 exact go xs 0 b0 σ rfl h0 (Nat.zero_add _)
theorem wpFor_inv {n:Nat} {src:St→Prop} {bind:V→List (Nat×V)→Option (List (Nat×V))} {body:List S} {xs:List V} {m:List (Nat×V)} {Q:SPost} (I:Nat→List (Nat×V)→St→Prop) (h0:I 0 m σ)
  (step:∀ i x m σ,xs[i]?=some x→I i m σ→src σ∧∃ m1,bind x m=some m1∧∀ Q':SPost,Le (invQ (I (i+1)) Q) Q'→wpSs (wpS Γ k fr n) body m1 σ Q')
  (fin:∀ m σ,I xs.length m σ→src σ∧Q .next m σ):wpFor src bind (wpSs (wpS Γ k fr n) body) xs m σ Q:=by
 have h:=wpFor_map (Γ:=Γ) (k:=k) (fr:=fr) (σ:=σ) (n:=n) (src:=src) (bind:=bind) (body:=body) (xs:=xs) (f:=id) (Q:=Q) id I m h0 (fun i x b σ hx hI=>⟨(step i x b σ hx hI).1,(step i x b σ hx hI).2.elim fun m1 h=>⟨m1,h.1,fun Q' hq=>h.2 Q' fun fl m2 σ2 z=>hq fl m2 σ2 (by
  cases fl with
  | next=>exact ⟨m2,SubE.refl _,z⟩
  | cont=>exact ⟨m2,SubE.refl _,z⟩
  | brk=>exact z
  | ret v=>exact z)⟩⟩) fin
 rwa [List.map_id] at h
theorem wpIt_inv {n:Nat} {src:St→Prop} {c:Option Ex} {elt:Ex} {m:List (Nat×V)} {x:Nat} {xs:List V} {Q:List V→St→Prop} (I:Nat→List V→St→Prop) (h0:I 0 [] σ)
  (step:∀ i y acc σ,xs[i]?=some y→I i acc σ→src σ∧∀ R:List V→St→(List V→St→Prop)→Prop,(∀ acc' σ',I (i+1) acc' σ'→R acc' σ' Q)→condW (wpE Γ k fr n true) c m x y σ (kCond R (evP (wpE Γ k fr n) elt m x) y acc Q))
  (fin:∀ acc σ,I xs.length acc σ→src σ∧Q acc σ):wpIt src (condW (wpE Γ k fr n true) c m x) (evP (wpE Γ k fr n) elt m x) xs [] σ Q:=by
 have go:∀ (ys:List V) (i:Nat) (acc:List V) (σ:St),xs.drop i=ys→I i acc σ→i+ys.length=xs.length→wpIt src (condW (wpE Γ k fr n true) c m x) (evP (wpE Γ k fr n) elt m x) ys acc σ Q:=by
  intro ys
  induction ys with
  | nil=>
   intro i acc σ _ hI hi
   have:i=xs.length:=hi
   subst this
   exact fin acc σ hI
  | cons y ys ih=>
   intro i acc σ hd hI hi
   have hx:xs[i]?=some y:=by rw [← List.head?_drop,hd];rfl
   have hd':xs.drop (i+1)=ys:=by rw [← List.tail_drop,hd];rfl
   have hi':i+1+ys.length=xs.length:=(Jf4 ..).trans hi
   exact ⟨(step i y acc σ hx hI).1,(step i y acc σ hx hI).2 _ fun acc' σ' h=>ih (i+1) acc' σ' hd' h hi'⟩
 exact go xs 0 [] σ rfl h0 (Nat.zero_add _)
theorem wpIt_imap {α:Type} {n:Nat} {src:St→Prop} {elt:Ex} {m:List (Nat×V)} {x:Nat} {xs:List α} {f:α→V} {Q:List V→St→Prop} (I:Nat→List V→St→Prop) (h0:I 0 [] σ)
  (step:∀ i y acc σ,xs[i]?=some y→I i acc σ→src σ∧∀ R:List V→St→(List V→St→Prop)→Prop,(∀ acc' σ',I (i+1) acc' σ'→R acc' σ' Q)→wpE Γ k fr n false elt (put m x (f y)) σ (kElt R acc Q))
  (fin:∀ acc σ,I xs.length acc σ→src σ∧Q acc σ):wpIt src (condW (wpE Γ k fr n true) none m x) (evP (wpE Γ k fr n) elt m x) (xs.map f) [] σ Q:=by
 refine wpIt_inv I h0 (fun i y acc σ' hy hI=>?_) (fun acc σ' hI=>fin acc σ' (Ja2 (as:=xs) f▸hI))
 rw [Ja8] at hy
 cases hx:xs[i]? with
 | none=>rw [hx] at hy;cases hy
 | some z=>
  rw [hx] at hy;cases hy
  exact ⟨(step i z acc σ' hx hI).1,fun R hR=>.t rfl ((step i z acc σ' hx hI).2 R hR)⟩
theorem wpIt_map {α:Type} {n:Nat} {src:St→Prop} {elt:Ex} {m:List (Nat×V)} {x:Nat} {xs:List α} {f g:α→V} {Q:List V→St→Prop} (hl:xs.length≤10000) (hs:src σ)
  (h:∀ y∈xs,∀ R:V→St→Prop,R (g y) σ→wpE Γ k fr n false elt (put m x (f y)) σ R) (q:Q (xs.map g) σ) :
  wpIt src (condW (wpE Γ k fr n true) none m x) (evP (wpE Γ k fr n) elt m x) (xs.map f) [] σ Q:=by
 refine wpIt_imap (fun i acc σ'=>acc=(xs.take i).map g∧σ=σ') ⟨rfl,rfl⟩ (fun i z acc σ' hx hI=>?_) (fun acc σ' hI=>?_)
 ·obtain ⟨rfl,rfl⟩:=hI
  refine ⟨hs,fun R hR=>h z (Ja9 hx) _ ?_⟩
  refine ⟨Ja1 (Je5 (Ja2 _)) (Ja1 (Jg0 ..) hl),hR _ _ ⟨?_,rfl⟩⟩
  rw [take_snoc hx,Jb5];rfl
 ·obtain ⟨rfl,rfl⟩:=hI
  rw [Je2]
  exact ⟨hs,q⟩
theorem wpIt_pure {n:Nat} {src:St→Prop} {elt:Ex} {m:List (Nat×V)} {x:Nat} {xs:List V} {Q:List V→St→Prop} (g:V→V) (hl:xs.length≤10000) (hs:src σ)
  (h:∀ y∈xs,∀ R:V→St→Prop,R (g y) σ→wpE Γ k fr n false elt (put m x y) σ R) (q:Q (xs.map g) σ) :
  wpIt src (condW (wpE Γ k fr n true) none m x) (evP (wpE Γ k fr n) elt m x) xs [] σ Q:=by
 have h2:=wpIt_map (Γ:=Γ) (k:=k) (fr:=fr) (f:=id) hl hs h q
 rwa [List.map_id] at h2
theorem wpIt_filter {n:Nat} {src:St→Prop} {c elt:Ex} {m:List (Nat×V)} {x:Nat} {xs:List V} {Q:List V→St→Prop} (p:V→Bool) (g:V→V) (hl:xs.length≤10000) (hs:src σ)
  (hc:∀ y∈xs,∀ R:V→St→Prop,R (.bool (p y)) σ→wpE Γ k fr n true c (put m x y) σ R)
  (h:∀ y∈xs,p y=true→∀ R:V→St→Prop,R (g y) σ→wpE Γ k fr n false elt (put m x y) σ R) (q:Q ((xs.filter p).map g) σ) :
  wpIt src (condW (wpE Γ k fr n true) (some c) m x) (evP (wpE Γ k fr n) elt m x) xs [] σ Q:=by
 refine wpIt_inv (fun i acc σ'=>σ=σ'∧acc=((xs.take i).filter p).map g) ⟨rfl,rfl⟩ (fun i y acc σ' hy hI=>?_) (fun acc σ' hI=>?_)
 ·obtain ⟨rfl,rfl⟩:=hI
  have hm:=Ja9 hy
  refine ⟨hs,fun R hR=>hc y hm _ (ifB_intro (fun hp=>h y hm hp _ ⟨?_,hR _ _ ⟨rfl,?_⟩⟩) (fun hp=>hR _ _ ⟨rfl,?_⟩))⟩
  ·exact Ja1 (Je5 (Ja2 _)) (Ja1 (Jf8 ..) (Ja1 (Jg0 ..) hl))
  ·rw [take_snoc hy,List.filter_append,Jb5,List.filter_cons_of_pos hp];rfl
  ·rw [take_snoc hy,List.filter_append,List.filter_cons_of_neg (fun e=>Bool.noConfusion (hp.symm.trans e)),List.filter_nil,Jd3]
 ·obtain ⟨rfl,rfl⟩:=hI
  rw [Je2]
  exact ⟨hs,q⟩
end
end
section
seal itemV attrV setAV setIV biV listM methL sliceV iterV inV
section
variable {Γ:Gl} {k:Nat} {f:Fn} {args:List V} {σ:St} {Q Q':V→St→Prop}
theorem spec_mask (L:Lib Γ) {w:Int} (hw:0≤w∧w≤1000) (q:Q (.int (2 ^ w.toNat - 1)) σ):WC Γ (k+1) (.glob 110) [.int w] σ Q:=by
 refine WC_def (n:=10) (L.fns 12 _ _ _ _ rfl) rfl ?_
 refine ⟨⟨hw.1,by lia,by decide⟩,?_⟩
 conv=>whnf
 simpa using q
structure BagOk (b:List Int):Prop where
 two:2≤b.length
 few:b.length≤30
 pos:0≤b.headD 0
theorem fewl {b:List Int} (h:b.length≤30):(b.map V.int).length≤10000:=(Ja2 (as:=b) V.int).symm▸Ja1 h (Ja0 rfl)
theorem spec_pull (L:Lib Γ) {l:Nat} {b:List Int} {many:Int} (hb:BagOk b) (e:σ l=some (.list (b.map .int))) (hm:0<many∧many<1000000)
  (q:∀ (got:Int) (b':List Int),0≤got→got<many→BagOk b'→Q (.int got) (upd σ l (.list (b'.map .int)))):WC Γ (k+1) (.glob 20) [.loc l,.int many] σ Q:=by
 refine WC_def (n:=10) (L.fns 29 _ _ _ _ rfl) rfl ?_
 refine gabs fun gG gK=>?_
 obtain ⟨b0,b1,rest,rfl⟩:∃ b0 b1 rest,b=b0::b1::rest:=by
  have h2:=hb.two
  cases b with
  | nil=>cases h2
  | cons b0 b=>cases b with
   | nil=>exact absurd h2 (by simp)
   | cons b1 r=>exact ⟨b0,b1,r,rfl⟩
 refine gK ?_
 have fin:∀ (r':List (Nat×V)) (σ1:St) (c0 c1:Int) (r:List Int),0≤c0→r.length≤28→(σ1=σ∨∃ d,σ1=upd σ l d)→σ1 l=some (.list (.int c0::.int c1::r.map .int))→
   wpSs (wpS Γ k [] 10) [S.asg 81 (Ex.bin Operator.Mod (Ex.bi 0 [(Ex.var 42).item (Ex.int 0)]) (Ex.var 109)),S.setI (Ex.var 42) (Ex.int 0) (Ex.bin Operator.FloorDiv ((Ex.var 42).item (Ex.int 0)) (Ex.var 109)),S.ret (Ex.var 81)] ((42,V.loc l)::(109,V.int many)::r') σ1 (fun fl x σ'=>retV fl fun v=>Q v σ'):=by
  intro r' σ1 c0 c1 r h0 hl hs e1
  have hq:Q (.int (c0.fmod many)) (upd σ1 l (.list (.int (c0.fdiv many)::.int c1::r.map .int))):=by
   have:=q (c0.fmod many) (c0.fdiv many::c1::r) (Int.fmod_nonneg_of_pos _ hm.1) (Int.fmod_lt_of_pos _ hm.1) ⟨Jf3 _ _,Je9 (Je9 hl),Int.fdiv_nonneg h0 (Int.le_of_lt hm.1)⟩
   rcases hs with rfl | ⟨d,rfl⟩
   ·exact this
   ·rw [upd_upd];exact this
  have hm0:many≠0:=Int.ne_of_gt hm.1
  refine item_l e1 (by decide) rfl ?_
  refine int_i ?_
  refine ⟨hm0,?_⟩
  refine item_l e1 (by decide) rfl ?_
  refine ⟨⟨hm0,Jc1.mp (by rw [Int.natAbs_of_nonneg (Int.le_of_lt hm.1)];exact Int.lt_trans hm.2 (by decide))⟩,?_⟩
  refine setI_l e1 (by decide) (Jc1.mpr (Ji0 _)) (by decide) ?_
  conv=>whnf
  rw [look_put,if_pos rfl]
  exact hq
 have hf:=hb.few
 refine item_l e (by decide) rfl ?_
 refine ifB_intro (fun h=>?_) (fun h=>?_)
 ·refine len_l e (fewl hf) ?_
  refine ifB_intro (fun h2=>?_) (fun h2=>?_)
  ·refine meth_l e ?_
   refine ⟨Jd7 1,?_⟩
   refine gabs fun gG gK=>?_
   obtain ⟨c,rest',rfl⟩:∃ c r',rest=c::r':=by
    cases rest with
    | nil=>simp [cmpI] at h2
    | cons c r=>exact ⟨c,r,rfl⟩
   refine gK ?_
   refine popi_l e (fewl hf) (by decide) rfl ?_
   refine ifB_intro (fun h3=>?_) (fun h3=>?_)
   ·refine ⟨.inl (by decide),?_⟩
    refine setI_l (upd_self ..) (by decide) (Jc1.mpr (Ji0 _)) (by decide) ?_
    refine fin [(49,.int c)] _ (2 * c) b1 rest' (by simp [cmpI] at h3;lia) (by simp at hf;lia) (.inr ⟨_,upd_upd ..⟩) (upd_self ..)
   ·refine ⟨.inl (by decide),?_⟩
    refine setI_l (upd_self ..) (by decide) (Jc1.mpr (Ji0 _)) (by decide) ?_
    refine fin [(49,.int c)] _ (-2 * c - 1) b1 rest' (by simp [cmpI] at h3;lia) (by simp at hf;lia) (.inr ⟨_,upd_upd ..⟩) (upd_self ..)
  ·refine item_l e (by decide) rfl ?_
   refine ⟨.inr (by decide),?_⟩
   refine ⟨by decide,?_⟩
   refine setI_l e (by decide) (Jc1.mpr (Nat.succ_lt_succ (Ji0 _))) (by decide) ?_
   refine item_l (upd_self ..) (by decide) rfl ?_
   refine ⟨⟨by decide,by decide⟩,?_⟩
   refine setI_l (upd_self ..) (by decide) (Jc1.mpr (Ji0 _)) (by decide) ?_
   refine fin [] _ _ _ rest ?_ (by simp at hf;lia) (.inr ⟨_,upd_upd ..⟩) (upd_self ..)
   exact Int.fdiv_nonneg (Int.fmod_nonneg_of_pos _ (by decide)) (by decide)
 ·refine fin [] σ b0 b1 rest hb.pos (by simp at hf;lia) (.inl rfl) e
end
end
section
noncomputable def lowN:List Int→Int
 | []=>0
 | c::r=>c % 2+2 * lowN r
noncomputable def highN:List Int→Int
 | []=>0
 | c::r=>c / 2+2 * highN r
noncomputable def Cells (r:List Int):Prop:=∀ c∈r,0≤c∧c≤3
theorem Cells.tail {c:Int} {r:List Int} (h:Cells (c::r)):Cells r:=fun x hx=>h x (.tail _ hx)
theorem Cells.append {r s:List Int} (h:Cells r) (h2:Cells s):Cells (r++s):=fun x hx=>(Jd0.mp hx).elim (h x) (h2 x)
theorem low_snoc (r:List Int) (c:Int):lowN (r++[c])=lowN r+c % 2 * 2 ^ r.length:=by
 induction r with
 | nil=>simp [lowN]
 | cons d r ih=>
  simp only [List.cons_append,lowN,ih,List.length_cons,Ji2]
  rw [Int.mul_add,Int.add_assoc,← Int.mul_assoc,Int.mul_comm 2 (c % 2),Int.mul_assoc (c % 2) 2,Int.mul_comm 2 (2 ^ r.length)]
theorem high_snoc (r:List Int) (c:Int):highN (r++[c])=highN r+c / 2 * 2 ^ r.length:=by
 induction r with
 | nil=>simp [highN]
 | cons d r ih=>
  simp only [List.cons_append,highN,ih,List.length_cons,Ji2]
  rw [Int.mul_add,Int.add_assoc,← Int.mul_assoc,Int.mul_comm 2 (c / 2),Int.mul_assoc (c / 2) 2,Int.mul_comm 2 (2 ^ r.length)]
noncomputable def vec3 (w a b:Int):V:=.tup [.int w,.int a,.int b]
noncomputable def vecOf (r:List Int):V:=vec3 r.length (lowN r) (highN r)
noncomputable abbrev rowC (r:List Int):Cell:=.list (r.map .int)
section
variable {Γ:Gl} {k:Nat} {f:Fn} {args:List V} {σ:St} {Q Q':V→St→Prop}
seal itemV attrV setAV setIV biV listM methL sliceV iterV inV
noncomputable def vtE (l:Nat) (b:Int×Int):List (Nat×V):=[(136,.loc l),(32,.int b.1),(40,.int b.2)]
theorem shl_ok {i:Nat} {a:Int} (hi:i≤100) (h0:0≤a) (ha:a≤3):0≤(i:Int)∧(i:Int)≤1000000∧a.natAbs<2 ^ 64:=⟨by lia,by lia,by lia⟩
theorem cell_lo {c:Int} (h:0≤c∧c≤3):0≤c.fmod 2∧c.fmod 2≤3:=by rw [Int.fmod_eq_emod_of_nonneg _ (by decide)];lia
theorem cell_hi {c:Int} (h:0≤c∧c≤3):0≤c.fdiv 2∧c.fdiv 2≤3:=by rw [Jf9 _ (by decide)];lia
theorem vec_snoc {r:List Int} {i:Nat} {c:Int} (h:r[i]?=some c):lowN (r.take (i+1))=lowN (r.take i)+c.fmod 2 * 2 ^ i∧highN (r.take (i+1))=highN (r.take i)+c.fdiv 2 * 2 ^ i:=by
 have l1:(r.take i).length=i:=by have:=(Ja3.mp h).1;rw [List.length_take];lia
 rw [take_snoc h,low_snoc,high_snoc,l1,← Int.fmod_eq_emod_of_nonneg _ (by decide:(0:Int)≤2),← Jf9 _ (by decide:(0:Int)≤2)]
 exact ⟨rfl,rfl⟩
theorem spec_vector (L:Lib Γ) {l:Nat} {r:List Int} (e:σ l=some (rowC r)) (hl:r.length≤100) (hr:Cells r) (q:Q (vecOf r) σ):WC Γ (k+1) (.glob 29) [.loc l] σ Q:=by
 refine WC_def (n:=10) (L.fns 30 _ _ _ _ rfl) rfl ?_
 refine ifB.f rfl ?_
 refine ⟨rfl,?_⟩
 have hz:(r.map V.int).length≤10000:=(Ja2 _).symm▸Ja1 hl (Ja0 rfl)
 refine len_l e hz ?_
 refine iter_r (Jb0 _) (Jf6.mpr hz) ?_
 refine wpFor_map (xs:=Je1 (r.map V.int).length) (vtE l) (fun i b σ'=>σ=σ'∧(lowN (r.take i),highN (r.take i))=b) (0,0) ⟨rfl,rfl⟩ (fun i x b σ' hx hI=>?_) (fun b σ' hI=>?_)
 ·obtain ⟨rfl,rfl⟩:=hI
  have hj:=range_some hx
  have hji:=hj.1.symm
  subst hji
  have hi:i<r.length:=Ja2 (as:=r) V.int▸hj.2
  have hc:=Ja5 hi
  have hb:=hr _ (Jc7 hi)
  revert hc hb
  refine gen (r[i]) ?_
  intro c
  intros
  have hi2:=Ja1 (Jc4 hi) hl
  have s:=vec_snoc hc
  refine ⟨trivial,_,rfl,fun Q9 q9=>⟨rfl,?_⟩⟩
  refine item_m e hc ?_ (Ja1 hi2 (Ja0 rfl))
  refine int_i ⟨by decide,shl_ok hi2 (cell_lo hb).1 (cell_lo hb).2,rfl,?_⟩
  refine item_m e hc ?_ (Ja1 hi2 (Ja0 rfl))
  refine ⟨⟨by decide,by decide⟩,shl_ok hi2 (cell_hi hb).1 (cell_hi hb).2,?_⟩
  exact q9 _ _ _ ⟨_,SubE.app _ _,rfl,congr (congrArg Prod.mk s.1) s.2⟩
 ·obtain ⟨rfl,rfl⟩:=hI
  rw [Jd4,Ja2,Je2]
  refine ⟨trivial,?_⟩
  refine len_l e hz ?_
  exact (congrArg (fun n:Nat=>Q (vec3 n (lowN r) (highN r)) σ) (Ja2 (as:=r) V.int)).mpr q
theorem spec_vectorN (L:Lib Γ) (q:Q .none σ):WC Γ (k+1) (.glob 29) [.none] σ Q:=by
 refine WC_def (n:=10) (L.fns 30 _ _ _ _ rfl) rfl ?_
 refine .t rfl ?_
 exact q
end
end
section
theorem low_pos {r:List Int}:0≤lowN r:=by
 induction r with
 | nil=>exact Int.le_refl _
 | cons c r ih=>simp only [lowN];lia
theorem high_pos {r:List Int} (h:Cells r):0≤highN r:=by
 induction r with
 | nil=>exact Int.le_refl _
 | cons c r ih=>have:=ih h.tail;have:=h c (.head _);simp only [highN];lia
theorem dig_mod {x l:Int} (h0:0≤x) (h1:x≤1):(x+2 * l) % 2=x:=by
 rw [Int.add_mul_emod_self_left,Int.emod_eq_of_lt h0 (show x<2 from Int.lt_add_one_of_le h1)]
theorem dig_div {x l:Int} (i:Nat) (h0:0≤x) (h1:x≤1):(x+2 * l) / 2 ^ (i+1)=l / 2 ^ i:=by
 rw [Ji2,Int.mul_comm (2 ^ i) 2,← Int.ediv_ediv_of_nonneg (by decide),Int.add_mul_ediv_left _ _ (by decide),Int.ediv_eq_zero_of_lt h0 (show x<2 from Int.lt_add_one_of_le h1),Int.zero_add]
theorem lo_d (c:Int):0≤c % 2∧c % 2≤1:=⟨Int.emod_nonneg c (by decide),Int.le_of_lt_add_one (Int.emod_lt_of_pos c (by decide))⟩
theorem hi_d {c:Int} (h:0≤c∧c≤3):0≤c / 2∧c / 2≤1:=⟨Int.ediv_nonneg h.1 (by decide),Int.le_of_lt_add_one (Int.ediv_lt_of_lt_mul (by decide) (Ji9 h.2 (by decide)))⟩
theorem low_get (r:List Int):∀ (i:Nat) (hi:i<r.length),lowN r / 2 ^ i % 2=r[i] % 2:=by
 induction r with
 | nil=>exact fun i hi=>absurd hi (Nat.not_lt_zero _)
 | cons c r ih=>
  intro i hi
  cases i with
  | zero=>exact (congrArg (· % 2) (Int.ediv_one _)).trans (dig_mod (lo_d c).1 (lo_d c).2)
  | succ i=>exact (congrArg (· % 2) (dig_div i (lo_d c).1 (lo_d c).2)).trans (ih i (Nat.lt_of_succ_lt_succ hi))
theorem high_get (r:List Int):∀ (i:Nat) (hi:i<r.length),Cells r→highN r / 2 ^ i % 2=r[i] / 2:=by
 induction r with
 | nil=>exact fun i hi=>absurd hi (Nat.not_lt_zero _)
 | cons c r ih=>
  intro i hi h
  have d:=hi_d (h c (.head _))
  cases i with
  | zero=>exact (congrArg (· % 2) (Int.ediv_one _)).trans (dig_mod d.1 d.2)
  | succ i=>exact (congrArg (· % 2) (dig_div i d.1 d.2)).trans (ih i (Nat.lt_of_succ_lt_succ hi) h.tail)
theorem cell_get {r:List Int} {i:Nat} (hi:i<r.length) (h:Cells r):lowN r / 2 ^ i % 2+2 * (highN r / 2 ^ i % 2)=r[i]:=by
 rw [low_get r i hi,high_get r i hi h]
 have:=h _ (Jc7 hi)
 lia
theorem vecOf_inj {r s:List Int} (hr:Cells r) (hs:Cells s) (h:vecOf r=vecOf s):r=s:=by
 have h:=List.cons.inj (V.tup.inj h)
 have h1:=V.int.inj h.1
 have h:=List.cons.inj h.2
 have h2:=V.int.inj h.1
 have h3:=V.int.inj (List.cons.inj h.2).1
 have hl:r.length=s.length:=Int.ofNat.inj h1
 refine List.ext_getElem hl fun i hi hi'=>?_
 rw [← cell_get hi hr,← cell_get hi' hs,h2,h3]
section
variable {Γ:Gl} {k:Nat} {f:Fn} {args:List V} {σ:St} {Q Q':V→St→Prop}
seal itemV attrV setAV setIV biV listM methL sliceV iterV inV
theorem spec_row (L:Lib Γ) {r:List Int} (hl:r.length≤100) (hr:Cells r) (q:∀ l,σ l=none→Q (.loc l) (upd σ l (rowC r))):WC Γ (k+1) (.glob 23) [vecOf r] σ Q:=by
 refine WC_def (n:=10) (L.fns 31 _ _ _ _ rfl) rfl ?_
 refine ⟨rfl,?_⟩
 refine item_t (by decide) rfl ?_
 refine iter_r (by lia) (by lia) ?_
 refine wpIt_pure (fun v=>match v with | .int i=>.int (r.getD i.toNat 0) | v=>v) (by rw [upTo_len];lia) trivial (fun y hy R hR=>?_) ?_
 ·refine gabs fun gG gK=>?_
  obtain ⟨i,hi⟩:=List.mem_iff_getElem?.mp hy
  obtain ⟨rfl,hlt⟩:=upTo_some hi
  refine gK ?_
  have hlt:i<r.length:=by simpa using hlt
  refine item_t (by decide) rfl ?_
  refine ⟨by lia,?_⟩
  refine int_i ?_
  refine ⟨by decide,?_⟩
  refine item_t (by decide) rfl ?_
  refine ⟨by lia,?_⟩
  refine int_i ?_
  refine ⟨by decide,?_⟩
  refine ⟨.inl (by decide),?_⟩
  refine (congrArg (fun x=>R (.int x) σ) ?_).mpr hR
  have h2:(0:Int)≤2 ^ i:=Int.le_of_lt (Int.pow_pos (by decide))
  have:=cell_get hlt hr
  simp only [Jf1,Ja6,Ja5 hlt,Option.getD_some]
  rw [← this]
  show ((lowN r).fdiv (2 ^ i)).fmod 2+2 * ((highN r).fdiv (2 ^ i)).fmod 2=_
  rw [Jf9 _ h2,Jf9 _ h2,Int.fmod_eq_emod_of_nonneg _ (by decide),Int.fmod_eq_emod_of_nonneg _ (by decide)]
 ·intro l hn
  conv=>whnf
  have:(upTo ((r.length:Int).toNat)).map (fun v=>match v with | V.int i=>V.int (r.getD i.toNat 0) | v=>v)=r.map V.int:=by
   refine Jh2 fun i=>?_
   rw [Ja8,upTo_get,Ja8]
   by_cases h:i<r.length
   ·rw [if_pos (by lia)];simp [h]
   ·rw [if_neg (by lia),Jf5 (Je3 h)];rfl
  have h2:=q l hn
  unfold rowC at h2
  rw [← this] at h2
  exact h2
end
end
section
theorem pow_pos2 (n:Nat):(0:Int)<2 ^ n:=Int.pow_pos (by decide)
theorem pow_cast (n:Nat):((2:Int) ^ n)=((2 ^ n:Nat):Int):=by simp
theorem and_mask {a:Int} (h:0≤a) (w:Nat):Builtin.bitAnd a (2 ^ w - 1)=a % 2 ^ w:=by
 have hp:=pow_pos2 w
 rw [PyProof.Rows.bitAnd_pp h (Int.le_sub_one_of_lt hp),pow_cast,show (((2 ^ w:Nat):Int) - 1).toNat=2 ^ w - 1 from Int.toNat_sub (2 ^ w) 1,Nat.and_two_pow_sub_one_eq_mod]
 show ((a.toNat % 2 ^ w:Nat):Int)=_
 rw [Int.natCast_emod,Jg7 h]
theorem xor_mask {l w:Nat} (h:l≤w):Builtin.bitXor (2 ^ w - 1) (2 ^ l - 1)=2 ^ w - 2 ^ l:=by
 have hp:=pow_pos2 w
 have hl:=pow_pos2 l
 rw [PyProof.Rows.bitXor_and,and_mask (by lia)]
 obtain ⟨d,rfl⟩:=Nat.exists_eq_add_of_le h
 have:((2:Int) ^ (l+d) - 1) % 2 ^ l=2 ^ l - 1:=by
  have e:(2:Int) ^ (l+d) - 1=(2 ^ l - 1)+2 ^ l * (2 ^ d - 1):=by rw [Int.pow_add,Int.mul_sub];lia
  rw [e,Int.add_mul_emod_self_left,Int.emod_eq_of_lt (by lia) (by lia)]
 rw [this];lia
theorem and_high {a:Nat} {l y:Nat} (h:a<2 ^ l):a &&& (2 ^ l * y)=0:=by
 apply Nat.eq_of_testBit_eq
 intro i
 rw [Nat.testBit_and,Nat.testBit_two_pow_mul,Nat.zero_testBit]
 by_cases hi:l≤i
 ·rw [Nat.testBit_lt_two_pow (Jc8 h (Nat.pow_le_pow_right (by decide) hi))];rfl
 ·simp [hi]
theorem or_high {a:Int} {l w:Nat} (h0:0≤a) (h1:a<2 ^ l) (h:l≤w):Builtin.bitOr a (2 ^ w - 2 ^ l)=a+(2 ^ w - 2 ^ l):=by
 obtain ⟨d,rfl⟩:=Nat.exists_eq_add_of_le h
 have hd:=pow_pos2 d
 have hl:=pow_pos2 l
 have e:(2:Int) ^ (l+d) - 2 ^ l=((2 ^ l * (2 ^ d - 1):Nat):Int):=by
  have:0<2 ^ d:=Nat.pow_pos (by decide)
  rw [Int.natCast_mul,Int.natCast_sub (by lia),Int.pow_add,← pow_cast,← pow_cast,Int.mul_sub];simp
 rw [PyProof.Rows.bitOr_and,e,PyProof.Rows.bitAnd_pp h0 (by lia),Jf1,and_high (by rw [pow_cast] at h1;lia)]
 simp
theorem low_lt (r:List Int):lowN r<2 ^ r.length:=by
 induction r with
 | nil=>simp [lowN]
 | cons c r ih=>simp only [lowN,List.length_cons,Ji2];lia
theorem high_lt {r:List Int} (h:Cells r):highN r<2 ^ r.length:=by
 induction r with
 | nil=>simp [highN]
 | cons c r ih=>have:=ih h.tail;have:=h c (.head _);simp only [highN,List.length_cons,Ji2];lia
theorem take_step {x l p:Int} (hp:0<p) (h0:0≤x) (h1:x≤1):(x+2 * l) % (p * 2)=x+2 * (l % p):=by
 have h2:=Int.emod_add_mul_ediv l p
 have h3:=Int.emod_nonneg l (Int.ne_of_gt hp)
 have h4:=Int.emod_lt_of_pos l hp
 have e:x+2 * l=(x+2 * (l % p))+(p * 2) * (l / p):=by
  rw [Int.mul_assoc,Int.mul_left_comm];lia
 rw [e,Int.add_mul_emod_self_left,Int.emod_eq_of_lt (Int.add_nonneg h0 (Int.mul_nonneg (by decide) h3)) (by lia)]
theorem low_take (r:List Int):∀ w,w≤r.length→lowN r % 2 ^ w=lowN (r.take w):=by
 induction r with
 | nil=>intro w h;cases Nat.le_zero.mp h;exact Int.zero_emod _
 | cons c r ih=>
  intro w h
  cases w with
  | zero=>exact Int.emod_one _
  | succ w=>
   rw [Ji2]
   exact (take_step (pow_pos2 w) (Int.emod_nonneg c (by decide)) (Int.le_of_lt_add_one (Int.emod_lt_of_pos c (by decide)))).trans (congrArg (fun z=>c % 2+2 * z) (ih w (Nat.le_of_succ_le_succ h)))
theorem high_take (r:List Int):∀ w,w≤r.length→Cells r→highN r % 2 ^ w=highN (r.take w):=by
 induction r with
 | nil=>intro w h _;cases Nat.le_zero.mp h;exact Int.zero_emod _
 | cons c r ih=>
  intro w h hc
  have hcc:=hc c (.head _)
  cases w with
  | zero=>exact Int.emod_one _
  | succ w=>
   rw [Ji2]
   exact (take_step (pow_pos2 w) (Int.ediv_nonneg hcc.1 (by decide)) (Int.le_of_lt_add_one (Int.ediv_lt_of_lt_mul (by decide) (Ji9 hcc.2 (by decide))))).trans (congrArg (fun z=>c / 2+2 * z) (ih w (Nat.le_of_succ_le_succ h) hc.tail))
theorem low_rep (r:List Int) (c:Int) (n:Nat):lowN (r++Jb1 n c)=lowN r+c % 2 * (2 ^ (r.length+n) - 2 ^ r.length):=by
 induction n with
 | zero=>simp
 | succ n ih=>
  rw [List.replicate_succ',← Jd9,low_snoc,ih,Jb2,Jd6]
  have e:(2:Int) ^ (r.length+(n+1))=2 ^ (r.length+n)+2 ^ (r.length+n):=by rw [← Nat.add_assoc,Ji2];lia
  rw [e,Int.add_assoc,← Int.mul_add]
  congr 2;lia
theorem high_rep (r:List Int) (c:Int) (n:Nat):highN (r++Jb1 n c)=highN r+c / 2 * (2 ^ (r.length+n) - 2 ^ r.length):=by
 induction n with
 | zero=>simp
 | succ n ih=>
  rw [List.replicate_succ',← Jd9,high_snoc,ih,Jb2,Jd6]
  have e:(2:Int) ^ (r.length+(n+1))=2 ^ (r.length+n)+2 ^ (r.length+n):=by rw [← Nat.add_assoc,Ji2];lia
  rw [e,Int.add_assoc,← Int.mul_add]
  congr 2;lia
noncomputable def wideL (r:List Int) (w:Nat) (s:Bool):List Int:=if w≤r.length then r.take w else r++Jb1 (w - r.length) (if s then r.getLastD 0 else 0)
theorem wide_len (r:List Int) (w:Nat) (s:Bool):(wideL r w s).length=w:=by unfold wideL;split <;> simp <;> lia
theorem wide_cells {r:List Int} (h:Cells r) (w:Nat) (s:Bool):Cells (wideL r w s):=by
 unfold wideL
 split
 ·exact fun x hx=>h x (Je6 hx)
 ·refine h.append fun x hx=>?_
  obtain ⟨_,rfl⟩:=Ji8.mp hx
  split
  ·cases r with
   | nil=>simp
   | cons c r=>rw [List.getLastD_cons];exact h _ (by have:=List.getLast_mem (l:=c::r) (by simp);rwa [List.getLast_eq_getLastD] at this)
  ·decide
end
section
section
variable {Γ:Gl} {k:Nat} {f:Fn} {args:List V} {σ:St} {Q Q':V→St→Prop}
seal itemV attrV setAV setIV biV listM methL sliceV iterV inV
theorem low3 (w:Nat):lowN (Jb1 w 3)=2 ^ w - 1:=by
 have:=low_rep [] 3 w
 simpa [lowN] using this
theorem high3 (w:Nat):highN (Jb1 w 3)=2 ^ w - 1:=by
 have:=high_rep [] 3 w
 simpa [highN] using this
theorem spec_all_x (L:Lib Γ) {w:Nat} (hw:w≤1000) (q:Q (vecOf (Jb1 w 3)) σ):WC Γ (k+2) (.glob 36) [.int w] σ Q:=by
 refine WC_def (n:=10) (L.fns 14 _ _ _ _ rfl) rfl ?_
 refine spec_mask L ⟨by lia,by lia⟩ ?_
 conv=>whnf
 rw [vecOf,low3,high3,Jd6] at q
 simpa [vec3] using q
theorem spec_vec (L:Lib Γ) {w:Nat} {a b:Int} (hw:w≤1000) (q:Q (vec3 w (Builtin.bitAnd a (2 ^ w - 1)) (Builtin.bitAnd b (2 ^ w - 1))) σ):WC Γ (k+2) (.glob 176) [.int w,.int a,.int b] σ Q:=by
 refine WC_def (n:=10) (L.fns 13 _ _ _ _ rfl) rfl ?_
 refine spec_mask L ⟨by lia,by lia⟩ ?_
 conv=>whnf
 simpa [vec3] using q
theorem spec_code (L:Lib Γ) {w a b:Int} {i:Nat} (q:Q (.int (a / 2 ^ i % 2+2 * (b / 2 ^ i % 2))) σ):WC Γ (k+1) (.glob 54) [vec3 w a b,.int i] σ Q:=by
 refine WC_def (n:=10) (L.fns 16 _ _ _ _ rfl) rfl ?_
 have h2:(0:Int)≤2 ^ i:=Int.le_of_lt (pow_pos2 i)
 refine item_t (by decide) rfl ?_
 refine ⟨by lia,?_⟩
 refine item_t (by decide) rfl ?_
 refine ⟨by lia,?_⟩
 refine ⟨.inl (by decide),?_⟩
 conv=>whnf
 rw [PyProof.Rows.bitAnd_m1,PyProof.Rows.bitAnd_m1,Jf1,Jf9 _ h2,Jf9 _ h2]
 exact q
theorem last_get {r:List Int} (h:r≠[]):r.getLastD 0=r[r.length - 1]'(by have:=Jh3.mpr h;lia):=by
 rw [← List.getLast_eq_getElem h]
 cases r with
 | nil=>exact absurd rfl h
 | cons c r=>rw [List.getLast_eq_getLastD,List.getLastD_cons]
theorem ext_m {n:Nat} (h:n≤100):0≤(n:Int)∧(n:Int)≤1000:=⟨Jb0 n,Jf6.mpr (Ja1 h (Ja0 rfl))⟩
theorem or_zero (a:Int):Builtin.bitOr a 0=a:=by rw [PyProof.Rows.bitOr_and,PyProof.Rows.bitAnd_zero,Int.add_zero,Int.sub_zero]
theorem ext_tail {lo hi D M top:Int} {n w:Nat} (hc:0≤top∧top≤3) (eL:Builtin.bitOr lo D=lo+M) (eH:Builtin.bitOr hi D=hi+M) (q:Q (vec3 w (lo+top % 2 * M) (hi+top / 2 * M)) σ) :
  wpSs (wpS Γ k [] 10) [.asg 32 (.bin .BitOr (.item (.var 173) (.int 1)) (.ite (.bin .BitAnd (.var 169) (.int 1)) (.var 73) (.int 0))),.asg 40 (.bin .BitOr (.item (.var 173) (.int 2)) (.ite (.bin .BitAnd (.var 169) (.int 2)) (.var 73) (.int 0))),.ret (.tup [(.var 177),(.var 32),(.var 40)])] [(173,vec3 n lo hi),(177,.int w),(149,.bool true),(73,.int D),(169,.int top)] σ (retQ Q):=by
 have z:(0:Int) * M=0:=Int.zero_mul M
 refine item_t (by decide) rfl ?_
 rcases (by lia:top=0∨top=1∨top=2∨top=3) with rfl | rfl | rfl | rfl
 ·refine .f (by decide) ?_
  refine item_t (by decide) rfl ?_
  refine .f (by decide) ?_
  conv=>whnf
  have q:Q (vec3 w (lo+0 * M) (hi+0 * M)) σ:=q
  rw [z,Int.add_zero,Int.add_zero] at q
  rw [or_zero,or_zero]
  exact q
 ·refine .t (by decide) ?_
  refine item_t (by decide) rfl ?_
  refine .f (by decide) ?_
  conv=>whnf
  have q:Q (vec3 w (lo+1 * M) (hi+0 * M)) σ:=q
  rw [z,Int.add_zero,Int.one_mul] at q
  rw [eL,or_zero]
  exact q
 ·refine .f (by decide) ?_
  refine item_t (by decide) rfl ?_
  refine .t (by decide) ?_
  conv=>whnf
  have q:Q (vec3 w (lo+0 * M) (hi+1 * M)) σ:=q
  rw [z,Int.add_zero,Int.one_mul] at q
  rw [or_zero,eH]
  exact q
 ·refine .t (by decide) ?_
  refine item_t (by decide) rfl ?_
  refine .t (by decide) ?_
  conv=>whnf
  have q:Q (vec3 w (lo+1 * M) (hi+1 * M)) σ:=q
  rw [Int.one_mul] at q
  rw [eL,eH]
  exact q
theorem spec_extend (L:Lib Γ) {r:List Int} {w:Nat} {s:Bool} (hr:Cells r) (h0:r≠[]) (hl:r.length≤100) (hw:w≤100) (q:Q (vecOf (wideL r w s)) σ):WC Γ (k+3) (.glob 72) [vecOf r,.int w,.bool s] σ Q:=by
 refine WC_def (n:=10) (L.fns 17 _ _ _ _ rfl) rfl ?_
 refine item_t (by decide) rfl ?_
 refine ifB_intro (fun h=>?_) (fun h=>?_)
 ·have h:w≤r.length:=Jf6.mp (of_decide_eq_true h)
  refine item_t (by decide) rfl ?_
  refine item_t (by decide) rfl ?_
  refine spec_vec L (Ja1 hw (Ja0 rfl)) ?_
  conv=>whnf
  rw [and_mask low_pos,and_mask (high_pos hr),low_take _ _ h,high_take _ _ h hr]
  have e:wideL r w s=r.take w:=by unfold wideL;rw [if_pos h]
  rw [e,vecOf,List.length_take,Nat.min_eq_left h] at q
  exact q
 ·have h:r.length<w:=Jc1.mp (Int.not_le.mp (of_decide_eq_false h))
  obtain ⟨d,rfl⟩:=Nat.exists_eq_add_of_le (Jc4 h)
  have hnl:¬ (r.length+d≤r.length):=Nat.not_le.mpr h
  conv=>whnf
  cases s with
  | false=>
   refine ifB_intro (fun _=>?_) (fun h=>by cases h)
   refine item_t (by decide) rfl ?_
   refine item_t (by decide) rfl ?_
   conv=>whnf
   have e:wideL r (r.length+d) false=r++Jb1 d 0:=by unfold wideL;rw [if_neg hnl];simp
   rw [e,vecOf,low_rep,high_rep,Jb2,Jd6] at q
   simpa [vec3] using q
  | true=>
   refine ifB_intro (fun h=>by cases h) (fun _=>?_)
   refine spec_mask (k:=k+1) L (ext_m hw) ?_
   refine item_t (by decide) rfl ?_
   refine spec_mask (k:=k+1) L (ext_m hl) ?_
   refine item_t (by decide) rfl ?_
   conv=>whnf
   have hlen:=Jh3.mpr h0
   have hlt:r.length - 1<r.length:=Nat.sub_lt hlen Nat.one_pos
   have ei:((r.length:Int) - 1)=((r.length - 1:Nat):Int):=(Int.ofNat_sub hlen).symm
   rw [ei]
   refine spec_code (k:=k+1) L (i:=r.length - 1) ?_
   rw [cell_get hlt hr,← last_get h0]
   have hc:0≤r.getLastD 0∧r.getLastD 0≤3:=by rw [last_get h0];exact hr _ (Jc7 hlt)
   have e:wideL r (r.length+d) true=r++Jb1 d (r.getLastD 0):=by unfold wideL;rw [if_neg hnl];simp
   rw [e,vecOf,low_rep,high_rep,Jb2,Jd6] at q
   revert hc q
   refine gen (r.getLastD 0) ?_
   intro top
   intros
   have ex:Builtin.bitXor (2 ^ ((r.length+d:Nat):Int).toNat - 1) (2 ^ ((r.length:Nat):Int).toNat - 1)=2 ^ (r.length+d) - 2 ^ r.length:=by rw [Jf1,Jf1];exact xor_mask (Jc6 _ _)
   exact ext_tail hc (by rw [ex];exact or_high low_pos (low_lt r) (Jc6 _ _)) (by rw [ex];exact or_high (high_pos hr) (high_lt hr) (Jc6 _ _)) q
end
end
section
noncomputable def Ext (σ σ':St):Prop:=∀ l c,σ l=some c→σ' l=some c
theorem Ext.refl (σ:St):Ext σ σ:=fun _ _ e=>e
theorem Ext.trans {a b c:St} (x:Ext a b) (y:Ext b c):Ext a c:=fun l d e=>y l d (x l d e)
theorem Ext.upd {σ σ':St} {l:Nat} (x:Ext σ σ') (n:σ l=none) (c:Cell):Ext σ (upd σ' l c):=fun i d e=>by
 by_cases h:i=l
 ·subst h;rw [n] at e;cases e
 ·rw [upd_ne _ _ h];exact x i d e
theorem Ext.new {σ σ':St} {l:Nat} (x:Ext σ σ') (n:σ' l=none):σ l=none:=by
 cases h:σ l with
 | none=>rfl
 | some c=>have:=x l c h;rw [n] at this;cases this
theorem upd_none {σ:St} {l i:Nat} {c:Cell} (h:upd σ l c i=none):σ i=none∧i≠l:=by
 by_cases e:i=l
 ·subst e;rw [upd_self] at h;cases h
 ·rw [upd_ne _ _ e] at h;exact ⟨h,e⟩
theorem partV_int {k:Int} (h:k.natAbs<2 ^ 62):partV (.int k)=some k:=if_pos h
theorem rep_one (k:Nat) (x:V):rep k [x]=Jb1 k x:=by
 induction k with
 | zero=>rfl
 | succ k ih=>simp [rep,ih,List.replicate_succ]
noncomputable def numL (r:List Int) (s:Bool):Option Int:=if r.all (fun c=>decide (c≤1)) then some (if s && r.getLastD 0 == 1 then lowN r - 2 ^ r.length else lowN r) else none
noncomputable def numV (r:List Int) (s:Bool):V:=match numL r s with | some i=>.int i | none=>.none
theorem high_zero {r:List Int} (h:Cells r):highN r=0 ↔ r.all (fun c=>decide (c≤1))=true:=by
 induction r with
 | nil=>simp [highN]
 | cons c r ih=>
  have hc:=h c (.head _)
  have hp:=high_pos h.tail
  rw [List.all_cons,Jd1,← ih h.tail]
  simp only [highN,decide_eq_true_eq]
  constructor
  ·intro e;constructor <;> lia
  ·rintro ⟨e1,e2⟩;rw [e2];lia
theorem low_last {r:List Int} (h:Cells r) (hn:r≠[]) (ha:r.all (fun c=>decide (c≤1))=true):lowN r / 2 ^ (r.length - 1)=r.getLastD 0:=by
 refine gabs fun gG gK=>?_
 obtain ⟨s,c,rfl⟩:∃ s c,r=s++[c]:=⟨r.dropLast,r.getLast hn,(List.dropLast_concat_getLast hn).symm⟩
 refine gK ?_
 have hl:=low_lt s
 have hp:=low_pos (r:=s)
 have hc:=h c (by simp)
 have hc1:c≤1:=by simpa using (Jb3.mp ha c (by simp))
 rw [low_snoc,Jb2,List.length_singleton,Nat.add_sub_cancel,Int.add_mul_ediv_right _ _ (Int.ne_of_gt (pow_pos2 _)),Int.ediv_eq_zero_of_lt hp hl]
 simp;lia
section
variable {Γ:Gl} {k:Nat} {f:Fn} {args:List V} {σ:St} {Q Q':V→St→Prop}
theorem slice_l {l:Nat} {xs:List V} {h:Int} (e:σ l=some (.list xs)) (hz:xs.length≤10000) (h0:0≤h) (q:∀ n,σ n=none→Q (.loc n) (upd σ n (.list (xs.take h.toNat)))):sliceV (.loc l) none (some h) σ Q:=⟨xs,e,hz,h0,q⟩
theorem slice_m {l:Nat} {xs:List V} {a h:Int} (e:σ l=some (.list xs)) (hz:xs.length≤10000) (h0:0≤a) (h1:a≤h) (h2:h≤xs.length) (q:∀ n,σ n=none→Q (.loc n) (upd σ n (.list ((xs.drop a.toNat).take (h.toNat - a.toNat))))):sliceV (.loc l) (some a) (some h) σ Q:=⟨xs,e,hz,by lia,h0,h1,h2,q⟩
theorem max_l {l:Nat} {ns:List Int} (e:σ l=some (rowC ns)) (hz:ns.length≤10000) (hn:ns≠[]) (q:∀ x,x∈ns→(∀ y∈ns,y≤x)→Q (.int x) σ):biV .max [.loc l] σ Q:=⟨ns,e,hz,hn,q⟩
theorem sum_l {l:Nat} {ns:List Int} (e:σ l=some (rowC ns)) (hz:ns.length≤10000) (q:Q (.int ns.sum) σ):biV .sum [.loc l] σ Q:=⟨ns,e,hz,q⟩
theorem list_l {l:Nat} {xs:List V} (e:σ l=some (.list xs)) (hz:xs.length≤10000) (q:∀ n,σ n=none→Q (.loc n) (upd σ n (.list xs))):biV .list [.loc l] σ Q:=⟨xs,.inl e,hz,q⟩
theorem list_ro {l:Nat} {xs:List V} (e:σ l=some (.ro xs)) (hz:xs.length≤10000) (q:∀ n,σ n=none→Q (.loc n) (upd σ n (.list xs))):biV .list [.loc l] σ Q:=⟨xs,.inr e,hz,q⟩
theorem tuple_l {l:Nat} {xs:List V} (e:σ l=some (.list xs)) (hz:xs.length≤10000) (q:Q (.tup xs) σ):biV .tuple [.loc l] σ Q:=⟨xs,e,hz,q⟩
theorem new_g {c:Cell} (q:∀ n σ',Ext σ σ'→σ n=none→σ' n=some c→Q (.loc n) σ'):∀ n,σ n=none→Q (.loc n) (upd σ n c):=fun n h=>q n _ ((Ext.refl σ).upd h c) h (upd_self ..)
theorem mul_l {l:Nat} {xs:List V} {n:Int} {Q:V→St→Prop} (e:σ l=some (.list xs)) (h1:n.natAbs≤1000) (h2:xs.length≤1000) (q:∀ j,σ j=none→Q (.loc j) (upd σ j (.list (rep n.toNat xs)))):bop .Mult (.loc l) (.int n) σ Q:=⟨rfl,xs,e,h1,h2,q⟩
theorem add_l {l r:Nat} {xs ys:List V} {Q:V→St→Prop} (e1:σ l=some (.list xs)) (e2:σ r=some (.list ys)) (h:xs.length+ys.length≤10000) (q:∀ j,σ j=none→Q (.loc j) (upd σ j (.list (xs++ys)))):bop .Add (.loc l) (.loc r) σ Q:=⟨rfl,xs,ys,e1,e2,h,q⟩
theorem pad_n (r:List Int) (w:Nat):((w:Int) - (r.map V.int).length).toNat=w - r.length:=by
 rw [Ja2];exact Int.toNat_sub w r.length
theorem pad_abs {r:List Int} {w:Nat} (h:r.length≤w) (hw:w≤100):((w:Int) - (r.map V.int).length).natAbs≤1000:=by
 rw [Ja2,← Int.ofNat_sub h,Int.natAbs_natCast]
 exact Ja1 (Nat.sub_le ..) (Ja1 hw (Ja0 rfl))
theorem pad_sum {r:List Int} {w:Nat} {x:V} (h:r.length≤w) (hw:w≤100):(r.map V.int).length+(rep ((w:Int) - (r.map V.int).length).toNat [x]).length≤10000:=by
 rw [rep_one,Jd6,pad_n,Ja2,Nat.add_sub_cancel' h]
 exact Ja1 hw (Ja0 rfl)
theorem last_d {r:List Int} (h:r≠[]):rowC r=.list (r.dropLast.map V.int++[.int (r.getLastD 0)]):=by
 show Cell.list _=Cell.list (r.dropLast.map V.int++[r.getLastD 0].map V.int)
 rw [← Jb5,List.getLastD_eq_getLast?,List.getLast?_eq_some_getLast h,Option.getD_some,List.dropLast_concat_getLast h]
theorem pad_eq {r:List Int} {w:Nat} {s:Bool} {x:Int} (h:¬ w≤r.length) (hx:(if s then r.getLastD 0 else 0)=x):some (Cell.list (r.map V.int++rep ((w:Int) - (r.map V.int).length).toNat [.int x]))=some (rowC (wideL r w s)):=by
 unfold wideL rowC
 rw [if_neg h,hx,rep_one,pad_n,Jb5,List.map_replicate]
seal itemV attrV setAV setIV biV listM methL sliceV iterV inV
theorem spec_wide (L:Lib Γ) {l:Nat} {r:List Int} {w:Nat} {s:Bool} (e:σ l=some (rowC r)) (h0:r≠[]) (hl:r.length≤100) (hw:w≤100)
  (q:∀ l' σ',Ext σ σ'→σ l'=none→σ' l'=some (rowC (wideL r w s))→Q (.loc l') σ'):WC Γ (k+1) (.glob 30) [.loc l,.int w,.bool s] σ Q:=by
 refine WC_def (n:=10) (L.fns 34 _ _ _ _ rfl) rfl ?_
 have hml:(r.map V.int).length≤10000:=(Ja2 ..).symm▸Ja1 hl (Ja0 rfl)
 refine len_l e hml ?_
 refine ifB_intro (fun h=>?_) (fun h=>?_)
 ·have h:w≤r.length:=Ja2 (as:=r) V.int▸Jf6.mp (of_decide_eq_true h)
  conv=>whnf
  rw [partV_int (Jc9 hw (Ja0 rfl))]
  refine slice_l (h:=(w:Int)) e hml (Jb0 w) (new_g fun n σ1 x1 hn e1=>q n σ1 x1 hn (e1.trans ?_))
  unfold wideL rowC
  rw [if_pos h,List.map_take];rfl
 ·have h:¬ w≤r.length:=fun q=>of_decide_eq_false h (Ja2 (as:=r) V.int▸Jf6.mpr q)
  have hle:=Nat.le_of_not_le h
  conv=>whnf
  cases s with
  | true=>
   refine .t rfl ?_
   refine item_last (xs:=r.dropLast.map .int) (r:=.int (r.getLastD 0)) (e.trans (congrArg some (last_d h0))) ?_
   refine new_g fun n σ1 x1 hn e1=>len_l (x1 l _ e) hml ?_
   refine mul_l e1 (pad_abs hle hw) (Ja0 rfl) (new_g fun n2 σ2 x2 hn2 e2=>?_)
   exact add_l (x2 l _ (x1 l _ e)) e2 (pad_sum hle hw) (new_g fun n3 σ3 x3 hn3 e3=>q n3 σ3 ((x1.trans x2).trans x3) ((x1.trans x2).new hn3) (e3.trans (pad_eq h rfl)))
  | false=>
   refine .f rfl ?_
   refine new_g fun n σ1 x1 hn e1=>len_l (x1 l _ e) hml ?_
   refine mul_l e1 (pad_abs hle hw) (Ja0 rfl) (new_g fun n2 σ2 x2 hn2 e2=>?_)
   exact add_l (x2 l _ (x1 l _ e)) e2 (pad_sum hle hw) (new_g fun n3 σ3 x3 hn3 e3=>q n3 σ3 ((x1.trans x2).trans x3) ((x1.trans x2).new hn3) (e3.trans (pad_eq h rfl)))
end
end
section
theorem sum_low {r:List Int} (ha:r.all (fun c=>decide (c≤1))=true) (h:Cells r):((Je1 r.length).map fun i=>r.getD i 0 * 2 ^ i).sum=lowN r:=by
 induction r with
 | nil=>rfl
 | cons c r ih=>
  rw [List.all_cons,Jd1] at ha
  have hc:=h c (.head _)
  have hc1:c≤1:=by simpa using ha.1
  rw [List.length_cons,List.range_succ_eq_map,List.map_cons,List.sum_cons,Jh9]
  have e:((Je1 r.length).map ((fun i=>(c::r).getD i 0 * 2 ^ i) ∘ Nat.succ)).sum=2 * ((Je1 r.length).map fun i=>r.getD i 0 * 2 ^ i).sum:=by
   refine gen (Je1 r.length) ?_
   intro l
   induction l with
   | nil=>rfl
   | cons i l ih2=>
    simp only [List.map_cons,List.sum_cons,ih2,Function.comp]
    rw [Int.mul_add]
    congr 1
    simp only [List.getD_cons_succ,Ji2]
    rw [Int.mul_comm (2 ^ i) 2,Int.mul_left_comm]
  rw [e,ih ha.2 h.tail]
  simp only [lowN,List.getD_cons_zero]
  lia
section
variable {Γ:Gl} {k:Nat} {f:Fn} {args:List V} {σ:St} {Q Q':V→St→Prop}
seal itemV attrV setAV setIV biV listM methL sliceV iterV inV
theorem numV_none {r:List Int} {s:Bool} {x:Int} (hx:x∈r) (h:1<x):numV r s=.none:=by
 unfold numV numL
 rw [if_neg (fun y=>Int.not_le.mpr h (of_decide_eq_true (Jb3.mp y x hx)))]
theorem numV_some {r:List Int} {s:Bool} (ha:r.all (fun c=>decide (c≤1))=true):numV r s=.int (if s && r.getLastD 0 == 1 then lowN r - 2 ^ r.length else lowN r):=by
 unfold numV numL
 rw [if_pos ha]
theorem top_t {x a b:Int} (h:x=1):(if (true && x == 1)=true then a else b)=a:=if_pos (by rw [h];rfl)
theorem top_f {x a b:Int} (h:¬ x=1):(if (true && x == 1)=true then a else b)=b:=if_neg (fun q=>h (eq_of_beq (by rwa [Bool.true_and] at q)))
theorem len_sh {n:Nat} (h:n≤100):0≤(n:Int)∧(n:Int)≤1000000∧(1:Int).natAbs<2 ^ 64:=⟨Jb0 n,Jf6.mpr (Ja1 h (Ja0 rfl)),by decide⟩
theorem spec_to_int (L:Lib Γ) {r:List Int} {s:Bool} (hr:Cells r) (h0:r≠[]) (hl:r.length≤100) (q:Q (numV r s) σ):WC Γ (k+1) (.glob 167) [vecOf r,.bool s] σ Q:=by
 refine WC_def (n:=10) (L.fns 15 _ _ _ _ rfl) rfl ?_
 have hlen:=Jh3.mpr h0
 refine ⟨rfl,?_⟩
 refine ifB_intro (fun h=>?_) (fun h=>?_)
 ·have h:¬ highN r=0:=of_decide_eq_false ((Jg2 _).mp h)
  conv=>whnf
  have e:numV r s=.none:=by
   unfold numV numL
   rw [if_neg (fun x=>h ((high_zero hr).mpr x))]
  exact e▸q
 ·have ha:=(high_zero hr).mp (of_decide_eq_true ((Jh5 _).mp h))
  rw [numV_some ha] at q
  conv=>whnf
  cases s with
  | false=>
   refine .f rfl ?_
   refine .f rfl ?_
   exact q
  | true=>
   refine .t rfl ?_
   refine ⟨Int.sub_nonneg_of_le (Jf6.mpr hlen),?_⟩
   conv=>whnf
   rw [show ((r.length:Int) - 1).toNat=r.length - 1 from Int.toNat_sub r.length 1,Jf9 _ (Int.le_of_lt (pow_pos2 _)),low_last hr h0 ha]
   refine ifB_intro (fun h1=>?_) (fun h1=>?_)
   ·rw [top_t (of_decide_eq_true h1)] at q
    refine .t rfl ?_
    refine ⟨len_sh hl,?_⟩
    conv=>whnf
    rw [Int.one_mul,Jf1]
    exact q
   ·rw [top_f (of_decide_eq_false h1)] at q
    refine .f rfl ?_
    exact q
theorem cell_abs {c:Int} (h:0≤c∧c≤3):c.natAbs<2 ^ 64:=Jc1.mp (by rw [Int.natAbs_of_nonneg h.1];exact Ji9 h.2 (by decide))
theorem spec_number (L:Lib Γ) {l:Nat} {r:List Int} {s:Bool} (e:σ l=some (rowC r)) (hr:Cells r) (h0:r≠[]) (hl:r.length≤60) (q:∀ σ',Ext σ σ'→Q (numV r s) σ'):WC Γ (k+1) (.glob 18) [.loc l,.bool s] σ Q:=by
 refine WC_def (n:=10) (L.fns 35 _ _ _ _ rfl) rfl ?_
 have hl1:r.length≤10000:=Ja1 hl (Ja0 rfl)
 have hn:(r.map V.int).length=r.length:=Ja2 ..
 refine max_l e hl1 h0 fun x hx hmax=>?_
 refine ifB_intro (fun h=>?_) (fun h=>?_)
 ·conv=>whnf
  exact numV_none hx (of_decide_eq_true h)▸q σ (Ext.refl σ)
 ·have ha:r.all (fun c=>decide (c≤1))=true:=Jb3.mpr fun y hy=>decide_eq_true (Int.le_trans (hmax y hy) (Int.not_lt.mp (of_decide_eq_false h)))
  rw [numV_some ha] at q
  refine ⟨rfl,?_⟩
  refine len_l e (hn.symm▸hl1) ?_
  rw [hn]
  refine iter_r (Jb0 _) (Jf6.mpr hl1) ?_
  rw [Jf1]
  refine wpIt_map (xs:=Je1 r.length) (f:=fun (i:Nat)=>.int i) (g:=fun i=>.int (r.getD i 0 * 2 ^ i)) (Jd4.symm▸hl1) trivial (fun i hi R hR=>?_) ?_
  ·have hlt:=Ji6.mp hi
   have hi:i≤100:=Ja1 (Jc4 hlt) (Ja1 hl (Ja0 rfl))
   have eg:r[i]=r.getD i 0:=by rw [Ja6,Ja5 hlt];rfl
   refine item_k e (r:=.int r[i]) (by rw [Ja8,Ja5 hlt];rfl) ?_ (Ja1 hi (Ja0 rfl))
   refine ⟨⟨(len_sh hi).1,(len_sh hi).2.1,cell_abs (hr _ (Jc7 hlt))⟩,?_⟩
   rw [eg,Jf1]
   exact hR
  ·refine new_g fun n σ' x' hn' en=>?_
   conv=>whnf
   have en:σ' n=some (rowC ((Je1 r.length).map fun i=>r.getD i 0 * 2 ^ i)):=en.trans (congrArg (fun l=>some (Cell.list l)) (Jh9 ..).symm)
   refine sum_l en ((Ja2 ..).symm▸Jd4.symm▸hl1) ?_
   rw [sum_low ha hr]
   have q':=q σ' x'
   clear en hn' q hmax hx
   conv=>whnf
   cases s with
   | false=>
    refine .f rfl ?_
    refine .f rfl ?_
    exact q'
   | true=>
    refine .t rfl ?_
    conv=>whnf
    refine item_last (xs:=r.dropLast.map .int) (r:=.int (r.getLastD 0)) ((x' _ _ e).trans (congrArg some (last_d h0))) ?_
    conv=>whnf
    refine ifB_intro (fun h1=>?_) (fun h1=>?_)
    ·rw [top_t (of_decide_eq_true h1)] at q'
     refine .t rfl ?_
     refine len_l (x' _ _ e) (hn.symm▸hl1) ?_
     rw [hn]
     refine ⟨len_sh (Ja1 hl (Ja0 rfl)),?_⟩
     conv=>whnf
     rw [Int.one_mul,Jf1]
     exact q'
    ·rw [top_f (of_decide_eq_false h1)] at q'
     refine .f rfl ?_
     exact q'
end
end
section
noncomputable def But (l:Nat) (σ σ':St):Prop:=∀ i c,i≠l→σ i=some c→σ' i=some c
theorem But.refl (l:Nat) (σ:St):But l σ σ:=fun _ _ _ e=>e
theorem But.trans {l:Nat} {a b c:St} (x:But l a b) (y:But l b c):But l a c:=fun i d n e=>y i d n (x i d n e)
theorem But.upd {l:Nat} {σ:St} (c:Cell):But l σ (upd σ l c):=fun i d n e=>by rw [upd_ne _ _ n];exact e
theorem But.ext {l:Nat} {a b c:St} (x:But l a b) (y:Ext b c):But l a c:=fun i d n e=>y i d (x i d n e)
section
variable {σ:St} {Q:V→St→Prop} {P:St→Prop}
theorem setA_g {l c n:Nat} {as:List (Nat×V)} {v:V} (e:σ l=some (.inst c as)) (q:∀ σ',But l σ σ'→σ' l=some (.inst c (put as n v))→P σ') (hl:Nat.ble as.length 100=true:=by rfl) (hf:fieldOk n=true:=by rfl):fieldOk n=true∧setAV (.loc l) n v σ P:=setA_j e (q _ (.upd _) (upd_self ..)) hl hf
theorem append_g {l:Nat} {xs:List V} {v:V} (e:σ l=some (.list xs)) (hl:xs.length≤10000) (q:∀ σ',But l σ σ'→σ' l=some (.list (xs++[v]))→Q .none σ'):listM l .append [v] σ Q:=append_l e hl (q _ (.upd _) (upd_self ..))
theorem setI_g {l i:Nat} {xs:List V} {v:V} (e:σ l=some (.list xs)) (h1:i<xs.length) (hz:i≤1000000) (q:∀ σ',But l σ σ'→σ' l=some (.list (xs.set i v))→P σ'):setIV (.loc l) (.int i) v σ P:=setI_l e (Jb0 _) (Jc1.mpr h1) (by lia) (q _ (.upd _) (upd_self ..))
end
section
variable {Γ:Gl} {k:Nat} {f:Fn} {args:List V} {σ:St} {Q Q':V→St→Prop}
seal itemV attrV setAV setIV biV listM methL sliceV iterV inV
theorem spec_drawn (L:Lib Γ) {l:Nat} {b:List Int} {w:Nat} (hb:BagOk b) (e:σ l=some (rowC b)) (hw:w≤100)
  (q:∀ (r b':List Int) (l':Nat) (σ':St),Cells r→r.length=w→BagOk b'→l'≠l→σ l'=none→σ' l'=some (rowC r)→σ' l=some (rowC b')→But l σ σ'→Q (.loc l') σ'):WC Γ (k+2) (.glob 10) [.loc l,.int w] σ Q:=by
 refine WC_def (n:=10) (L.fns 32 _ _ _ _ rfl) rfl ?_
 refine spec_pull L hb e ⟨by decide,by decide⟩ fun g b1 hg0 hg1 hb1=>?_
 refine ⟨rfl,?_⟩
 refine iter_r (by lia) (by lia) ?_
 let Iq1:Nat→List V→St→Prop:=fun i acc σ'=>Ex2 fun (b' r:List Int)=>And5 (BagOk b') (σ'=upd σ l (rowC b')) (acc=r.map V.int) (Cells r) (r.length=i)
 refine wpIt_inv Iq1 ⟨b1,[],hb1,rfl,rfl,fun _ h=>by simp at h,rfl⟩ (fun i y acc σ' hy hI=>?_) (fun acc σ' hI=>?_)
 ·refine gabs fun gG gK=>?_
  obtain ⟨b',r,hb',rfl,rfl,hr,rfl⟩:=hI
  obtain ⟨rfl,hlt⟩:=upTo_some hy
  refine gK ?_
  have hlt:r.length<w:=by simpa using hlt
  refine ⟨trivial,fun R9 r9=>.t rfl ?_⟩
  have step:∀ many:Int,(many=4∨many=2)→WC Γ (k+1) (.glob 20) [.loc l,.int many] (upd σ l (rowC b')) (kElt R9 (r.map V.int) _):=fun many hm=>
   spec_pull L hb' (upd_self ..) (by lia) fun g2 b2 h0 h1 hb2=>⟨by simp;lia,r9 _ _ ⟨b2,r++[g2],hb2,upd_upd ..,by simp,hr.append (fun x hx=>by simp at hx;subst hx;lia),by simp⟩⟩
  refine ifB_intro (fun h=>?_) (fun h=>?_)
  ·exact step 4 (.inl rfl)
  ·exact step 2 (.inr rfl)
 ·refine gabs fun gG gK=>?_
  obtain ⟨b',r,hb',rfl,rfl,hr,hlen⟩:=hI
  refine gK ?_
  rw [upTo_len] at hlen
  refine ⟨trivial,fun n hn=>?_⟩
  conv=>whnf
  obtain ⟨h1,h2⟩:=upd_none hn
  refine q r b' n _ hr (by simpa using hlen) hb' h2 h1 (upd_self ..) (by rw [upd_ne _ _ (Ne.symm h2)];exact upd_self ..) fun i c hi hc=>?_
  rw [upd_ne _ _ (fun q=>by subst q;rw [h1] at hc;cases hc),upd_ne _ _ hi]
  exact hc
end
end
section
noncomputable def optV:Option Nat→V
 | none=>.none
 | some l=>.loc l
noncomputable def RowIs (σ:St):Option Nat→Option (List Int)→Prop
 | none,none=>True
 | some l,some r=>σ l=some (rowC r)
 | _,_=>False
structure RowsAt (σ:St) (F:Nat) (fl:List (Option Nat)) (fv:List (Option (List Int))):Prop where
 at_:σ F=some (.list (fl.map optV))
 len:fl.length=fv.length
 row:∀ (i:Nat) (a:Option Nat) (r:Option (List Int)),fl[i]?=some a→fv[i]?=some r→RowIs σ a r
theorem RowIs.ext {σ σ':St} (x:Ext σ σ') {a:Option Nat} {r:Option (List Int)} (h:RowIs σ a r):RowIs σ' a r:=by
 cases a <;> cases r <;> first | exact h | exact x _ _ h
theorem RowsAt.ext {σ σ':St} (x:Ext σ σ') {F:Nat} {fl:List (Option Nat)} {fv:List (Option (List Int))} (h:RowsAt σ F fl fv):RowsAt σ' F fl fv:=
 ⟨x _ _ h.at_,h.len,fun i a r h1 h2=>(h.row i a r h1 h2).ext x⟩
theorem RowsAt.get {σ:St} {F:Nat} {fl:List (Option Nat)} {fv:List (Option (List Int))} (h:RowsAt σ F fl fv) {i:Nat} {r:List Int} (hr:fv[i]?=some (some r)):∃ l,fl[i]?=some (some l)∧σ l=some (rowC r)∧(fl.map optV)[i]?=some (.loc l):=by
 have hi:=(Ja3.mp hr).1
 have hi':i<fl.length:=by rw [h.len];exact hi
 have e:fl[i]?=some fl[i]:=Ja5 hi'
 have:=h.row i _ _ e hr
 cases q:fl[i] with
 | none=>rw [q] at this;exact this.elim
 | some l=>rw [q] at this e;exact ⟨l,e,this,by rw [Ja8,e];rfl⟩
set_option genInjectivity true in
inductive Ie where
 | const (r:List Int)
 | sig (w i:Nat)
 | frm (w i:Nat)
noncomputable def Ie.v:Ie→V
 | .const r=>.tup [.str 57,.int r.length,.int (lowN r),.int (highN r)]
 | .sig w i=>.tup [.str 146,.int w,.int i]
 | .frm w i=>.tup [.str 101,.int w,.int i]
noncomputable def Ie.val (e:Ie) (sv fv:List (Option (List Int))):Option (List Int):=match e with
 | .const r=>some r
 | .sig _ i=>sv.getD i none
 | .frm _ i=>fv.getD i none
section
variable {Γ:Gl} {k:Nat} {f:Fn} {args:List V} {σ:St} {Q Q':V→St→Prop}
seal itemV attrV setAV setIV biV listM methL sliceV iterV inV
theorem getD_some {sv:List (Option (List Int))} {i:Nat} {r:List Int} (h:sv.getD i none=some r):sv[i]?=some (some r):=by
 rw [Ja6] at h
 cases q:sv[i]? with
 | none=>rw [q] at h;cases h
 | some a=>rw [q] at h;exact congrArg some h
theorem spec_value (L:Lib Γ) {S F:Nat} {sl fl:List (Option Nat)} {sv fv:List (Option (List Int))} {e:Ie} {r:List Int} (hs:RowsAt σ S sl sv) (hf:RowsAt σ F fl fv) (he:e.val sv fv=some r) (hr:Cells r) (hl:r.length≤100) (hz:∀ w i,e=.sig w i∨e=.frm w i→i≤10000)
  (q:∀ l' σ',Ext σ σ'→σ l'=none→σ' l'=some (rowC r)→Q (.loc l') σ'):WC Γ (k+2) (.glob 28) [e.v,.loc S,.loc F] σ Q:=by
 refine WC_def (n:=10) (L.fns 33 _ _ _ _ rfl) rfl ?_
 cases e with
 | const r'=>
  cases he
  refine item_t (by decide) rfl ?_
  refine .f rfl ?_
  refine item_t (by decide) rfl ?_
  refine .f rfl ?_
  refine item_t (by decide) rfl ?_
  refine item_t (by decide) rfl ?_
  refine item_t (by decide) rfl ?_
  refine spec_row L hl hr fun l hn=>?_
  exact q l _ ((Ext.refl σ).upd hn _) hn (upd_self ..)
 | sig w i=>
  refine gabs fun gG gK=>?_
  obtain ⟨l,h1,h2,h3⟩:=hs.get (getD_some he)
  refine gK ?_
  have:=hz w i (.inl rfl)
  refine item_t (by decide) rfl ?_
  refine .t rfl ?_
  refine item_t (by decide) rfl ?_
  refine item_l hs.at_ (by lia) h3 ?_ (by lia)
  refine list_l h2 (by simp;lia) fun n hn=>?_
  exact q n _ ((Ext.refl σ).upd hn _) hn (upd_self ..)
 | frm w i=>
  refine gabs fun gG gK=>?_
  obtain ⟨l,h1,h2,h3⟩:=hf.get (getD_some he)
  refine gK ?_
  have:=hz w i (.inr rfl)
  refine item_t (by decide) rfl ?_
  refine .f rfl ?_
  refine item_t (by decide) rfl ?_
  refine .t rfl ?_
  refine item_t (by decide) rfl ?_
  refine item_l hf.at_ (by lia) h3 ?_ (by lia)
  refine list_l h2 (by simp;lia) fun n hn=>?_
  exact q n _ ((Ext.refl σ).upd hn _) hn (upd_self ..)
end
end
section
noncomputable def thAs (number code pc frame path:V) (nc ns nd:Nat):List (Nat×V):=
 [(112,number),(54,code),(121,pc),(76,frame),(120,path),(48,.loc nc),(141,.loc ns),(117,.int (-1)),(51,.loc nd),(64,.bool false),(178,.none),(155,.int 0),(103,.bool false),(34,.bool false)]
section
variable {Γ:Gl} {k:Nat} {f:Fn} {args:List V} {σ:St} {Q Q':V→St→Prop}
seal itemV attrV setAV setIV biV listM methL sliceV iterV inV
theorem spec_thread (L:Lib Γ) {number code pc frame path:V}
  (q:∀ l nc ns nd σ',Ext σ σ'→σ l=none→σ nc=none→l≠nc→σ' l=some (.inst 4 (thAs number code pc frame path nc ns nd))→σ' nc=some (.list [])→Q (.loc l) σ'):newV Γ (k+1) 4 [number,code,pc,frame,path] σ Q:=by
 intro l hn
 refine WC_def (n:=10) (L.fns 27 _ _ _ _ rfl) rfl ?_
 refine ⟨rfl,setA_i (upd_self ..) (Ja0 rfl) ?_⟩
 refine ⟨rfl,setA_i (upd_self ..) (Ja0 rfl) ?_⟩
 refine ⟨rfl,setA_i (upd_self ..) (Ja0 rfl) ?_⟩
 refine ⟨rfl,setA_i (upd_self ..) (Ja0 rfl) ?_⟩
 refine ⟨rfl,setA_i (upd_self ..) (Ja0 rfl) ?_⟩
 rw [upd_upd,upd_upd,upd_upd,upd_upd,upd_upd]
 intro nc hnc
 obtain ⟨h1,h2⟩:=upd_none hnc
 refine ⟨rfl,setA_i (by rw [upd_ne _ _ (Ne.symm h2)];exact upd_self ..) (Ja0 rfl) ?_⟩
 intro ns hns
 have hns1:=(upd_none hns).2
 have hns2:=(upd_none (upd_none hns).1).2
 refine ⟨rfl,setA_i (by rw [upd_ne _ _ (Ne.symm hns1)];exact upd_self ..) (Ja0 rfl) ?_⟩
 refine ⟨rfl,setA_i (upd_self ..) (Ja0 rfl) ?_⟩
 rw [upd_upd]
 intro nd hnd
 have hnd1:=(upd_none hnd).2
 have hnd2:=(upd_none (upd_none (upd_none (upd_none hnd).1).1).1)
 refine ⟨rfl,setA_i (by rw [upd_ne _ _ (Ne.symm hnd1)];exact upd_self ..) (Ja0 rfl) ?_⟩
 refine ⟨rfl,setA_i (upd_self ..) (Ja0 rfl) ?_⟩
 refine ⟨rfl,setA_i (upd_self ..) (Ja0 rfl) ?_⟩
 refine ⟨rfl,setA_i (upd_self ..) (Ja0 rfl) ?_⟩
 refine ⟨rfl,setA_i (upd_self ..) (Ja0 rfl) ?_⟩
 refine ⟨rfl,setA_i (upd_self ..) (Ja0 rfl) ?_⟩
 rw [upd_upd,upd_upd,upd_upd,upd_upd,upd_upd]
 refine ⟨rfl,?_⟩
 have k1:σ nc=none:=h1
 have k2:σ ns=none:=(upd_none (upd_none (upd_none hns).1).1).1
 have k3:σ nd=none:=(upd_none hnd2.1).1
 refine q l nc ns nd _ ((((((((Ext.refl σ).upd hn _).upd k1 _).upd hn _).upd k2 _).upd hn _).upd k3 _).upd hn _) hn k1 (Ne.symm h2) (upd_self ..) ?_
 have a1:nc≠ns:=fun e=>by
  have:=(upd_none (upd_none hns).1).2
  exact this e.symm
 have a2:nc≠nd:=fun e=>hnd2.2 e.symm
 rw [upd_ne _ _ h2,upd_ne _ _ a2,upd_ne _ _ h2,upd_ne _ _ a1,upd_ne _ _ h2,upd_self]
end
end
section
section
variable {Γ:Gl} {k:Nat} {f:Fn} {args:List V} {σ:St} {Q Q':V→St→Prop} {fl c ST:Nat}
seal itemV attrV setAV setIV biV listM methL sliceV iterV inV
theorem spec_get (L:Lib Γ) {xs:List V} {i:Nat} {v:V} (ef:σ fl=some (.fn 0 [(158,c)])) (ec:σ c=some (.cell (.loc ST))) (es:σ ST=some (.list xs)) (hv:xs[i]?=some v) (hi:i≤10000) (q:Q v σ):WC Γ (k+1) (.clos fl) [.int i] σ Q:=by
 refine WC_clos (n:=10) (L.clos 0 _ _ _ rfl) ef (by simp) rfl ?_
 refine ⟨_,ec,?_⟩
 exact item_l es (by lia) hv q (by lia)
theorem spec_routine (L:Lib Γ) {xs:List V} {i:Nat} {v:V} (ef:σ fl=some (.fn 7 [(164,c)])) (ec:σ c=some (.cell (.loc ST))) (es:σ ST=some (.list xs)) (hv:xs[i]?=some v) (hi:i≤10000) (q:Q v σ):WC Γ (k+1) (.clos fl) [.int i] σ Q:=by
 refine WC_clos (n:=10) (L.clos 7 _ _ _ rfl) ef (by simp) rfl ?_
 refine ⟨_,ec,?_⟩
 exact item_l es (by lia) hv q (by lia)
theorem spec_changed (L:Lib Γ) {xs:List V} {v:V} (ef:σ fl=some (.fn 6 [(168,c)])) (ec:σ c=some (.cell (.loc ST))) (es:σ ST=some (.list xs)) (hz:xs.length≤10000) (q:Q .none (upd σ ST (.list (xs++[v])))):WC Γ (k+1) (.clos fl) [v] σ Q:=by
 refine WC_clos (n:=10) (L.clos 6 _ _ _ rfl) ef (by simp) rfl ?_
 refine ⟨_,ec,?_⟩
 refine meth_l es ?_
 refine ⟨rfl,?_⟩
 refine append_l es hz ?_
 refine ⟨trivial,?_⟩
 exact q
theorem spec_closed (L:Lib Γ) {x cc:Nat} {as:List (Nat×V)} (ef:σ fl=some (.fn 4 [])) (ex:σ x=some (.inst cc as)) (hz:as.length≤100) (q:Q .none (upd σ x (.inst cc (put as 64 (.bool true))))):WC Γ (k+1) (.clos fl) [.loc x] σ Q:=by
 refine WC_clos (n:=10) (L.clos 4 _ _ _ rfl) ef (by simp) rfl ?_
 refine ⟨rfl,setA_i ex hz ?_⟩
 exact q
theorem veqs_ints (r s:List Int):veqs (r.map .int) (s.map .int)=decide (r=s):=by
 induction r generalizing s with
 | nil=>cases s with
  | nil=>rfl
  | cons _ _=>rfl
 | cons a r ih=>
  cases s with
  | nil=>rfl
  | cons b s=>
   show (a == b && veqs (r.map .int) (s.map .int))=_
   rw [ih s,beq_dec,← Bool.decide_and]
   exact decide_eq_decide.mpr List.cons_eq_cons.symm
theorem veqs_vec {r s:List Int} (hr:Cells r) (hs:Cells s):veqs [.int r.length,.int (lowN r),.int (highN r)] [.int s.length,.int (lowN s),.int (highN s)]=decide (r=s):=by
 have h:=veqs_ints [(r.length:Int),lowN r,highN r] [(s.length:Int),lowN s,highN s]
 refine h.trans ?_
 by_cases e:r=s
 ·exact (decide_eq_true (by rw [e])).trans (decide_eq_true e).symm
 ·exact (decide_eq_false fun e2:[(r.length:Int),lowN r,highN r]=[(s.length:Int),lowN s,highN s]=>e (vecOf_inj hr hs (congrArg (fun l:List Int=>V.tup (l.map V.int)) e2))).trans (decide_eq_false e).symm
theorem isD_ints (r:List Int):(r.map V.int).all (isD 6)=true:=by simp [isD]
noncomputable abbrev vecsC (sv:List (List Int)):Cell:=.list (sv.map vecOf)
theorem spec_set (L:Lib Γ) {sv:List (List Int)} {i:Nat} {r s:List Int} {wd lo:V} (ef:σ fl=some (.fn 1 [(158,c)])) (ec:σ c=some (.cell (.loc ST))) (es:σ ST=some (vecsC sv)) (hv:sv[i]?=some s) (hi:i≤10000) (hr:Cells r) (hs:Cells s)
  (q1:r=s→Q (.bool false) σ) (q2:r≠s→Q (.bool true) (upd σ ST (vecsC (sv.set i r)))):WC Γ (k+1) (.clos fl) [.int i,wd,lo,vecOf r] σ Q:=by
 refine WC_clos (n:=10) (L.clos 1 _ _ _ rfl) ef (by simp) rfl ?_
 have hlt:=(Ja3.mp hv).1
 refine ⟨_,ec,?_⟩
 refine item_l es (by lia) (r:=vecOf s) (by simp [hv]) ?_ (by lia)
 refine ⟨rfl,rfl,?_⟩
 conv=>whnf
 rw [veqs_vec hs hr]
 refine ifB_intro (fun h=>?_) (fun h=>?_)
 ·have h:s=r:=by simpa using h
  exact q1 h.symm
 ·have h:¬ s=r:=by simpa using h
  refine ⟨_,ec,?_⟩
  refine setI_l es (by lia) (by simp;lia) (by lia) ?_
  conv=>whnf
  have:=q2 fun e=>h e.symm
  unfold vecsC at this
  rw [Je0] at this
  exact this
theorem spec_now (L:Lib Γ) {sv fv:List (Option (List Int))} {T F:Nat} {as:List (Nat×V)} {e:Ie} {r:List Int} (ef:σ fl=some (.fn 2 [(158,c)])) (ec:σ c=some (.cell (.loc ST))) (es:σ ST=some (.list (sv.map fun o=>o.elim V.none vecOf))) (et:σ T=some (.inst 4 as)) (ea:look as 76=some (.loc F))
  (ef2:σ F=some (.list (fv.map fun o=>o.elim V.none vecOf))) (he:e.val sv fv=some r) (hz:∀ w i,e=.sig w i∨e=.frm w i→i≤10000) (q:Q (vecOf r) σ):WC Γ (k+1) (.clos fl) [.loc T,e.v] σ Q:=by
 refine WC_clos (n:=10) (L.clos 2 _ _ _ rfl) ef (by simp) rfl ?_
 cases e with
 | const r'=>
  cases he
  refine item_t (by decide) rfl ?_
  refine .f rfl ?_
  refine item_t (by decide) rfl ?_
  refine .f rfl ?_
  refine item_t (by decide) rfl ?_
  refine item_t (by decide) rfl ?_
  refine item_t (by decide) rfl ?_
  exact q
 | sig w i=>
  have:=hz w i (.inl rfl)
  have h1:=getD_some (show sv.getD i none=some r from he)
  refine item_t (by decide) rfl ?_
  refine .t rfl ?_
  refine ⟨_,ec,?_⟩
  refine item_t (by decide) rfl ?_
  refine item_l es (by lia) (r:=vecOf r) (by simp [h1]) ?_ (by lia)
  exact q
 | frm w i=>
  have:=hz w i (.inr rfl)
  have h1:=getD_some (show fv.getD i none=some r from he)
  refine item_t (by decide) rfl ?_
  refine .f rfl ?_
  refine item_t (by decide) rfl ?_
  refine .t rfl ?_
  refine ⟨rfl,attr_i et ea ?_⟩
  refine item_t (by decide) rfl ?_
  refine item_l ef2 (by lia) (r:=vecOf r) (by simp [h1]) ?_ (by lia)
  exact q
end
end
section
section
variable {Γ:Gl} {k:Nat} {f:Fn} {args:List V} {σ:St} {Q Q':V→St→Prop} {fl c ST:Nat}
seal itemV attrV setAV setIV biV listM methL sliceV iterV inV newV
theorem spec_context (L:Lib Γ) {H STR T F:Nat} {hs as:List (Nat×V)} (ef:σ fl=some (.fn 3 [(85,c)])) (ec:σ c=some (.cell (.loc H))) (eh:σ H=some (.inst 4 hs)) (eh2:look hs 157=some (.loc STR)) (et:σ T=some (.inst 4 as)) (ea:look as 76=some (.loc F))
  (q:∀ X σ' bs,Ext σ σ'→σ X=none→σ' X=some (.inst 4 bs)→bs.length≤20→look bs 76=some (.loc F)→look bs 157=some (.loc STR)→Q (.loc X) σ'):WC Γ (k+2) (.clos fl) [.loc T] σ Q:=by
 refine WC_clos (n:=10) (L.clos 3 _ _ _ rfl) ef (by simp) rfl ?_
 intro n hn
 conv=>whnf
 have e1:∀ {l:Nat} {d:Cell},σ l=some d→upd σ n (.list []) l=some d:=fun e=>((Ext.refl σ).upd hn _) _ _ e
 refine ⟨rfl,attr_i (e1 et) ea ?_⟩
 refine spec_thread L fun X nc ns nd σ' hx h1 h2 h3 h4 h5=>?_
 conv=>whnf
 have hx0:Ext σ σ':=Ext.trans ((Ext.refl σ).upd hn _) hx
 refine ⟨_,hx0 _ _ ec,?_⟩
 refine ⟨rfl,attr_i (hx0 _ _ eh) eh2 ?_⟩
 refine ⟨rfl,setA_i h4 (Ja0 rfl) ?_⟩
 conv=>whnf
 have hX:σ X=none:=(upd_none h1).1
 exact q X _ _ (hx0.upd hX _) hX (upd_self ..) (Ja0 rfl) rfl rfl
end
end
section
structure CtxAt (σ:St) (X F STR FG c ST SG:Nat):Prop where
 x:∃ bs,σ X=some (.inst 4 bs)∧look bs 157=some (.loc STR)∧look bs 76=some (.loc F)
 st:∃ ss,σ STR=some (.inst 4 ss)∧look ss 79=some (.loc FG)∧look ss 148=some (.loc SG)
 g:σ FG=some (.fn 0 [(158,c)])
 cc:σ c=some (.cell (.loc ST))
theorem CtxAt.ext {σ σ':St} {X F STR FG c ST SG:Nat} (h:CtxAt σ X F STR FG c ST SG) (x:Ext σ σ'):CtxAt σ' X F STR FG c ST SG:=
 ⟨by obtain ⟨b,h1,h2⟩:=h.x;exact ⟨b,x _ _ h1,h2⟩,by obtain ⟨b,h1,h2⟩:=h.st;exact ⟨b,x _ _ h1,h2⟩,x _ _ h.g,x _ _ h.cc⟩
inductive Wh where
 | at (lo:Int)
 | pick (w i:Nat) (s:Bool) (off sgn:Int)
noncomputable def Wh.v:Wh→V
 | .at lo=>.tup [.str 39,.int lo]
 | .pick w i s off sgn=>.tup [.str 122,.tup [.str 146,.int w,.int i],.bool s,.int off,.int sgn]
noncomputable def Wh.lo (sv:List (List Int)):Wh→Option Int
 | .at lo=>some lo
 | .pick _ i s off sgn=>(numL (sv.getD i []) s).map fun n=>(n - off) * sgn
noncomputable def Wh.ok (sv:List (List Int)):Wh→Prop
 | .at _=>True
 | .pick _ i _ off sgn=>i<sv.length∧i≤10000∧(sgn=1∨sgn=-1)
noncomputable def loV:Option Int→V
 | none=>.none
 | some i=>.int i
section
variable {Γ:Gl} {k:Nat} {f:Fn} {args:List V} {σ:St} {Q Q':V→St→Prop} {X F STR FG c ST SG:Nat} {sv:List (List Int)}
seal itemV attrV setAV setIV biV listM methL sliceV iterV inV newV
theorem spec_evalsig (L:Lib Γ) {w i:Nat} {r:List Int} (C:CtxAt σ X F STR FG c ST SG) (es:σ ST=some (vecsC sv)) (hv:sv[i]?=some r) (hi:i≤10000) (q:Q (vecOf r) σ):WC Γ (k+2) (.glob 70) [.tup [.str 146,.int w,.int i],.loc X] σ Q:=by
 refine WC_def (n:=10) (L.fns 19 _ _ _ _ rfl) rfl ?_
 refine gabs fun gG gK=>?_
 obtain ⟨bs,x1,x2,x3⟩:=C.x
 obtain ⟨ss,s1,s2,s3⟩:=C.st
 refine gK ?_
 refine item_t (by decide) rfl ?_
 refine .f rfl ?_
 refine .t rfl ?_
 refine ⟨rfl,attr_i x1 x2 ?_⟩
 refine meth_c s1 s2 rfl ?_
 refine ⟨trivial,?_⟩
 refine item_t (by decide) rfl ?_
 refine ⟨⟨_,_,C.g⟩,?_⟩
 refine spec_get (v:=vecOf r) L C.g C.cc es (by simp [hv]) hi ?_
 exact q
theorem spec_whole (L:Lib Γ) {w i:Nat} {r:List Int} {s:Bool} (C:CtxAt σ X F STR FG c ST SG) (es:σ ST=some (vecsC sv)) (hv:sv[i]?=some r) (hi:i≤10000) (hr:Cells r) (h0:r≠[]) (hl:r.length≤100) (q:Q (numV r s) σ):WC Γ (k+3) (.glob 180) [.tup [.str 146,.int w,.int i],.bool s,.loc X] σ Q:=by
 refine WC_def (n:=10) (L.fns 18 _ _ _ _ rfl) rfl ?_
 refine spec_evalsig L C es hv hi ?_
 refine (spec_to_int (k:=0) L hr h0 hl ?_).more (by lia)
 exact q
theorem spec_locate (L:Lib Γ) {wh:Wh} (C:CtxAt σ X F STR FG c ST SG) (es:σ ST=some (vecsC sv)) (hs:∀ r∈sv,Cells r∧r≠[]∧r.length≤100) (hw:wh.ok sv) (q:Q (loV (wh.lo sv)) σ):WC Γ (k+4) (.glob 102) [wh.v,.loc X] σ Q:=by
 refine WC_def (n:=10) (L.fns 20 _ _ _ _ rfl) rfl ?_
 cases wh with
 | «at» lo=>
  refine item_t (by decide) rfl ?_
  refine .t rfl ?_
  refine item_t (by decide) rfl ?_
  exact q
 | pick w i s off sgn=>
  refine gabs fun gG gK=>?_
  obtain ⟨h1,h2,h3⟩:=hw
  have hv:sv[i]?=some sv[i]:=Ja5 h1
  obtain ⟨c1,c2,c3⟩:=hs _ (Jc7 h1)
  refine gK ?_
  refine item_t (by decide) rfl ?_
  refine .f rfl ?_
  refine item_t (by decide) rfl ?_
  refine item_t (by decide) rfl ?_
  refine spec_whole L C es hv h2 c1 c2 c3 ?_
  have eg:sv.getD i []=sv[i]:=by rw [Ja6,hv];rfl
  have q:Q (loV ((numL (sv.getD i []) s).map fun n=>(n - off) * sgn)) σ:=q
  rw [eg] at q
  unfold numV
  cases e:numL sv[i] s with
  | none=>
   rw [e] at q
   refine .t rfl ?_
   exact q
  | some x=>
   rw [e] at q
   refine .f rfl ?_
   refine item_t (by decide) rfl ?_
   refine item_t (by decide) rfl ?_
   refine ⟨.inr (by rcases h3 with rfl | rfl <;> decide),?_⟩
   exact q
end
end
section
structure Pt where
 loc:Bool
 w:Nat
 ref:Nat
 wh:Wh
noncomputable def kindV (loc:Bool):V:=.str (if loc then 101 else 146)
noncomputable def Pt.v (p:Pt):V:=.tup [kindV p.loc,.int p.w,.int p.ref,.none,p.wh.v]
noncomputable def SigsAt (σ:St) (SG:Nat) (ws:List Nat):Prop:=∃ gl:List Nat,σ SG=some (.list (gl.map .loc))∧gl.length=ws.length∧∀ (i l w:Nat),gl[i]?=some l→ws[i]?=some w→∃ as,σ l=some (.inst 4 as)∧look as 181=some (.int w)
theorem SigsAt.ext {σ σ':St} {SG:Nat} {ws:List Nat} (h:SigsAt σ SG ws) (x:Ext σ σ'):SigsAt σ' SG ws:=by
 refine gabs fun gG gK=>?_
 obtain ⟨gl,h1,h2,h3⟩:=h
 refine gK ?_
 exact ⟨gl,x _ _ h1,h2,fun i l w a b=>by obtain ⟨as,c,d⟩:=h3 i l w a b;exact ⟨as,x _ _ c,d⟩⟩
noncomputable def optVec:Option (List Int)→V:=fun o=>o.elim V.none vecOf
noncomputable def Pt.width (p:Pt) (ws:List Nat) (fv:List (Option (List Int))):Option Nat:=match p.loc with
 | true=>(fv.getD p.ref none).map List.length
 | false=>ws[p.ref]?
section
variable {Γ:Gl} {k:Nat} {f:Fn} {args:List V} {σ:St} {Q Q':V→St→Prop} {X F STR FG c ST SG:Nat} {sv:List (List Int)} {ws:List Nat} {fv:List (Option (List Int))}
seal itemV attrV setAV setIV biV listM methL sliceV iterV inV newV
theorem spec_width (L:Lib Γ) {p:Pt} {w:Nat} (C:CtxAt σ X F STR FG c ST SG) (hg:SigsAt σ SG ws) (ef:σ F=some (.list (fv.map optVec))) (hw:p.width ws fv=some w) (hi:p.ref≤10000) (q:Q (.int w) σ):WC Γ (k+1) (.glob 84) [p.v,.loc X] σ Q:=by
 refine WC_def (n:=10) (L.fns 21 _ _ _ _ rfl) rfl ?_
 refine gabs fun gG gK=>?_
 obtain ⟨bs,x1,x2,x3⟩:=C.x
 obtain ⟨ss,s1,s2,s3⟩:=C.st
 obtain ⟨gl,g1,g2,g3⟩:=hg
 obtain ⟨loc,pw,ref,wh⟩:=p
 refine gK ?_
 cases loc with
 | false=>
  have hw:ws[ref]?=some w:=hw
  have hlt:=(Ja3.mp hw).1
  have hl:gl[ref]?=some gl[ref]:=Ja5 (by lia)
  refine gabs fun gG gK=>?_
  obtain ⟨as,a1,a2⟩:=g3 ref _ w hl hw
  refine gK ?_
  refine item_t (by decide) rfl ?_
  refine .t rfl ?_
  refine ⟨rfl,attr_i x1 x2 ?_⟩
  refine ⟨rfl,attr_i s1 s3 ?_⟩
  refine item_t (by decide) rfl ?_
  refine item_l g1 (by lia) (r:=.loc gl[ref]) (by simp [hl]) ?_ (by dsimp only at hi ⊢;lia)
  refine ⟨rfl,attr_i a1 a2 ?_⟩
  exact q
 | true=>
  have hw:(fv.getD ref none).map List.length=some w:=hw
  cases e:fv.getD ref none with
  | none=>rw [e] at hw;cases hw
  | some r=>
   rw [e] at hw
   cases hw
   have h1:=getD_some e
   refine item_t (by decide) rfl ?_
   refine .f rfl ?_
   refine ⟨rfl,attr_i x1 x3 ?_⟩
   refine item_t (by decide) rfl ?_
   refine item_l ef (by lia) (r:=vecOf r) (by simp [h1,optVec]) ?_ (by dsimp only at hi ⊢;lia)
   refine item_t (by decide) rfl ?_
   exact q
end
end
section
noncomputable def rowOf (sv:List (List Int)) (ws:List Nat) (fv:List (Option (List Int))) (t:Int) (p:Pt):List V:=match p.wh.lo sv with
 | none=>[]
 | some lo=>match p.width ws fv with
  | some w=>if lo+p.w≤0∨(w:Int)≤lo then [] else [.tup [kindV p.loc,.int p.ref,.none,.int lo,.int p.w,.int t]]
  | none=>[]
noncomputable def rowsOf (sv:List (List Int)) (ws:List Nat) (fv:List (Option (List Int))):Int→List Pt→List V
 | _,[]=>[]
 | t,p::ps=>rowOf sv ws fv (t - p.w) p++rowsOf sv ws fv (t - p.w) ps
noncomputable def lvV (total:Int) (ps:List Pt):V:=.tup [.str 105,.int total,.tup (ps.map Pt.v)]
section
variable {Γ:Gl} {k:Nat} {f:Fn} {args:List V} {σ:St} {Q Q':V→St→Prop} {X F STR FG c ST SG:Nat} {sv:List (List Int)} {ws:List Nat} {fv:List (Option (List Int))}
seal itemV attrV setAV setIV biV listM methL sliceV iterV inV newV
noncomputable def rsE (total:Int) (ps:List Pt) (X R:Nat) (b:Int×List V):List (Nat×V):=[(105,lvV total ps),(59,.loc X),(137,.loc R),(162,.int b.1)]
inductive RsI (σ:St) (R:Nat) (sv:List (List Int)) (ws:List Nat) (fv:List (Option (List Int))) (T:List V) (ps:List Pt) (i:Nat) (b:Int×List V) (σ':St):Prop
 | mk (e:upd σ R (.list b.2)=σ') (n:b.2.length≤i) (h:b.2++rowsOf sv ws fv b.1 (ps.drop i)=T)
section
variable {u:Int} {p:Pt} {rest:List Pt} {T rows:List V} {w:Nat} {lo:Int}
theorem rs_skip (h:rows++(rowOf sv ws fv u p++rowsOf sv ws fv u rest)=T) (e:rowOf sv ws fv u p=[]):rows++rowsOf sv ws fv u rest=T:=by rw [e] at h;exact h
theorem row_none (elo:p.wh.lo sv=none):rowOf sv ws fv u p=[]:=by unfold rowOf;rw [elo]
theorem row_out (elo:p.wh.lo sv=some lo) (hw:p.width ws fv=some w) (h:lo+p.w≤0∨(w:Int)≤lo):rowOf sv ws fv u p=[]:=by unfold rowOf;rw [elo,hw];exact if_pos h
theorem rs_add (h:rows++(rowOf sv ws fv u p++rowsOf sv ws fv u rest)=T) (elo:p.wh.lo sv=some lo) (hw:p.width ws fv=some w) (h1:¬ lo+p.w≤0) (h2:¬ (w:Int)≤lo):rows++[.tup [kindV p.loc,.int p.ref,.none,.int lo,.int p.w,.int u]]++rowsOf sv ws fv u rest=T:=by
 have e:rowOf sv ws fv u p=[.tup [kindV p.loc,.int p.ref,.none,.int lo,.int p.w,.int u]]:=by unfold rowOf;rw [elo,hw];exact if_neg fun h=>h.elim h1 h2
 rw [e] at h
 rw [Jd9]
 exact h
end
theorem spec_resolve (L:Lib Γ) {total:Int} {ps:List Pt} (C:CtxAt σ X F STR FG c ST SG) (es:σ ST=some (vecsC sv)) (hs:∀ r∈sv,Cells r∧r≠[]∧r.length≤100) (hg:SigsAt σ SG ws) (ef:σ F=some (.list (fv.map optVec)))
  (hp:∀ p∈ps,p.wh.ok sv∧p.ref≤10000∧∃ w,p.width ws fv=some w) (hl:ps.length≤100)
  (q:∀ R σ',Ext σ σ'→σ R=none→σ' R=some (.list (rowsOf sv ws fv total ps))→Q (.loc R) σ'):WC Γ (k+5) (.glob 130) [lvV total ps,.loc X] σ Q:=by
 refine WC_def (n:=10) (L.fns 22 _ _ _ _ rfl) rfl ?_
 refine fun R hR=>?_
 refine item_t (by decide) rfl ?_ (by decide)
 refine ⟨rfl,?_⟩
 refine item_t (by decide) rfl ?_ (by decide)
 refine iter_t ?_
 refine wpFor_map (rsE total ps X R) (RsI σ R sv ws fv (rowsOf sv ws fv total ps) ps) (total,[]) ⟨rfl,Jd7 _,rfl⟩ (fun i p b σ' hxi I=>?_) (fun b σ' I=>?_)
 ·cases I with
  | mk e n h=>
  subst e
  have hq:=hp p (Ja9 hxi)
  have n100:=Ja1 n (Ja1 (Jc4 (Ja3.mp hxi).1) hl)
  rw [drop_take hxi] at h
  refine hq.2.2.elim fun w hw=>?_
  have hx:∀ cc,Ext σ (upd σ R cc):=fun cc=>(Ext.refl σ).upd hR cc
  refine ⟨trivial,_,rfl,fun Q9 q9=>?_⟩
  refine ⟨rfl,rfl,?_⟩
  refine ifB.f rfl ?_
  refine (spec_locate (k:=k) L (C.ext (hx _)) (hx _ _ _ es) hs hq.1 ?_)
  cases elo:p.wh.lo sv with
  | none=>
   refine ifB.t rfl ?_
   refine ifB.t rfl ?_
   exact q9 _ _ _ ⟨(b.1 - p.w,b.2),SubE.app _ _,rfl,Jg3 n,rs_skip h (row_none elo)⟩
  | some lo=>
   refine ifB.f rfl ?_
   refine ifB_intro (fun h1=>?_) (fun h1=>?_)
   ·refine ifB.t rfl ?_
    exact q9 _ _ _ ⟨(b.1 - p.w,b.2),SubE.app _ _,rfl,Jg3 n,rs_skip h (row_out elo hw (.inl (of_decide_eq_true h1)))⟩
   ·refine (spec_width (k:=0) L (C.ext (hx _)) (hg.ext (hx _)) (hx _ _ _ ef) hw hq.2.1 ?_).more (Jf3 ..)
    refine ifB_intro (fun h2=>?_) (fun h2=>?_)
    ·refine ifB.t rfl ?_
     exact q9 _ _ _ ⟨(b.1 - p.w,b.2),SubE.app _ _,rfl,Jg3 n,rs_skip h (row_out elo hw (.inr (of_decide_eq_true h2)))⟩
    ·refine ifB.f rfl ?_
     refine meth_l (upd_self ..) ?_
     refine ⟨rfl,?_⟩
     refine append_l (upd_self ..) (Ja1 n100 (Ja0 rfl)) ?_
     refine okZ ?_
     exact q9 _ _ _ ⟨(b.1 - p.w,b.2++[.tup [kindV p.loc,.int p.ref,.none,.int lo,.int p.w,.int (b.1 - p.w)]]),SubE.app _ _,(upd_upd ..).symm,Jb2▸Je9 n,rs_add h elo hw (of_decide_eq_false h1) (of_decide_eq_false h2)⟩
 ·cases I with
  | mk e n h=>
  subst e
  rw [List.drop_length] at h
  have h:b.2=rowsOf sv ws fv total ps:=(Jd3 _).symm.trans h
  exact ⟨trivial,h▸q R _ ((Ext.refl σ).upd hR _) hR (h▸upd_self ..)⟩
end
end
section
noncomputable def paste (h:List Int) (lo:Int) (src:List Int):List Int:=(Je1 h.length).map fun (j:Nat)=>if lo≤(j:Int)∧(j:Int)<lo+src.length then src.getD ((j:Int) - lo).toNat 0 else h.getD j 0
theorem paste_len (h:List Int) (lo:Int) (src:List Int):(paste h lo src).length=h.length:=by simp [paste]
theorem paste_get {h:List Int} {lo:Int} {src:List Int} {j:Nat} (hj:j<h.length):(paste h lo src)[j]?=some (if lo≤(j:Int)∧(j:Int)<lo+src.length then src.getD ((j:Int) - lo).toNat 0 else h.getD j 0):=by
 unfold paste
 rw [Ja8,List.getElem?_range hj];rfl
theorem paste_nil (h:List Int) (lo:Int):paste h lo []=h:=by
 refine Jh2 fun j=>?_
 by_cases hj:j<h.length
 ·rw [paste_get hj,if_neg (fun d=>Int.not_lt.mpr d.1 (Int.add_zero lo▸d.2)),Ja5 hj,Ja6,Ja5 hj];rfl
 ·rw [Jf5 ((paste_len h lo []).symm▸Je3 hj),Jf5 (Je3 hj)]
theorem paste_cells {h src:List Int} (lo:Int) (h1:Cells h) (h2:Cells src):Cells (paste h lo src):=by
 intro x hx
 unfold paste at hx
 refine gabs fun gG gK=>?_
 obtain ⟨j,hj,rfl⟩:=Jf2.mp hx
 refine gK ?_
 have hj:=Ji6.mp hj
 split
 ·rename_i c
  have:((j:Int) - lo).toNat<src.length:=(Int.toNat_lt (Int.sub_nonneg_of_le c.1)).mpr (Int.sub_left_lt_of_lt_add c.2)
  rw [Ja6,Ja5 this]
  exact h2 _ (Jc7 this)
 ·rw [Ja6,Ja5 hj]
  exact h1 _ (Jc7 hj)
theorem pg {h src:List Int} {lo:Int} {n j:Nat} (hn:n≤src.length) (hj:j<h.length):(paste h lo (src.take n))[j]?=some (if lo≤(j:Int)∧(j:Int)<lo+n then src.getD ((j:Int) - lo).toNat 0 else h.getD j 0):=by
 rw [paste_get hj,List.length_take_of_le hn]
 by_cases c:lo≤(j:Int)∧(j:Int)<lo+n
 ·rw [if_pos c,if_pos c,Ja6,List.getElem?_take_of_lt ((Int.toNat_lt (Int.sub_nonneg_of_le c.1)).mpr (Int.sub_left_lt_of_lt_add c.2)),← Ja6]
 ·rw [if_neg c,if_neg c]
theorem ps {h src:List Int} {lo:Int} {i j:Nat} (hi:i<src.length) (hj:j<h.length):(paste h lo (src.take (i+1)))[j]?=if (j:Int)=lo+i then some src[i] else (paste h lo (src.take i))[j]?:=by
 rw [pg hi hj]
 by_cases e:(j:Int)=lo+i
 ·rw [if_pos e,if_pos ⟨e▸Int.le_add_of_nonneg_right (Jb0 i),e▸Int.add_lt_add_left (Int.lt_succ _) lo⟩,e,show lo+(i:Int) - lo=i from by rw [Int.add_comm,Int.add_sub_cancel],Jf1,Ja6,Ja5 hi];rfl
 ·rw [if_neg e,pg (Jc4 hi) hj]
  by_cases c:lo≤(j:Int)∧(j:Int)<lo+i
  ·rw [if_pos ⟨c.1,Int.lt_trans c.2 (Int.add_lt_add_left (Int.lt_succ _) lo)⟩,if_pos c]
  ·rw [if_neg (fun d=>c ⟨d.1,Int.lt_iff_le_and_ne.mpr ⟨Int.le_of_lt_add_one (Int.add_assoc lo i 1▸d.2),e⟩⟩),if_neg c]
theorem paste_none {h:List Int} {lo:Int} (src:List Int) {j:Nat} (hj:¬ j<h.length):(paste h lo src)[j]?=none:=Jf5 ((paste_len h lo src).symm▸Je3 hj)
theorem paste_step {h src:List Int} {lo:Int} {i:Nat} (hi:i<src.length):(0≤lo+i∧lo+i<h.length→paste h lo (src.take (i+1))=(paste h lo (src.take i)).set (lo+i).toNat src[i])∧(¬ (0≤lo+i∧lo+i<h.length)→paste h lo (src.take (i+1))=paste h lo (src.take i)):=by
 constructor
 ·rintro ⟨h0,h1⟩
  refine Jh2 fun j=>?_
  rw [Jh7]
  by_cases hj:j<h.length
  ·rw [ps hi hj]
   by_cases e:(j:Int)=lo+i
   ·have e':(lo+i).toNat=j:=by rw [← e];exact Jf1 j
    rw [if_pos e,if_pos e',if_pos (by rw [paste_len,e'];exact hj)]
   ·rw [if_neg e,if_neg (fun e':(lo+i).toNat=j=>e (e'▸Jg7 h0))]
  ·rw [paste_none _ hj,if_neg (fun e':(lo+i).toNat=j=>hj (e'▸(Int.toNat_lt h0).mpr h1)),paste_none _ hj]
 ·intro hn
  refine Jh2 fun j=>?_
  by_cases hj:j<h.length
  ·rw [ps hi hj,if_neg (fun e:(j:Int)=lo+i=>hn ⟨e▸Jb0 j,e▸Jc1.mpr hj⟩)]
  ·rw [paste_none _ hj,paste_none _ hj]
theorem paste_beside {h src:List Int} {lo:Int} (hb:lo+src.length≤0∨(h.length:Int)≤lo):paste h lo src=h:=by
 refine Jh2 fun j=>?_
 by_cases hj:j<h.length
 ·rw [paste_get hj,if_neg (fun d=>hb.elim (fun q=>Int.not_lt.mpr (Jb0 j) (Int.lt_of_lt_of_le d.2 q)) fun q=>Int.not_lt.mpr (Int.le_trans q d.1) (Jc1.mpr hj)),Ja5 hj,Ja6,Ja5 hj];rfl
 ·rw [paste_none _ hj,Jf5 (Je3 hj)]
end
section
structure Wr where
 loc:Bool
 ref:Nat
 lo:Int
 w:Nat
 take:Nat
noncomputable def Wr.v (x:Wr):V:=.tup [kindV x.loc,.int x.ref,.none,.int x.lo,.int x.w,.int x.take]
noncomputable def Wr.src (x:Wr) (row:List Int):List Int:=(row.drop x.take).take x.w
noncomputable def Wr.run (row:List Int) (s:List (List Int)×List (Option (List Int))) (x:Wr):List (List Int)×List (Option (List Int)):=match x.loc with
 | false=>(s.1.set x.ref (paste (s.1.getD x.ref []) x.lo (x.src row)),s.2)
 | true=>(s.1,s.2.set x.ref ((s.2.getD x.ref none).map fun h=>paste h x.lo (x.src row)))
noncomputable def But2 (a b:Nat) (σ σ':St):Prop:=∀ i c,i≠a→i≠b→σ i=some c→σ' i=some c
theorem But2.refl (a b:Nat) (σ:St):But2 a b σ σ:=fun _ _ _ _ e=>e
theorem But2.trans {a b:Nat} {x y z:St} (h:But2 a b x y) (g:But2 a b y z):But2 a b x z:=fun i c n1 n2 e=>g i c n1 n2 (h i c n1 n2 e)
theorem But2.ext {a b:Nat} {x y z:St} (h:But2 a b x y) (g:Ext y z):But2 a b x z:=fun i c n1 n2 e=>g i c (h i c n1 n2 e)
theorem upd_same {σ:St} {l:Nat} {c:Cell} (e:σ l=some c):upd σ l c=σ:=by
 funext i
 by_cases h:i=l
 ·subst h;rw [upd_self,e]
 ·rw [upd_ne _ _ h]
section
variable {Γ:Gl} {k:Nat} {f:Fn} {args:List V} {σ:St} {Q Q':V→St→Prop} {fl c ST F RL:Nat}
seal itemV attrV setAV setIV biV listM methL sliceV iterV inV newV
noncomputable def wrE (u1 u2:V) (F R0:Nat):List (Nat×V):=[(137,u1),(173,u2),(76,.loc F),(136,.loc R0)]
noncomputable def wrE1 (u1 u2:V) (F R0:Nat) (x:Wr) (H:Nat):List (Nat×V):=[(137,u1),(173,u2),(76,.loc F),(136,.loc R0),(95,kindV x.loc),(127,.int x.ref),(183,.none),(100,.int x.lo),(177,.int x.w),(162,.int x.take),(83,.loc H)]
inductive CeI (H:Nat) (h src:List Int) (lo:Int) (σ:St) (i:Nat) (σ':St):Prop
 | mk (b:But H σ σ') (e:σ' H=some (rowC (paste h lo (src.take i))))
theorem src_len {row:List Int} {x:Wr} (hw:x.take+x.w≤row.length):(x.src row).length=x.w:=by
 rw [Wr.src,List.length_take,List.length_drop];exact Nat.min_eq_left (Nat.le_sub_of_add_le (Nat.add_comm x.take x.w▸hw))
theorem loop_cells {H R0:Nat} {h row:List Int} {x:Wr} {u1 u2:V} {Q:SPost} (eR:σ R0=some (rowC row)) (eH:σ H=some (rowC h)) (hne:R0≠H) (hw:x.take+x.w≤row.length) (hl:row.length≤100) (hh:h.length≤100)
  (q:∀ σ',But H σ σ'→σ' H=some (rowC (paste h x.lo (x.src row)))→Q .next (wrE1 u1 u2 F R0 x H) σ') :
  wpFor (fun _=>True) (bind1 86) (wpSs (wpS Γ k [(158,c)] 8) [.ifs (.chain .le .lt (.int 0) (.bin .Add (.var 100) (.var 86)) (.bi 199 [(.var 83)])) [.setI (.var 83) (.bin .Add (.var 100) (.var 86)) (.item (.var 136) (.bin .Add (.var 162) (.var 86)))] []]) ((Je1 x.w).map fun (i:Nat)=>.int (i:Int)) (wrE1 u1 u2 F R0 x H) σ Q:=by
 have hsl:=src_len hw
 refine wpFor_map (β:=Unit) (fun _=>wrE1 u1 u2 F R0 x H) (fun i _=>CeI H h (x.src row) x.lo σ i) () ⟨But.refl _ _,by rw [List.take_zero,paste_nil];exact eH⟩ (fun i j b σ' hx I=>?_) (fun b σ' I=>?_)
 ·cases I with
  | mk b e=>
  refine gabs fun gG gK=>?_
  have hj:=Ja3.mp hx
  obtain ⟨hi0,hj⟩:=hj
  rw [List.getElem_range] at hj
  rw [Jd4] at hi0
  subst hj
  refine gK ?_
  have hi':i<(x.src row).length:=hsl.symm▸hi0
  have ps:=paste_step (h:=h) (lo:=x.lo) hi'
  have hlen:(paste h x.lo ((x.src row).take i)).length=h.length:=paste_len ..
  have hlm:((paste h x.lo ((x.src row).take i)).map V.int).length=h.length:=(Ja2 _).trans hlen
  have esrc:row[x.take+i]?=some (x.src row)[i]:=by
   rw [← Ja5 hi']
   unfold Wr.src
   rw [List.getElem?_take,if_pos hi0,List.getElem?_drop]
  have ht:x.take+i<row.length:=Jc8 (Nat.add_lt_add_left hi0 _) hw
  refine ⟨trivial,_,rfl,fun Q9 q9=>?_⟩
  refine ifB_intro (fun h1=>?_) (fun h1=>?_)
  ·have h1:0≤x.lo+i:=of_decide_eq_true h1
   refine len_l e (hlm.symm▸Ja1 hh (Ja0 rfl)) ?_
   refine ifB_intro (fun h2=>?_) (fun h2=>?_)
   ·have h2:x.lo+i<h.length:=hlm▸of_decide_eq_true h2
    refine item_l (i:=((x.take+i:Nat):Int)) (r:=.int (x.src row)[i]) (b _ _ hne eR) (Jb0 _) ((Ja8 ..).trans (congrArg (Je7 V.int) esrc)) ?_ (c62 (Jc8 ht hl))
    refine setI_l e h1 (hlm.symm▸h2) (Int.lt_of_lt_of_le h2 (by lia)) ?_
    refine q9 _ _ _ ⟨(),SubE.app _ _,b.trans (But.upd _),(upd_self ..).trans ?_⟩
    rw [ps.1 ⟨h1,h2⟩,rowC,Je0]
   ·have h2:¬ x.lo+i<h.length:=hlm▸of_decide_eq_false h2
    exact q9 _ _ _ ⟨(),SubE.app _ _,b,by rw [ps.2 fun h=>h2 h.2];exact e⟩
  ·have h1:¬ 0≤x.lo+i:=of_decide_eq_false h1
   refine ifB.f rfl ?_
   exact q9 _ _ _ ⟨(),SubE.app _ _,b,by rw [ps.2 fun h=>h1 h.1];exact e⟩
 ·cases I with
  | mk b e=>
  rw [Jd4,← hsl,Je2] at e
  exact ⟨trivial,q σ' b e⟩
end
end
section
structure SvOk (sv:List (List Int)):Prop where
 ok:∀ r∈sv,Cells r∧r.length≤100
structure FvOk (fv:List (Option (List Int))):Prop where
 ok:∀ r,some r∈fv→Cells r∧r.length≤100
structure WrOk (row:List Int) (s:List (List Int)×List (Option (List Int))) (x:Wr):Prop where
 take:x.take+x.w≤row.length
 ref:x.ref≤10000
 sig:x.loc=false→x.ref<s.1.length
 frm:x.loc=true→∃ r,s.2[x.ref]?=some (some r)
theorem run_keeps {row:List Int} {s:List (List Int)×List (Option (List Int))} {x:Wr} (hr:Cells row) (h1:SvOk s.1) (h2:FvOk s.2) (hx:WrOk row s x):SvOk (x.run row s).1∧FvOk (x.run row s).2∧∀ y,WrOk row s y→WrOk row (x.run row s) y:=by
 have hsrc:Cells (x.src row):=fun c hc=>hr c (List.mem_of_mem_drop (Je6 hc))
 unfold Wr.run
 cases e:x.loc with
 | false=>
  have hlt:=hx.sig e
  refine ⟨⟨fun r hm=>?_⟩,h2,fun y hy=>⟨hy.take,hy.ref,fun h=>by simpa using hy.sig h,hy.frm⟩⟩
  rcases Jh6 hm with h | rfl
  ·exact h1.ok r h
  ·have:s.1.getD x.ref []∈s.1:=by rw [Ja6,Ja5 hlt];exact Jc7 hlt
   obtain ⟨a,b⟩:=h1.ok _ this
   exact ⟨paste_cells _ a hsrc,by rw [paste_len];exact b⟩
 | true=>
  obtain ⟨r0,hr0⟩:=hx.frm e
  have eg:s.2.getD x.ref none=some r0:=by rw [Ja6,hr0];rfl
  refine ⟨h1,⟨fun r hm=>?_⟩,fun y hy=>⟨hy.take,hy.ref,hy.sig,fun h=>?_⟩⟩
  ·rcases Jh6 hm with h | h
   ·exact h2.ok r h
   ·rw [eg] at h
    cases h
    obtain ⟨a,b⟩:=h2.ok r0 (Ja9 hr0)
    exact ⟨paste_cells _ a hsrc,by rw [paste_len];exact b⟩
  ·obtain ⟨r1,hr1⟩:=hy.frm h
   have hlt:=(Ja3.mp hr1).1
   by_cases q:x.ref=y.ref
   ·refine ⟨paste r0 x.lo (x.src row),?_⟩
    show (s.2.set x.ref _)[y.ref]?=_
    rw [Jh7,if_pos q,if_pos (by rw [q];exact hlt),eg];rfl
   ·refine ⟨r1,?_⟩
    show (s.2.set x.ref _)[y.ref]?=_
    rw [Jh7,if_neg q];exact hr1
end
section
section
variable {Γ:Gl} {k:Nat} {f:Fn} {args:List V} {σ:St} {Q Q':V→St→Prop} {fl c ST F RL:Nat}
theorem kind_beq' (b:Bool):Jc5 (if b then 101 else 146) 146=!b:=by cases b <;> rfl
theorem hR0ne {a b:Nat} {d:Cell} (e:σ a=some d) (h:σ b=none):b≠a:=fun q=>by rw [q,e] at h;cases h
seal itemV attrV setAV setIV biV listM methL sliceV iterV inV newV
inductive WrI (σ:St) (ST F R0:Nat) (row:List Int) (sv:List (List Int)) (fv:List (Option (List Int))) (xs:List Wr) (i:Nat) (s:List (List Int)×List (Option (List Int))) (σ':St):Prop
 | mk (e:s=(xs.take i).foldl (Wr.run row) (sv,fv)) (o1:SvOk s.1) (o2:FvOk s.2) (ox:∀ x∈xs,WrOk row s x) (e1:σ' ST=some (vecsC s.1)) (e2:σ' F=some (.list (s.2.map optVec))) (b:But2 ST F σ σ') (r:σ' R0=some (rowC row))
theorem wr_row {row:List Int} {s:List (List Int)×List (Option (List Int))} {x:Wr} (o1:SvOk s.1) (o2:FvOk s.2) (hx:WrOk row s x):∃ r0,(Cells r0∧r0.length≤100)∧(x.loc=false→s.1[x.ref]?=some r0)∧(x.loc=true→s.2[x.ref]?=some (some r0)):=by
 cases el:x.loc with
 | false=>exact ⟨_,o1.ok _ (Jc7 (hx.sig el)),fun _=>Ja5 (hx.sig el),(fun q=>(by cases q))⟩
 | true=>exact (hx.frm el).elim fun r h=>⟨r,o2.ok r (Ja9 h),(fun q=>(by cases q)),fun _=>h⟩
theorem run_sig {row:List Int} {s:List (List Int)×List (Option (List Int))} {x:Wr} {r0:List Int} (el:x.loc=false) (h:s.1[x.ref]?=some r0):x.run row s=(s.1.set x.ref (paste r0 x.lo (x.src row)),s.2):=by
 unfold Wr.run;rw [el];show (s.1.set x.ref (paste (s.1.getD x.ref []) x.lo (x.src row)),s.2)=_;rw [Ja6,h];rfl
theorem run_frm {row:List Int} {s:List (List Int)×List (Option (List Int))} {x:Wr} {r0:List Int} (el:x.loc=true) (h:s.2[x.ref]?=some (some r0)):x.run row s=(s.1,s.2.set x.ref (some (paste r0 x.lo (x.src row)))):=by
 unfold Wr.run;rw [el];show (s.1,s.2.set x.ref ((s.2.getD x.ref none).map _))=_;rw [Ja6,h];rfl
theorem spec_write (L:Lib Γ) {xs:List Wr} {sv:List (List Int)} {fv:List (Option (List Int))} {row:List Int} (ef:σ fl=some (.fn 5 [(158,c)])) (ec:σ c=some (.cell (.loc ST))) (es:σ ST=some (vecsC sv)) (efr:σ F=some (.list (fv.map optVec))) (er:σ RL=some (.list (xs.map Wr.v)))
  (n1:ST≠F) (n2:RL≠ST) (n3:RL≠F) (hr:Cells row) (hrl:row.length≤100) (hsv:SvOk sv) (hfv:FvOk fv) (hx:∀ x∈xs,WrOk row (sv,fv) x) (hl:xs.length≤10000)
  (q:∀ σ',But2 ST F σ σ'→σ' ST=some (vecsC (xs.foldl (Wr.run row) (sv,fv)).1)→σ' F=some (.list ((xs.foldl (Wr.run row) (sv,fv)).2.map optVec))→Q .none σ'):WC Γ (k+2) (.clos fl) [.loc RL,vecOf row,.loc F] σ Q:=by
 refine WC_clos (n:=10) (L.clos 5 _ _ _ rfl) ef (fun p hp=>Ja4.mp hp▸.head _) rfl ?_
 refine spec_row (k:=k) L hrl hr fun R0 hR0=>?_
 have hx0:Ext σ (upd σ R0 (rowC row)):=(Ext.refl σ).upd hR0 _
 have eR0:upd σ R0 (rowC row) R0=some (rowC row):=upd_self ..
 show wpSs _ _ _ (upd σ R0 (rowC row)) _
 revert hx0 eR0
 refine gen (upd σ R0 (rowC row)) ?_
 intro σ0
 intros
 refine ⟨rfl,?_⟩
 refine iter_l (hx0 _ _ er) ((Ja2 (as:=xs) _).symm▸hl) ?_
 have cST:c≠ST:=fun q=>by subst q;rw [ec] at es;cases es
 have cF:c≠F:=fun q=>by subst q;rw [ec] at efr;cases efr
 refine wpFor_map (fun _:List (List Int)×List (Option (List Int))=>wrE (.loc RL) (vecOf row) F R0) (WrI σ ST F R0 row sv fv xs) (sv,fv) ⟨rfl,hsv,hfv,hx,hx0 _ _ es,hx0 _ _ efr,fun i d _ _ e=>hx0 _ _ e,eR0⟩ (fun i x s σ' hi I=>?_) (fun s σ' I=>?_)
 ·cases I with
  | mk e o1 o2 ox e1 e2 hB eR=>
  have hm:=Ja9 hi
  have hok:=ox x hm
  have hrun:=run_keeps hr o1 o2 hok
  have hs':x.run row s=(xs.take (i+1)).foldl (Wr.run row) (sv,fv):=by rw [take_snoc hi,Jh8,← e];rfl
  have hpr:=hok.ref
  have ec':σ' c=some (.cell (.loc ST)):=hB _ _ cST cF ec
  refine gabs fun gG gK=>?_
  obtain ⟨r0,⟨c1,c2⟩,hS,hF⟩:=wr_row o1 o2 hok
  refine gK ?_
  refine ⟨hB _ _ n2 n3 er,_,rfl,fun Q9 q9=>?_⟩
  let Jq:List (Nat×V)→St→Prop:=fun m σ2=>∃ H,wrE1 (.loc RL) (vecOf row) F R0 x H=m∧σ' H=none∧upd σ' H (rowC r0)=σ2
  refine wpSs_join Jq (fun Q9 q9=>?_) (fun m σ2 hJ=>?_)
  ·refine ifB_intro (fun el=>?_) (fun el=>?_)
   ·have el:x.loc=false:=(Jg2 _).mp ((kind_beq' x.loc).symm.trans el)
    refine ⟨_,ec',?_⟩
    refine item_l e1 (Jb0 _) ((Ja8 ..).trans (congrArg (Je7 vecOf) (hS el))) ?_ (c62' hpr)
    exact spec_row (k:=k) L c2 c1 fun H hH=>q9 _ _ _ ⟨H,rfl,hH,rfl⟩
   ·have el:x.loc=true:=(Jh5 _).mp ((kind_beq' x.loc).symm.trans el)
    refine item_l e2 (Jb0 _) ((Ja8 ..).trans (congrArg (Je7 optVec) (hF el))) ?_ (c62' hpr)
    exact spec_row (k:=k) L c2 c1 fun H hH=>q9 _ _ _ ⟨H,rfl,hH,rfl⟩
  refine gabs fun gG gK=>?_
  obtain ⟨H,rfl,hH,rfl⟩:=hJ
  refine gK ?_
  have x2:Ext σ' (upd σ' H (rowC r0)):=(Ext.refl _).upd hH _
  have eH:upd σ' H (rowC r0) H=some (rowC r0):=upd_self ..
  revert x2 eH
  refine gen (upd σ' H (rowC r0)) ?_
  intro σ2
  intros
  have hne:R0≠H:=Ne.symm (hR0ne eR hH)
  have hw:=hok.take
  refine ⟨rfl,?_⟩
  refine iter_r (Jb0 _) (Jf6.mpr (Ja1 (Ja1 (Jf3 ..) hw) (Ja1 hrl (Ja0 rfl)))) ?_
  refine loop_cells (u1:=.loc RL) (u2:=vecOf row) (F:=F) (x:=x) (x2 _ _ eR) eH hne hw hrl c2 fun σ3 b3 eH3=>?_
  have x3:Ext σ' σ3:=fun l d e=>b3 _ _ (Ne.symm (hR0ne e hH)) (x2 _ _ e)
  have hsrc:Cells (x.src row):=fun c hc=>hr c (List.mem_of_mem_drop (Je6 hc))
  have hlp:(paste r0 x.lo (x.src row)).length≤100:=(paste_len ..).symm▸c2
  refine ifB_intro (fun el=>?_) (fun el=>?_)
  ·have el:x.loc=false:=(Jg2 _).mp ((kind_beq' x.loc).symm.trans el)
   have hru:=run_sig (row:=row) el (hS el)
   refine spec_vector (k:=k) L eH3 hlp (paste_cells _ c1 hsrc) ?_
   refine ⟨_,x3 _ _ ec',?_⟩
   refine setI_l (x3 _ _ e1) (Jb0 _) (Jc1.mpr ((Ja2 (as:=s.1) _).symm▸hok.sig el)) (c62' hpr) ?_
   refine q9 _ _ _ ⟨x.run row s,SubE.app _ _,hs',hrun.1,hrun.2.1,fun y hy=>hrun.2.2 y (ox y hy),?_,?_,fun j d m1 m2 e=>(upd_ne _ _ m1).trans (x3 _ _ (hB j d m1 m2 e)),(upd_ne _ _ fun q=>hR0ne es hR0 q).trans (x3 _ _ eR)⟩
   ·rw [hru];exact (upd_self ..).trans (congrArg (fun y=>some (Cell.list y)) (by rw [Je0];rfl))
   ·rw [hru];exact (upd_ne _ _ (Ne.symm n1)).trans (x3 _ _ e2)
  ·have el:x.loc=true:=(Jh5 _).mp ((kind_beq' x.loc).symm.trans el)
   have hru:=run_frm (row:=row) el (hF el)
   refine spec_vector (k:=k) L eH3 hlp (paste_cells _ c1 hsrc) ?_
   refine setI_l (x3 _ _ e2) (Jb0 _) (Jc1.mpr ((Ja2 (as:=s.2) _).symm▸(Ja3.mp (hF el)).1)) (c62' hpr) ?_
   refine q9 _ _ _ ⟨x.run row s,SubE.app _ _,hs',hrun.1,hrun.2.1,fun y hy=>hrun.2.2 y (ox y hy),?_,?_,fun j d m1 m2 e=>(upd_ne _ _ m2).trans (x3 _ _ (hB j d m1 m2 e)),(upd_ne _ _ fun q=>hR0ne efr hR0 q).trans (x3 _ _ eR)⟩
   ·rw [hru];exact (upd_ne _ _ n1).trans (x3 _ _ e1)
   ·rw [hru];exact (upd_self ..).trans (congrArg (fun y=>some (Cell.list y)) (by rw [Je0];rfl))
 ·cases I with
  | mk e o1 o2 ox e1 e2 hB eR=>
  rw [Je2] at e
  exact ⟨hB _ _ n2 n3 er,q σ' hB (e▸e1) (e▸e2)⟩
end
end
section
end
section
noncomputable def ButS (L:List Nat) (σ σ':St):Prop:=∀ i c,i∉L→σ i=some c→σ' i=some c
theorem ButS.refl (L:List Nat) (σ:St):ButS L σ σ:=fun _ _ _ e=>e
theorem ButS.trans {L:List Nat} {x y z:St} (h:ButS L x y) (g:ButS L y z):ButS L x z:=fun i c n e=>g i c n (h i c n e)
theorem ButS.ext {L:List Nat} {x y z:St} (h:ButS L x y) (g:Ext y z):ButS L x z:=fun i c n e=>g i c (h i c n e)
theorem Ext.buts {L:List Nat} {x y:St} (g:Ext x y):ButS L x y:=fun i c _ e=>g i c e
theorem ButS.wider {L L':List Nat} {x y:St} (h:ButS L x y) (w:∀ a∈L,a∈L'):ButS L' x y:=fun i c n e=>h i c (fun q=>n (w i q)) e
theorem ButS.set {L:List Nat} {x y:St} (h:ButS L x y) {l:Nat} (c:Cell) (hl:l∈L∨x l=none):ButS L x (upd y l c):=fun i d n e=>by
 by_cases q:i=l
 ·subst q;rcases hl with hl | hl
  ·exact absurd hl n
  ·rw [hl] at e;cases e
 ·rw [upd_ne _ _ q];exact h i d n e
theorem ButS.at {L:List Nat} {x y:St} (h:ButS L x y) {l:Nat} {c:Cell} (e:x l=some c) (n:l∉L):y l=some c:=h l c n e
theorem live_ne {σ:St} {l i:Nat} {c:Cell} (e:σ l=some c) (h:σ i=none):l≠i:=fun q=>by subst q;rw [h] at e;cases e
theorem ButS.none {L:List Nat} {x y:St} (h:ButS L x y) {i:Nat} (n:i∉L) (e:y i=none):x i=none:=by
 cases q:x i with
 | none=>rfl
 | some c=>rw [h i c n q] at e;cases e
noncomputable def Rok (r:List Int):Prop:=Cells r∧r≠[]∧r.length≤50
noncomputable def SOk (sv:List (List Int)):Prop:=∀ r∈sv,Rok r
noncomputable def FOk (fv:List (Option (List Int))):Prop:=∀ r,some r∈fv→Rok r
noncomputable def shp (fv:List (Option (List Int))):List (Option Nat):=fv.map (Je7 List.length)
noncomputable def wid (sv:List (List Int)):List Nat:=sv.map List.length
theorem shp_some {fv:List (Option (List Int))} {i w:Nat} (h:(shp fv)[i]?=some (some w)):∃ r,fv[i]?=some (some r)∧r.length=w:=by
 unfold shp at h
 rw [Ja8] at h
 cases q:fv[i]? with
 | none=>rw [q] at h;cases h
 | some a=>
  rw [q] at h
  cases a with
  | none=>cases h
  | some r=>cases h;exact ⟨r,rfl,rfl⟩
theorem shp_of {fv:List (Option (List Int))} {i:Nat} {r:List Int} (h:fv[i]?=some (some r)):(shp fv)[i]?=some (some r.length):=by
 unfold shp;rw [Ja8,h];rfl
theorem shp_none {fv:List (Option (List Int))} {i:Nat} (h:(shp fv)[i]?=some none):fv[i]?=some none:=by
 unfold shp at h
 rw [Ja8] at h
 cases q:fv[i]? with
 | none=>rw [q] at h;cases h
 | some a=>rw [q] at h;cases a with
  | none=>rfl
  | some r=>cases h
theorem wid_some {sv:List (List Int)} {i w:Nat} (h:(wid sv)[i]?=some w):∃ r,sv[i]?=some r∧r.length=w:=by
 unfold wid at h
 rw [Ja8] at h
 cases q:sv[i]? with
 | none=>rw [q] at h;cases h
 | some r=>rw [q] at h;cases h;exact ⟨r,rfl,rfl⟩
theorem wid_of {sv:List (List Int)} {i:Nat} {r:List Int} (h:sv[i]?=some r):(wid sv)[i]?=some r.length:=by
 unfold wid;rw [Ja8,h];rfl
theorem shp_set {fv:List (Option (List Int))} {i:Nat} {r r':List Int} (h:fv[i]?=some (some r)) (hl:r'.length=r.length):shp (fv.set i (some r'))=shp fv:=by
 unfold shp
 rw [Je0]
 refine Jh2 fun j=>?_
 rw [Jh7]
 split
 ·rename_i q;subst q
  have:=(Ja3.mp h).1
  rw [if_pos (by simpa using this),Ja8,h];simp [hl]
 ·rfl
theorem wid_set {sv:List (List Int)} {i:Nat} {r r':List Int} (h:sv[i]?=some r) (hl:r'.length=r.length):wid (sv.set i r')=wid sv:=by
 unfold wid
 rw [Je0]
 refine Jh2 fun j=>?_
 rw [Jh7]
 split
 ·rename_i q;subst q
  have:=(Ja3.mp h).1
  rw [if_pos (by simpa using this),Ja8,h];simp [hl]
 ·rfl
theorem SOk.set {sv:List (List Int)} (h:SOk sv) (i:Nat) {r:List Int} (hr:Rok r):SOk (sv.set i r):=fun x hx=>by
 rcases Jh6 hx with q | rfl
 ·exact h x q
 ·exact hr
theorem FOk.set {fv:List (Option (List Int))} (h:FOk fv) (i:Nat) {r:List Int} (hr:Rok r):FOk (fv.set i (some r)):=fun x hx=>by
 rcases Jh6 hx with q | q
 ·exact h x q
 ·cases q;exact hr
theorem SOk.at {sv:List (List Int)} (h:SOk sv) {i:Nat} {r:List Int} (e:sv[i]?=some r):Rok r:=h r (Ja9 e)
theorem FOk.at {fv:List (Option (List Int))} (h:FOk fv) {i:Nat} {r:List Int} (e:fv[i]?=some (some r)):Rok r:=h r (Ja9 e)
structure PtOk (n:Nat) (sh:List (Option Nat)) (p:Pt):Prop where
 wh:match p.wh with | .at _=>True | .pick _ i _ _ sgn=>i<n∧(sgn=1∨sgn=-1)
 ref:p.ref≤10000
 frm:p.loc=true→∃ w,sh[p.ref]?=some (some w)
 sig:p.loc=false→p.ref<n
noncomputable def tot:List Pt→Nat
 | []=>0
 | p::ps=>p.w+tot ps
noncomputable def wrsA (sv:List (List Int)):List Pt→List Wr
 | []=>[]
 | p::ps=>(match p.wh.lo sv with | none=>[] | some lo=>[⟨p.loc,p.ref,lo,p.w,tot ps⟩])++wrsA sv ps
noncomputable def wrs (sv:List (List Int)) (ws:List Nat) (fv:List (Option (List Int))):List Pt→List Wr
 | []=>[]
 | p::ps=>(match p.wh.lo sv with
  | none=>[]
  | some lo=>match p.width ws fv with
   | some w=>if lo+p.w≤0∨(w:Int)≤lo then [] else [⟨p.loc,p.ref,lo,p.w,tot ps⟩]
   | none=>[])++wrs sv ws fv ps
theorem rowsOf_eq (sv:List (List Int)) (ws:List Nat) (fv:List (Option (List Int))) (ps:List Pt):rowsOf sv ws fv (tot ps) ps=(wrs sv ws fv ps).map Wr.v:=by
 induction ps with
 | nil=>rfl
 | cons p ps ih=>
  have e:((tot (p::ps):Nat):Int) - p.w=tot ps:=by
   show ((p.w+tot ps:Nat):Int) - p.w=tot ps
   rw [Int.natCast_add,Int.add_comm,Int.add_sub_cancel]
  unfold rowsOf wrs
  rw [e,Jb5,ih]
  refine congrArg (·++_) ?_
  unfold rowOf
  cases p.wh.lo sv with
  | none=>rfl
  | some lo=>
   cases p.width ws fv with
   | none=>rfl
   | some w=>dsimp only;split <;> rfl
theorem set_same {α:Type} {l:List α} {i:Nat} {a:α} (h:l[i]?=some a):l.set i a=l:=by
 obtain ⟨h1,h2⟩:=Ja3.mp h
 subst h2;exact List.set_getElem_self h1
noncomputable abbrev Wd:=List (List Int)×List (Option (List Int))
noncomputable def asgP (row:List Int) (ps:List Pt) (s:Wd):Wd:=(wrsA s.1 ps).foldl (Wr.run row) s
structure WOk (row:List Int) (n:Nat) (sh:List (Option Nat)) (x:Wr):Prop where
 take:x.take+x.w≤row.length
 ref:x.ref≤10000
 sig:x.loc=false→x.ref<n
 frm:x.loc=true→∃ w,sh[x.ref]?=some (some w)
theorem run_shape {row:List Int} {s:Wd} {x:Wr} (hr:Cells row) (h1:SOk s.1) (h2:FOk s.2) (hx:WOk row s.1.length (shp s.2) x) :
  SOk (x.run row s).1∧FOk (x.run row s).2∧wid (x.run row s).1=wid s.1∧shp (x.run row s).2=shp s.2:=by
 have hsrc:Cells (x.src row):=fun c hc=>hr c (List.mem_of_mem_drop (Je6 hc))
 have rok:∀ h:List Int,Rok h→Rok (paste h x.lo (x.src row)):=fun h ⟨a,b,c⟩=>⟨paste_cells _ a hsrc,fun e=>b (List.length_eq_zero_iff.mp (by rw [← paste_len h x.lo (x.src row),e];rfl)),by rw [paste_len];exact c⟩
 unfold Wr.run
 cases e:x.loc with
 | false=>
  have hlt:=hx.sig e
  have hv:s.1[x.ref]?=some s.1[x.ref]:=Ja5 hlt
  have eg:s.1.getD x.ref []=s.1[x.ref]:=by rw [Ja6,hv];rfl
  dsimp only
  rw [eg]
  exact ⟨h1.set _ (rok _ (h1.at hv)),h2,wid_set hv (paste_len ..),rfl⟩
 | true=>
  refine gabs fun gG gK=>?_
  obtain ⟨w,hw⟩:=hx.frm e
  obtain ⟨r,hv,_⟩:=shp_some hw
  refine gK ?_
  have eg:s.2.getD x.ref none=some r:=by rw [Ja6,hv];rfl
  dsimp only
  rw [eg]
  exact ⟨h1,h2.set _ (rok _ (h2.at hv)),rfl,shp_set hv (paste_len ..)⟩
theorem wid_len {sv sv':List (List Int)} (h:wid sv'=wid sv):sv'.length=sv.length:=by
 have:=congrArg List.length h;simpa [wid] using this
theorem runs_shape {row:List Int} (hr:Cells row) {xs:List Wr}:∀ {s:Wd},(∀ x∈xs,WOk row s.1.length (shp s.2) x)→SOk s.1→FOk s.2→SOk (xs.foldl (Wr.run row) s).1∧FOk (xs.foldl (Wr.run row) s).2∧wid (xs.foldl (Wr.run row) s).1=wid s.1∧shp (xs.foldl (Wr.run row) s).2=shp s.2:=by
 induction xs with
 | nil=>exact fun _ h1 h2=>⟨h1,h2,rfl,rfl⟩
 | cons x xs ih=>
  intro s hx h1 h2
  obtain ⟨a,b,c,d⟩:=run_shape hr h1 h2 (hx x (.head _))
  obtain ⟨a',b',c',d'⟩:=ih (s:=x.run row s) (fun y hy=>by rw [d,wid_len c];exact hx y (.tail _ hy)) a b
  exact ⟨a',b',c'.trans c,d'.trans d⟩
theorem wok_of {row:List Int} {n:Nat} {sh:List (Option Nat)} {p:Pt} {ps:List Pt} {lo:Int} (po:PtOk n sh p) (hl:tot (p::ps)≤row.length):WOk row n sh ⟨p.loc,p.ref,lo,p.w,tot ps⟩:=⟨Nat.add_comm p.w _▸hl,po.ref,po.sig,po.frm⟩
theorem wrsA_ok {row:List Int} {n:Nat} {sh:List (Option Nat)} {sv:List (List Int)} {ps:List Pt} (hp:∀ p∈ps,PtOk n sh p) (hl:tot ps≤row.length):∀ x∈wrsA sv ps,WOk row n sh x:=by
 induction ps with
 | nil=>exact fun _ hx=>(by cases hx)
 | cons p ps ih=>
  intro x hx
  refine (Jd0.mp hx).elim (fun h=>?_) (ih (fun q hq=>hp q (.tail _ hq)) (Ja1 (Jf3 _ _) hl) x)
  cases e:p.wh.lo sv with
  | none=>rw [e] at h;cases h
  | some lo=>rw [e] at h;exact Ja4.mp h▸wok_of (hp p (.head _)) hl
theorem wrs_ok {row:List Int} {n:Nat} {sh:List (Option Nat)} {sv:List (List Int)} {ws:List Nat} {fv:List (Option (List Int))} {ps:List Pt} (hp:∀ p∈ps,PtOk n sh p) (hl:tot ps≤row.length):∀ x∈wrs sv ws fv ps,WOk row n sh x:=by
 induction ps with
 | nil=>exact fun _ hx=>(by cases hx)
 | cons p ps ih=>
  intro x hx
  refine (Jd0.mp hx).elim (fun h=>?_) (ih (fun q hq=>hp q (.tail _ hq)) (Ja1 (Jf3 _ _) hl) x)
  cases e:p.wh.lo sv with
  | none=>rw [e] at h;cases h
  | some lo=>
   rw [e] at h
   cases e2:p.width ws fv with
   | none=>dsimp only at h;rw [e2] at h;cases h
   | some w=>
    dsimp only at h
    rw [e2] at h
    dsimp only at h
    split at h
    ·cases h
    ·exact Ja4.mp h▸wok_of (hp p (.head _)) hl
noncomputable def widthS (lc:Bool) (rf:Nat) (ws:List Nat) (sh:List (Option Nat)):Option Nat:=match lc with
 | true=>(sh[rf]?).getD none
 | false=>ws[rf]?
theorem width_sh (p:Pt) (ws:List Nat) (fv:List (Option (List Int))):p.width ws fv=widthS p.loc p.ref ws (shp fv):=by
 unfold Pt.width widthS
 cases p.loc with
 | false=>rfl
 | true=>
  show (fv.getD _ none).map _=((shp fv)[_]?).getD none
  unfold shp
  rw [Ja8,Ja6]
  cases fv[p.ref]? <;> rfl
theorem width_ok {p:Pt} {ws:List Nat} {sh:List (Option Nat)} (po:PtOk ws.length sh p):∃ w,widthS p.loc p.ref ws sh=some w:=by
 unfold widthS
 cases e:p.loc with
 | false=>exact ⟨_,Ja5 (po.sig e)⟩
 | true=>
  obtain ⟨w,h⟩:=po.frm e
  exact ⟨w,h.symm▸rfl⟩
theorem run_beside {row:List Int} {s:Wd} {lc:Bool} {rf pw t w:Nat} {lo:Int} (e:widthS lc rf (wid s.1) (shp s.2)=some w) (hs:(Wr.src ⟨lc,rf,lo,pw,t⟩ row).length=pw) (hb:lo+pw≤0∨(w:Int)≤lo):Wr.run row s ⟨lc,rf,lo,pw,t⟩=s:=by
 cases lc with
 | false=>
  obtain ⟨r,hv,rfl⟩:=wid_some e
  show (s.1.set rf (paste (s.1.getD rf []) lo _),s.2)=s
  rw [Ja6,hv,Option.getD_some,paste_beside (hs.symm▸hb),set_same hv]
 | true=>
  have e:((shp s.2)[rf]?).getD none=some w:=e
  cases q:(shp s.2)[rf]? with
  | none=>rw [q] at e;cases e
  | some a=>
   rw [q] at e
   cases e
   obtain ⟨r,hv,rfl⟩:=shp_some q
   show (s.1,s.2.set rf ((s.2.getD rf none).map fun h=>paste h lo _))=s
   rw [Ja6,hv,Option.getD_some,Option.map_some,paste_beside (hs.symm▸hb),set_same hv]
theorem fold_wrs {row:List Int} (hr:Cells row) {sv0:List (List Int)} {ws:List Nat} {fv0:List (Option (List Int))} {ps:List Pt} (hp:∀ p∈ps,PtOk ws.length (shp fv0) p) (hl:tot ps≤row.length):∀ {s:Wd},SOk s.1→FOk s.2→wid s.1=ws→shp s.2=shp fv0→
  (wrs sv0 ws fv0 ps).foldl (Wr.run row) s=(wrsA sv0 ps).foldl (Wr.run row) s:=by
 induction ps with
 | nil=>exact fun _ _ _ _=>rfl
 | cons p ps ih=>
  intro s h1 h2 hw hf
  have ih:=fun s=>@ih (fun q hq=>hp q (.tail _ hq)) (Ja1 (Jf3 _ _) hl) s
  have po:=hp p (.head _)
  obtain ⟨w,e2⟩:=width_ok po
  unfold wrs wrsA
  rw [Jh8,Jh8]
  cases p.wh.lo sv0 with
  | none=>exact ih s h1 h2 hw hf
  | some lo=>
   dsimp only
   rw [width_sh,e2]
   have hn:s.1.length=ws.length:=hw▸(Ja2 ..).symm
   have ht:tot ps+p.w≤row.length:=Nat.add_comm p.w _▸hl
   obtain ⟨a,b,c,d⟩:=run_shape hr h1 h2 (x:=⟨p.loc,p.ref,lo,p.w,tot ps⟩) ⟨ht,po.ref,hn.symm▸po.sig,hf.symm▸po.frm⟩
   have ih1:=ih _ a b (c.trans hw) (d.trans hf)
   dsimp only
   split
   ·rename_i hb
    rw [← hw,← hf] at e2
    have sm:=run_beside (row:=row) (t:=tot ps) e2 (by show ((row.drop _).take _).length=_;rw [List.length_take,List.length_drop];exact Nat.min_eq_left (Nat.le_sub_of_add_le' ht)) hb
    rw [sm] at ih1
    rw [List.foldl_nil,List.foldl_cons,List.foldl_nil,sm]
    exact ih1
   ·exact ih1
end
section
noncomputable def grp (gs:List (List Nat)) (j:Nat):List Nat:=(gs[j]?).getD []
noncomputable def sel (gs:List (List Nat)) (rs:List Nat):List Nat:=List.rec [] (fun j js r=>List.rec (grp gs j) (fun _ _ _=>grp gs j++r) js) rs
theorem sel_eq {gs:List (List Nat)} (rs:List Nat):sel gs rs=rs.flatMap (grp gs):=by
 induction rs with
 | nil=>rfl
 | cons j js ih=>
  cases js with
  | nil=>exact (Jd3 _).symm
  | cons k js=>exact congrArg (grp gs j++·) ih
theorem mem_sel {gs:List (List Nat)} {x:Nat} {rs:List Nat} (h:x∈sel gs rs):∃ j,j∈rs∧x∈grp gs j:=List.mem_flatMap.mp (sel_eq rs▸h)
theorem sel_mem {gs:List (List Nat)} {x j:Nat} {rs:List Nat} (hx:x∈grp gs j) (h:rs.contains j=true):x∈sel gs rs:=(sel_eq (gs:=gs) rs).symm▸List.mem_flatMap.mpr ⟨j,List.contains_iff_mem.mp h,hx⟩
theorem grp_flat {x:Nat} {gs:List (List Nat)} {j:Nat} (h:x∈grp gs j):x∈gs.flatten:=by
 unfold grp at h
 cases q:gs[j]? with
 | none=>rw [q] at h;cases h
 | some g=>rw [q] at h;exact List.mem_flatten_of_mem (Ja9 q) h
theorem grp_dis {x:Nat} {gs:List (List Nat)} (nd:gs.flatten.Nodup):∀ {i j:Nat},x∈grp gs i→x∈grp gs j→i=j:=by
 induction gs with
 | nil=>exact fun h _=>(by cases h)
 | cons g gs ih=>
  obtain ⟨_,h2,h3⟩:=Jc2.mp nd
  intro i j h k
  cases i with
  | zero=>
   cases j with
   | zero=>rfl
   | succ j=>exact absurd rfl (h3 x h x (grp_flat (gs:=gs) (j:=j) k))
  | succ i=>
   cases j with
   | zero=>exact absurd rfl (h3 x k x (grp_flat (gs:=gs) (j:=i) h))
   | succ j=>exact congrArg Nat.succ (ih h2 (i:=i) (j:=j) h k)
theorem grp_nd {gs:List (List Nat)} (nd:gs.flatten.Nodup):∀ (j:Nat),(grp gs j).Nodup:=by
 induction gs with
 | nil=>exact fun _=>.nil
 | cons g gs ih=>
  have h:=Jc2.mp nd
  intro j
  cases j with
  | zero=>exact h.1
  | succ j=>exact ih h.2.1 j
theorem nm1 {a x:Nat} (h:a≠x):a∉[x]:=fun q=>h (Ja4.mp q)
theorem nmc {a x:Nat} {l:List Nat} (h:a≠x) (t:a∉l):a∉x::l:=fun q=>(Jc0.mp q).elim h t
theorem nd_snoc {l:List Nat} {a:Nat} (nd:l.Nodup) (h:a∉l):(l++[a]).Nodup:=Jc2.mpr ⟨nd,List.pairwise_singleton _ a,fun x hx y hy e=>h (Ja4.mp hy▸e▸hx)⟩
/-- places that stand,against one that does not -/
theorem not_live {σ:St} {L:List Nat} {a:Nat} (h:∀ l∈L,σ l≠none) (e:σ a=none):a∉L:=fun q=>h a q e
theorem some_ne {α:Type} {x:Option α} {c:α} (h:x=some c):x≠none:=h▸fun q=>(by cases q)
theorem lv0 {σ:St}:∀ l∈([]:List Nat),σ l≠none:=fun _ h=>(by cases h)
theorem lvc {σ:St} {a:Nat} {L:List Nat} {c:Cell} (e:σ a=some c) (h:∀ l∈L,σ l≠none):∀ l∈a::L,σ l≠none:=Ja7.mpr ⟨some_ne e,h⟩
/-- a place of group i is none of the groups rs -/
theorem nig {gs:List (List Nat)} (nd:gs.flatten.Nodup) (rs:List Nat) (i:Nat) {x:Nat} (hx:x∈grp gs i) (h:rs.contains i=false):x∉sel gs rs:=fun q=>by
 obtain ⟨j,h1,h2⟩:=mem_sel q
 rw [grp_dis nd hx h2,List.contains_iff_mem.mpr h1] at h;cases h
theorem nine {gs:List (List Nat)} (nd:gs.flatten.Nodup) (i j:Nat) {x y:Nat} (hx:x∈grp gs i) (hy:y∈grp gs j) (h:Jc5 i j=false):x≠y:=fun q=>by
 subst q;rw [grp_dis nd hx hy,Ji1] at h;cases h
theorem nd_sel {gs:List (List Nat)} (nd:gs.flatten.Nodup) (rs:List Nat) (h:decide rs.Nodup=true):(sel gs rs).Nodup:=by
 replace h:=of_decide_eq_true h
 rw [sel_eq]
 induction rs with
 | nil=>exact .nil
 | cons j js ih=>
  have h:=Jb6.mp h
  refine Jc2.mpr ⟨grp_nd nd j,ih h.2,fun x hx y hy e=>?_⟩
  obtain ⟨i,h1,h2⟩:=List.mem_flatMap.mp hy
  subst e
  exact h.1 (grp_dis nd hx h2▸h1)
theorem sub_sel {gs:List (List Nat)} (rs rs':List Nat) (h:(rs.all fun x=>rs'.contains x)=true):∀ x∈sel gs rs,x∈sel gs rs':=fun x hx=>by
 obtain ⟨j,h1,h2⟩:=mem_sel hx
 exact sel_mem h2 (Jb3.mp h j h1)
theorem dsel {gs:List (List Nat)} (nd:gs.flatten.Nodup) (rs rs':List Nat) (h:(rs.all fun x=>!rs'.contains x)=true):∀ x∈sel gs rs,x∉sel gs rs':=fun x hx=>by
 obtain ⟨j,h1,h2⟩:=mem_sel hx
 exact nig nd rs' j h2 (Jg2 _▸Jb3.mp h j h1)
theorem sel_flat {gs:List (List Nat)} (rs:List Nat):∀ x∈sel gs rs,x∈gs.flatten:=fun x hx=>(mem_sel hx).elim fun _ h=>grp_flat h.2
/-- what is not of the groups rs stays -/
theorem kp {gs:List (List Nat)} (nd:gs.flatten.Nodup) {σ σ':St} (rs:List Nat) (b:ButS (sel gs rs) σ σ') (i:Nat) {x:Nat} {c:Cell} (hx:x∈grp gs i) (h:rs.contains i=false) (e:σ x=some c):σ' x=some c:=b x c (nig nd rs i hx h) e
theorem kpB {gs:List (List Nat)} (nd:gs.flatten.Nodup) {σ σ':St} (rs rs':List Nat) (b:ButS (sel gs rs) σ σ') (h:(rs.all fun x=>rs'.contains x)=true):ButS (sel gs rs') σ σ':=b.wider (sub_sel rs rs' h)
theorem all_sel {gs:List (List Nat)} (rs:List Nat) (i:Nat) (h:rs.contains i=true):∀ x∈grp gs i,x∈sel gs rs:=fun _ hx=>sel_mem hx h
end
section
structure Mp where
 (H STR DS SG ST TK TD CP cS cT cD cH fget fset fnow fctx fclo fwri fchg frou:Nat)
structure Mp.At (M:Mp) (σ:St):Prop where
 host:∃ hs,σ M.H=some (.inst 4 hs)∧look hs 56=some (.loc M.CP)∧look hs 157=some (.loc M.STR)∧look hs 61=some (.loc M.DS)∧look hs 71=some (.loc M.fnow)∧look hs 58=some (.loc M.fctx)∧look hs 53=some (.loc M.fclo)∧look hs 184=some (.loc M.fwri)∧look hs 50=some (.loc M.fchg)
 store:∃ ss,σ M.STR=some (.inst 4 ss)∧look ss 79=some (.loc M.fget)∧look ss 145=some (.loc M.fset)∧look ss 148=some (.loc M.SG)
 design:∃ ds,σ M.DS=some (.inst 4 ds)∧look ds 134=some (.loc M.frou)
 kS:σ M.cS=some (.cell (.loc M.ST))
 kT:σ M.cT=some (.cell (.loc M.TK))
 kD:σ M.cD=some (.cell (.loc M.TD))
 kH:σ M.cH=some (.cell (.loc M.H))
 get:σ M.fget=some (.fn 0 [(158,M.cS)])
 set:σ M.fset=some (.fn 1 [(158,M.cS)])
 now:σ M.fnow=some (.fn 2 [(158,M.cS)])
 ctx:σ M.fctx=some (.fn 3 [(85,M.cH)])
 clo:σ M.fclo=some (.fn 4 [])
 wri:σ M.fwri=some (.fn 5 [(158,M.cS)])
 chg:σ M.fchg=some (.fn 6 [(168,M.cD)])
 rou:σ M.frou=some (.fn 7 [(164,M.cT)])
theorem Mp.At.ext {M:Mp} {σ σ':St} (h:M.At σ) (x:Ext σ σ'):M.At σ' where
 host:=h.host.elim fun a h=>⟨a,x _ _ h.1,h.2⟩
 store:=h.store.elim fun a h=>⟨a,x _ _ h.1,h.2⟩
 design:=h.design.elim fun a h=>⟨a,x _ _ h.1,h.2⟩
 kS:=x _ _ h.kS
 kT:=x _ _ h.kT
 kD:=x _ _ h.kD
 kH:=x _ _ h.kH
 get:=x _ _ h.get
 set:=x _ _ h.set
 now:=x _ _ h.now
 ctx:=x _ _ h.ctx
 clo:=x _ _ h.clo
 wri:=x _ _ h.wri
 chg:=x _ _ h.chg
 rou:=x _ _ h.rou
section
variable {M:Mp} {σ:St} {Q:V→St→Prop} {R:MK→Prop}
theorem Mp.At.a56 (h:M.At σ) (q:Q (.loc M.CP) σ):attrV (.loc M.H) 56 σ Q:=h.host.elim fun _ h=>attr_i h.1 h.2.1 q
theorem Mp.At.a157 (h:M.At σ) (q:Q (.loc M.STR) σ):attrV (.loc M.H) 157 σ Q:=h.host.elim fun _ h=>attr_i h.1 h.2.2.1 q
theorem Mp.At.a61 (h:M.At σ) (q:Q (.loc M.DS) σ):attrV (.loc M.H) 61 σ Q:=h.host.elim fun _ h=>attr_i h.1 h.2.2.2.1 q
theorem Mp.At.m71 (h:M.At σ) (q:R (.fn (.clos M.fnow) [])):methL (.loc M.H) 71 σ R:=h.host.elim fun _ h=>meth_c h.1 h.2.2.2.2.1 rfl q
theorem Mp.At.m58 (h:M.At σ) (q:R (.fn (.clos M.fctx) [])):methL (.loc M.H) 58 σ R:=h.host.elim fun _ h=>meth_c h.1 h.2.2.2.2.2.1 rfl q
theorem Mp.At.m53 (h:M.At σ) (q:R (.fn (.clos M.fclo) [])):methL (.loc M.H) 53 σ R:=h.host.elim fun _ h=>meth_c h.1 h.2.2.2.2.2.2.1 rfl q
theorem Mp.At.m184 (h:M.At σ) (q:R (.fn (.clos M.fwri) [])):methL (.loc M.H) 184 σ R:=h.host.elim fun _ h=>meth_c h.1 h.2.2.2.2.2.2.2.1 rfl q
theorem Mp.At.m50 (h:M.At σ) (q:R (.fn (.clos M.fchg) [])):methL (.loc M.H) 50 σ R:=h.host.elim fun _ h=>meth_c h.1 h.2.2.2.2.2.2.2.2 rfl q
theorem Mp.At.m145 (h:M.At σ) (q:R (.fn (.clos M.fset) [])):methL (.loc M.STR) 145 σ R:=h.store.elim fun _ h=>meth_c h.1 h.2.2.1 rfl q
theorem Mp.At.m79 (h:M.At σ) (q:R (.fn (.clos M.fget) [])):methL (.loc M.STR) 79 σ R:=h.store.elim fun _ h=>meth_c h.1 h.2.1 rfl q
theorem Mp.At.a148 (h:M.At σ) (q:Q (.loc M.SG) σ):attrV (.loc M.STR) 148 σ Q:=h.store.elim fun _ h=>attr_i h.1 h.2.2.2 q
theorem Mp.At.m134 (h:M.At σ) (q:R (.fn (.clos M.frou) [])):methL (.loc M.DS) 134 σ R:=h.design.elim fun _ h=>meth_c h.1 h.2 rfl q
end
structure Fz (Z:St) (L:List Nat) (σ:St):Prop where
 sub:Ext Z σ
 out:∀ l∈L,Z l=none
theorem Fz.step {Z:St} {L:List Nat} {σ σ':St} (h:Fz Z L σ) (b:ButS L σ σ'):Fz Z L σ':=
 ⟨fun i c e=>b i c (fun q=>by rw [h.out i q] at e;cases e) (h.sub i c e),h.out⟩
theorem Fz.less {Z:St} {L L':List Nat} {σ:St} (h:Fz Z L σ) (w:∀ a∈L',a∈L):Fz Z L' σ:=⟨h.sub,fun l hl=>h.out l (w l hl)⟩
section
variable {Γ:Gl} {k:Nat} {f:Fn} {args:List V} {σ Z:St} {Q Q':V→St→Prop} {M:Mp} {T F:Nat} {sv:List (List Int)} {fv:List (Option (List Int))}
seal itemV attrV setAV setIV biV listM methL sliceV iterV inV newV
theorem PtOk.old {n:Nat} {sh:List (Option Nat)} {p:Pt} (h:PtOk n sh p) {sv:List (List Int)} {fv:List (Option (List Int))} (hn:sv.length=n) (hs:shp fv=sh) (hz:n≤10000):p.wh.ok sv∧p.ref≤10000∧∃ w,p.width (wid sv) fv=some w:=by
 refine ⟨?_,h.ref,?_⟩
 ·have:=h.wh
  unfold Wh.ok
  cases e:p.wh with
  | «at» lo=>trivial
  | pick w i s off sgn=>rw [e] at this;exact ⟨by lia,by lia,this.2⟩
 ·unfold Pt.width
  cases e:p.loc with
  | false=>
   have:=h.sig e
   exact ⟨_,wid_of (Ja5 (by lia))⟩
  | true=>
   obtain ⟨w,hw⟩:=h.frm e
   rw [← hs] at hw
   refine gabs fun gG gK=>?_
   obtain ⟨r,hr,_⟩:=shp_some hw
   refine gK ?_
   exact ⟨r.length,by dsimp only;rw [Ja6,hr];rfl⟩
theorem spec_assign (L:Lib Γ) {as:List (Nat×V)} {row:List Int} {ps:List Pt} (z:Fz Z [M.ST,F,T] σ) (hm:M.At Z) (hg:SigsAt Z M.SG (wid sv)) (es:σ M.ST=some (vecsC sv)) (ef:σ F=some (.list (fv.map optVec))) (et:σ T=some (.inst 4 as)) (ea:look as 76=some (.loc F))
  (n1:M.ST≠F) (hs:SOk sv) (hf:FOk fv) (hr:Rok row) (hp:∀ p∈ps,PtOk sv.length (shp fv) p) (hl:ps.length≤100) (htot:tot ps=row.length) (hn:sv.length≤10000)
  (q:∀ σ',ButS [M.ST,F] σ σ'→σ' M.ST=some (vecsC (asgP row ps (sv,fv)).1)→σ' F=some (.list ((asgP row ps (sv,fv)).2.map optVec))→Q .none σ') :
  WC Γ (k+6) (.glob 38) [.loc M.H,.loc T,lvV (tot ps) ps,vecOf row] σ Q:=by
 refine WC_def (n:=10) (L.fns 26 _ _ _ _ rfl) rfl ?_
 have hm0:=hm.ext z.sub
 refine gabs fun gG gK=>?_
 obtain ⟨hs0,h1,h2,h3,h4,h5,h6,h7,h8,h9⟩:=hm0.host
 refine gK ?_
 refine meth_c h1 h6 rfl ?_
 refine ⟨trivial,?_⟩
 refine ⟨⟨_,_,hm0.ctx⟩,?_⟩
 refine (spec_context (k:=0) L hm0.ctx hm0.kH h1 h3 et ea fun X σ1 bs x1 hX eX hbl b1 b2=>?_).more (by lia)
 refine gabs fun gG gK=>?_
 obtain ⟨ss,s1,s2,s3,s4⟩:=(hm0.ext x1).store
 refine gK ?_
 have C:CtxAt σ1 X F M.STR M.fget M.cS M.ST M.SG:=⟨⟨bs,eX,b2,b1⟩,⟨ss,s1,s2,s4⟩,(hm0.ext x1).get,(hm0.ext x1).kS⟩
 refine (spec_resolve (k:=k) L C (x1 _ _ es) (fun r hr=>?_) ((hg.ext z.sub).ext x1) (x1 _ _ ef) (fun p hpp=>(hp p hpp).old rfl rfl hn) hl fun R σ2 x2 hR eR=>?_)
 ·obtain ⟨a,b,c⟩:=hs r hr;exact ⟨a,b,by lia⟩
 conv=>whnf
 have x12:=x1.trans x2
 refine meth_c (x12 _ _ h1) h7 rfl ?_
 refine ⟨trivial,?_⟩
 refine ⟨⟨_,_,(hm0.ext x12).clo⟩,?_⟩
 refine (spec_closed (k:=0) L (hm0.ext x12).clo (x2 _ _ eX) (by lia) ?_).more (by lia)
 conv=>whnf
 have hXn:∀ {l:Nat} {c:Cell},σ l=some c→l≠X:=fun e=>live_ne e hX
 have k1:∀ {l:Nat} {c:Cell} (cc:Cell),σ l=some c→upd σ2 X cc l=some c:=fun cc e=>by rw [upd_ne _ _ (hXn e)];exact x12 _ _ e
 refine ⟨trivial,?_⟩
 refine meth_c (k1 _ h1) h8 rfl ?_
 refine ⟨trivial,?_⟩
 refine ⟨rfl,attr_i (k1 _ et) ea ?_⟩
 refine ⟨⟨_,_,k1 _ hm0.wri⟩,?_⟩
 have hX':X≠R:=fun q=>by subst q;rw [eX] at hR;cases hR
 have hR0:σ R=none:=x1.new hR
 have wok:=wrs_ok (row:=row) (sv:=sv) (ws:=wid sv) (fv:=fv) hp (Je5 htot)
 rw [rowsOf_eq] at eR
 have hwl:∀ (ps:List Pt),(wrs sv (wid sv) fv ps).length≤ps.length:=fun ps=>by
  induction ps with
  | nil=>simp [wrs]
  | cons p ps ih=>
   rw [wrs,Jb2,List.length_cons,Nat.add_comm ps.length]
   refine Jg1 ?_ ih
   split
   ·simp
   ·split
    ·split <;> simp
    ·simp
 refine (spec_write (k:=0) (xs:=wrs sv (wid sv) fv ps) L (k1 _ hm0.wri) (k1 _ hm0.kS) (k1 _ es) (k1 _ ef) (by rw [upd_ne _ _ (Ne.symm hX')];exact eR) n1 (Ne.symm (live_ne es hR0)) (Ne.symm (live_ne ef hR0)) hr.1 (by have:=hr.2.2;lia) ⟨fun r h=>⟨(hs r h).1,by have:=(hs r h).2.2;lia⟩⟩ ⟨fun r h=>⟨(hf r h).1,by have:=(hf r h).2.2;lia⟩⟩
  (fun x hx=>?_) (by have:=hwl ps;lia) fun σ3 b3 e3 e4=>?_).more (by lia)
 ·have:=wok x hx
  exact ⟨this.take,this.ref,this.sig,fun e=>by obtain ⟨w,hw⟩:=this.frm e;obtain ⟨r,hr,_⟩:=shp_some hw;exact ⟨r,hr⟩⟩
 ·conv=>whnf
  rw [fold_wrs hr.1 (sv0:=sv) (ws:=wid sv) (fv0:=fv) (ps:=ps) (by simpa [wid] using hp) (Je5 htot) (s:=(sv,fv)) hs hf rfl rfl] at e3 e4
  refine ⟨trivial,?_⟩
  refine q σ3 (fun i c hi e=>b3 i c (fun q=>hi (by simp [q])) (fun q=>hi (by simp [q])) (k1 _ e)) e3 e4
end
end
section
inductive Dir where | inp | outp | inout
noncomputable def Dir.id:Dir→Nat
 | .inp=>90
 | .outp=>115
 | .inout=>89
structure Port where
 dir:Dir
 w:Nat
 sg:Bool
 loc:Bool
 ref:Nat
noncomputable def Port.v (p:Port):V:=.tup [.str p.dir.id,.int p.w,.bool p.sg,kindV p.loc,.int p.ref]
structure Task where
 num:Nat
 slots:List Nat
 ports:List Port
 turns:Nat
 scope:Int
noncomputable def turnV:V:=.tup [.str 128,.tup [.str 57,.int 2,.int 1,.int 0],.bool false,.none]
noncomputable def sysV (n:Nat):V:=.tup [.str 160,.int n,.tup []]
noncomputable def bodyV (t:Task):V:=.tup [.str 43,.tup (sysV t.num::Jb1 t.turns turnV),.int (-1)]
structure TaskAt (σ:St) (l:Nat) (t:Task):Prop where
 ex:∃ as sl pl,σ l=some (.inst 4 as)∧look as 112=some (.int t.num)∧look as 152=some (.loc sl)∧look as 126=some (.loc pl)∧look as 172=some (.int t.turns)∧look as 63=some (.int t.scope)∧look as 44=some (bodyV t)∧
  σ sl=some (.list (t.slots.map fun (w:Nat)=>V.int (w:Int)))∧σ pl=some (.list (t.ports.map Port.v))
theorem TaskAt.ext {σ σ':St} {l:Nat} {t:Task} (h:TaskAt σ l t) (x:Ext σ σ'):TaskAt σ' l t:=by
 refine gabs fun gG gK=>?_
 obtain ⟨as,sl,pl,a,b,c,d,e,f,g,h,i⟩:=h.ex
 refine gK ?_
 exact ⟨as,sl,pl,x _ _ a,b,c,d,e,f,g,x _ _ h,x _ _ i⟩
section
variable {σ:St} {l:Nat} {t:Task} {Q:V→St→Prop}
theorem TaskAt.a112 (h:TaskAt σ l t) (q:Q (.int t.num) σ):attrV (.loc l) 112 σ Q:=h.ex.elim fun _ h=>h.elim fun _ h=>h.elim fun _ h=>attr_i h.1 h.2.1 q
theorem TaskAt.a172 (h:TaskAt σ l t) (q:Q (.int t.turns) σ):attrV (.loc l) 172 σ Q:=h.ex.elim fun _ h=>h.elim fun _ h=>h.elim fun _ h=>attr_i h.1 h.2.2.2.2.1 q
theorem TaskAt.a63 (h:TaskAt σ l t) (q:Q (.int t.scope) σ):attrV (.loc l) 63 σ Q:=h.ex.elim fun _ h=>h.elim fun _ h=>h.elim fun _ h=>attr_i h.1 h.2.2.2.2.2.1 q
theorem TaskAt.a44 (h:TaskAt σ l t) (q:Q (bodyV t) σ):attrV (.loc l) 44 σ Q:=h.ex.elim fun _ h=>h.elim fun _ h=>h.elim fun _ h=>attr_i h.1 h.2.2.2.2.2.2.1 q
theorem TaskAt.a152 (h:TaskAt σ l t) (q:∀ sl,σ sl=some (.list (t.slots.map fun (w:Nat)=>V.int (w:Int)))→Q (.loc sl) σ):attrV (.loc l) 152 σ Q:=h.ex.elim fun _ h=>h.elim fun _ h=>h.elim fun _ h=>attr_i h.1 h.2.2.1 (q _ h.2.2.2.2.2.2.2.1)
theorem TaskAt.a126x {σ':St} (h:TaskAt σ l t) (x:Ext σ σ') (q:∀ pl,σ pl=some (.list (t.ports.map Port.v))→Q (.loc pl) σ'):attrV (.loc l) 126 σ' Q:=h.ex.elim fun _ h=>h.elim fun _ h=>h.elim fun _ h=>attr_i (x _ _ h.1) h.2.2.2.1 (q _ h.2.2.2.2.2.2.2.2)
theorem TaskAt.a126 (h:TaskAt σ l t) (q:∀ pl,σ pl=some (.list (t.ports.map Port.v))→Q (.loc pl) σ):attrV (.loc l) 126 σ Q:=h.ex.elim fun _ h=>h.elim fun _ h=>h.elim fun _ h=>attr_i h.1 h.2.2.2.1 (q _ h.2.2.2.2.2.2.2.2)
end
structure PoOk (ws:List Nat) (slots:List Nat) (p:Port):Prop where
 w:1≤p.w∧p.w≤20
 ref:p.ref≤10000
 frm:p.loc=true→slots[p.ref]?=some p.w
 sig:p.loc=false→ws[p.ref]?=some p.w
structure TaskOk (ws:List Nat) (t:Task):Prop where
 few:t.ports.length≤20∧t.slots.length≤20∧t.turns≤20∧t.num≤100
 sl:∀ w∈t.slots,1≤w∧w≤20
 po:∀ p∈t.ports,PoOk ws t.slots p
noncomputable def fshape (t:Task):List (Option Nat):=t.slots.map some++Jb1 t.turns none
structure Out where
 ps:List Pt
 i:Nat
noncomputable def Out.v (o:Out):V:=.tup [lvV (tot o.ps) o.ps,.int o.i]
structure OutOk (t:Task) (n:Nat) (sh:List (Option Nat)) (o:Out):Prop where
 i:o.i<t.ports.length
 few:o.ps.length≤20
 tot:1≤tot o.ps∧tot o.ps≤40
 pt:∀ p∈o.ps,PtOk n sh p
noncomputable def outRow (ports:List Port) (sv:List (List Int)) (fv:List (Option (List Int))) (o:Out):List Int:=match ports[o.i]? with
 | some p=>wideL (match p.loc with | true=>(fv.getD p.ref none).getD [] | false=>sv.getD p.ref []) (tot o.ps) p.sg
 | none=>[]
noncomputable def leaveP (ports:List Port) (sv:List (List Int)) (ft:List (Option (List Int))) (outs:List Out) (s:Wd):Wd:=outs.foldl (fun s o=>asgP (outRow ports sv ft o) o.ps s) s
theorem wide_rok {r:List Int} {w:Nat} {s:Bool} (h:Rok r) (h1:1≤w) (h2:w≤50):Rok (wideL r w s):=⟨wide_cells h.1 w s,fun e=>by have:=wide_len r w s;rw [e] at this;simp at this;lia,by rw [wide_len];exact h2⟩
theorem outRow_ok {t:Task} {sv:List (List Int)} {ft:List (Option (List Int))} {n:Nat} {sh:List (Option Nat)} {o:Out} (ht:TaskOk (wid sv) t) (hs:SOk sv) (hf:FOk ft) (hfs:shp ft=fshape t) (ho:OutOk t n sh o) :
  Rok (outRow t.ports sv ft o)∧tot o.ps=(outRow t.ports sv ft o).length∧∃ p r,t.ports[o.i]?=some p∧Rok r∧outRow t.ports sv ft o=wideL r (tot o.ps) p.sg∧(p.loc=true→ft[p.ref]?=some (some r))∧(p.loc=false→sv[p.ref]?=some r)∧p.ref≤10000:=by
 have hi:=ho.i
 have hp:t.ports[o.i]?=some t.ports[o.i]:=Ja5 hi
 have po:=ht.po _ (Jc7 hi)
 revert hp po
 refine gen (t.ports[o.i]) ?_
 intro p
 intros
 have key:∃ r,Rok r∧outRow t.ports sv ft o=wideL r (tot o.ps) p.sg∧(p.loc=true→ft[p.ref]?=some (some r))∧(p.loc=false→sv[p.ref]?=some r):=by
  unfold outRow
  rw [hp]
  dsimp only
  cases e:p.loc with
  | true=>
   have h1:=po.frm e
   have h2:(shp ft)[p.ref]?=some (some p.w):=by
    rw [hfs,fshape,Jb4 (by have:=(Ja3.mp h1).1;simpa using this),Ja8,h1];rfl
   obtain ⟨r,hr,_⟩:=shp_some h2
   exact ⟨r,hf.at hr,by rw [Ja6,hr];rfl,fun _=>hr,fun h=>by cases h⟩
  | false=>
   obtain ⟨r,hr,_⟩:=wid_some (po.sig e)
   exact ⟨r,hs.at hr,by rw [Ja6 (l:=sv),hr];rfl,(fun h=>by cases h),fun _=>hr⟩
 refine gabs fun gG gK=>?_
 obtain ⟨r,h1,h2,h3,h4⟩:=key
 refine gK ?_
 exact ⟨by rw [h2];exact wide_rok h1 ho.tot.1 (by have:=ho.tot.2;lia),by rw [h2,wide_len],p,r,hp,h1,h2,h3,h4,po.ref⟩
theorem asg_shape {row:List Int} {ps:List Pt} {s:Wd} (hr:Cells row) (h1:SOk s.1) (h2:FOk s.2) (hp:∀ p∈ps,PtOk s.1.length (shp s.2) p) (hl:tot ps≤row.length):SOk (asgP row ps s).1∧FOk (asgP row ps s).2∧wid (asgP row ps s).1=wid s.1∧shp (asgP row ps s).2=shp s.2:=
 runs_shape hr (wrsA_ok hp hl) h1 h2
theorem leave_shape {t:Task} {sv:List (List Int)} {ft:List (Option (List Int))} (ht:TaskOk (wid sv) t) (hs:SOk sv) (hf:FOk ft) (hfs:shp ft=fshape t) (outs:List Out) (s:Wd) (h1:SOk s.1) (h2:FOk s.2) (ho:∀ o∈outs,OutOk t s.1.length (shp s.2) o) :
  SOk (leaveP t.ports sv ft outs s).1∧FOk (leaveP t.ports sv ft outs s).2∧wid (leaveP t.ports sv ft outs s).1=wid s.1∧shp (leaveP t.ports sv ft outs s).2=shp s.2:=by
 induction outs generalizing s with
 | nil=>exact ⟨h1,h2,rfl,rfl⟩
 | cons o outs ih=>
  obtain ⟨a,b,_⟩:=outRow_ok ht hs hf hfs (ho o (.head _))
  obtain ⟨x,y,z,w⟩:=asg_shape a.1 h1 h2 (ho o (.head _)).pt (Je5 b)
  obtain ⟨x',y',z',w'⟩:=ih _ x y fun o' h'=>by rw [w,wid_len z];exact ho o' (.tail _ h')
  exact ⟨x',y',z'.trans z,w'.trans w⟩
structure Tp where
 (T CL ns nd:Nat)
noncomputable def Tp.as (t:Tp) (code:Nat) (pc:Int) (fr:Nat):List (Nat×V):=thAs (.int 0) (.loc code) (.int pc) (.loc fr) (.str 169) t.CL t.ns t.nd
noncomputable abbrev Tp.cell (t:Tp) (code:Nat) (pc:Int) (fr:Nat):Cell:=.inst 4 (t.as code pc fr)
noncomputable def callV (code:Nat) (pc:Int) (fr num:Nat) (outs:List Out):V:=.tup [.loc code,.int pc,.loc fr,.int num,.tup (outs.map Out.v)]
end
section
section
variable {Γ:Gl} {k:Nat} {f:Fn} {args:List V} {σ Z:St} {Q Q':V→St→Prop} {M:Mp} {tp:Tp} {sv:List (List Int)} {ft fv:List (Option (List Int))}
theorem len_t {xs:List V} (hl:xs.length≤10000) (q:Q (.int xs.length) σ):biV .len [.tup xs] σ Q:=⟨hl,q⟩
theorem kind_beq (b:Bool):Jc5 (if b then 101 else 146) 101=b:=by cases b <;> rfl
theorem inst_list {a b c:Nat} {as:List (Nat×V)} {xs:List V} (h:σ a=some (.inst c as)) (h2:σ b=some (.list xs)):a≠b:=fun q=>by rw [q,h2] at h;cases h
theorem leave_snoc {ports:List Port} {outs:List Out} {s:Wd} {i:Nat} {o:Out} (h:outs[i]?=some o):leaveP ports sv ft (outs.take (i+1)) s=asgP (outRow ports sv ft o) o.ps (leaveP ports sv ft (outs.take i) s):=by
 rw [take_snoc h,leaveP,Jh8];rfl
seal itemV attrV setAV setIV biV listM methL sliceV iterV inV newV
noncomputable def reE (u1 u2 u3 u4 u5 u6 u7 u8:V) (VL:Nat) (_:Unit):List (Nat×V):=[(106,u1),(165,u2),(136,u3),(121,u4),(76,u5),(112,u6),(116,u7),(134,u8),(175,.loc VL)]
inductive ReI (VL:Nat) (σa:St) (g:Out→V) (outs:List Out) (i:Nat) (_:Unit) (σ':St):Prop
 | mk (b:ButS [VL] σa σ') (v:σ' VL=some (.list ((outs.take i).map g)))
theorem re_step (L:Lib Γ) {t:Task} {tl T FT VL i:Nat} {u3 u4 u5 u6 u7:V} {outs:List Out} {σa σ':St} {Q:SPost} {M:Mp} (hm:M.At σ') (htl:TaskAt σ' tl t) (htk:TaskOk (wid sv) t) {as:List (Nat×V)} (et:σ' T=some (.inst 4 as)) (ea:look as 76=some (.loc FT)) (eft:σ' FT=some (.list (ft.map optVec))) (es:σ' M.ST=some (vecsC sv)) (hs:SOk sv) (hf:FOk ft) (hfs:shp ft=fshape t)
  {o:Out} {n:Nat} {sh:List (Option Nat)} (hoo:OutOk t n sh o) (hx:outs[i]?=some o) (hlen:outs.length≤1000) (I:ReI VL σa (fun o=>vecOf (outRow t.ports sv ft o)) outs i () σ') {Q9:SPost} (q9:Le (invQ (EnvI (reE (.loc M.H) (.loc T) u3 u4 u5 u6 u7 (.loc tl) VL) (ReI VL σa (fun o=>vecOf (outRow t.ports sv ft o)) outs (i+1))) Q) Q9) :
  wpSs (wpS Γ (k+6) [] 9) [.unp [62,181,149,95,127] (.item (.attr (.var 134) 126) (.var 87)),
  .ifs (.cmp .eq (.var 95) (.str 101)) [.asg 174 (.item (.attr (.var 165) 76) (.var 127))] [.asg 174 (.meth (.attr (.var 106) 157) 79 [(.var 127)])],
  .expr (.meth (.var 175) 37 [(.call 72 [(.var 174),(.item (.var 105) (.int 1)),(.var 149)])])]
   (put (put (reE (.loc M.H) (.loc T) u3 u4 u5 u6 u7 (.loc tl) VL ()) 105 (lvV (tot o.ps) o.ps)) 87 (.int o.i)) σ' Q9:=by
 cases I with
 | mk b ev=>
 refine (outRow_ok htk hs hf hfs hoo).2.2.elim fun p h=>h.elim fun r h=>?_
 have oi:o.i≤20:=Ja1 (Jc4 hoo.i) htk.few.1
 refine attr_j (htl.a126 fun pl hpl=>?_)
 refine item_l hpl (Jb0 _) ((Ja8 ..).trans (congrArg (Je7 Port.v) h.1)) ?_ (c62' oi)
 refine ⟨rfl,?_⟩
 let Jq:List (Nat×V)→St→Prop:=fun m σ2=>put (put (put (put (put (put (put (put (reE (.loc M.H) (.loc T) u3 u4 u5 u6 u7 (.loc tl) VL ()) 105 (lvV (tot o.ps) o.ps)) 87 (.int o.i)) 62 (.str p.dir.id)) 181 (.int p.w)) 149 (.bool p.sg)) 95 (kindV p.loc)) 127 (.int p.ref)) 174 (vecOf r)=m∧σ'=σ2
 refine wpSs_join Jq (fun Q9 q9=>?_) (fun m σ2 hJ=>?_)
 ·refine ifB_intro (fun hl=>?_) (fun hl=>?_)
  ·have h4:=h.2.2.2.1 ((kind_beq p.loc).symm.trans hl)
   refine attr_j (attr_i et ea ?_)
   exact item_l eft (Jb0 _) ((Ja8 ..).trans (congrArg (Je7 optVec) h4)) (q9 _ _ _ ⟨rfl,rfl⟩) (c62' h.2.2.2.2.2)
  ·have h5:=h.2.2.2.2.1 ((kind_beq p.loc).symm.trans hl)
   refine attr_j (hm.a157 ?_)
   refine hm.m79 ?_
   refine ⟨trivial,fn_ok hm.get,?_⟩
   exact spec_get (k:=k+5) L hm.get hm.kS es ((Ja8 ..).trans (congrArg (Je7 vecOf) h5)) h.2.2.2.2.2 (q9 _ _ _ ⟨rfl,rfl⟩)
 ·obtain ⟨rfl,rfl⟩:=hJ
  refine meth_l ev ?_
  refine ⟨rfl,?_⟩
  refine item_t (by decide) rfl ?_ (by decide)
  refine spec_extend (k:=k+3) L h.2.1.1 h.2.1.2.1 (Ja1 h.2.1.2.2 (Ja0 rfl)) (Ja1 hoo.tot.2 (Ja0 rfl)) ?_
  refine append_l ev (Ja1 (Je5 (Ja2 _)) (Ja1 (Jg0 ..) (Ja1 hlen (Ja0 rfl)))) ?_
  refine okZ ?_
  refine q9 _ _ _ ⟨(),SubE.app _ _,b.set _ (.inl (.head _)),?_⟩
  rw [take_snoc hx,Jb5,List.map_singleton,h.2.2.1];exact upd_self ..
inductive Re2I (ST FR:Nat) (σ1:St) (s:Nat→Wd) (i:Nat) (_:Unit) (σ':St):Prop
 | mk (b:ButS [ST,FR] σ1 σ') (f1:σ' ST=some (vecsC (s i).1)) (f2:σ' FR=some (.list ((s i).2.map optVec)))
theorem spec_return (L:Lib Γ) {t:Task} {tl FT FR code0 code:Nat} {pc0 pc:Int} {tls cs:List V} {outs:List Out} (z:Fz Z [M.ST,tp.T,tp.CL,FR] σ) (hm:M.At Z) (hg:SigsAt Z M.SG (wid sv))
  (hk:Z M.TK=some (.list tls)) (hkt:tls[t.num]?=some (.loc tl)) (htl:TaskAt Z tl t) (htk:TaskOk (wid sv) t)
  (es:σ M.ST=some (vecsC sv)) (eft:σ FT=some (.list (ft.map optVec))) (efr:σ FR=some (.list (fv.map optVec))) (et:σ tp.T=some (tp.cell code0 pc0 FT)) (ec:σ tp.CL=some (.list (cs++[callV code pc FR t.num outs])))
  (n1:M.ST≠FR) (n2:tp.CL≠M.ST) (n3:tp.CL≠FT) (n4:tp.CL≠FR) (hcs:cs.length≤1000) (hs:SOk sv) (hf:FOk ft) (hfv:FOk fv) (hfs:shp ft=fshape t) (ho:∀ o∈outs,OutOk t sv.length (shp fv) o) (hlen:outs.length≤1000) (hn:sv.length≤10000)
  (q:∀ σ',ButS [M.ST,tp.T,tp.CL,FR] σ σ'→σ' M.ST=some (vecsC (leaveP t.ports sv ft outs (sv,fv)).1)→σ' FR=some (.list ((leaveP t.ports sv ft outs (sv,fv)).2.map optVec))→σ' tp.T=some (tp.cell code pc FR)→σ' tp.CL=some (.list cs)→Q .none σ') :
  WC Γ (k+7) (.glob 132) [.loc M.H,.loc tp.T] σ Q:=by
 refine WC_def (n:=10) (L.fns 25 _ _ _ _ rfl) rfl ?_
 have g0:[M.ST,tp.T,tp.CL,FR].Nodup:=Jb6.mpr ⟨nmc (Ne.symm (inst_list et es)) (nmc (Ne.symm n2) (nm1 n1)),Jb6.mpr ⟨nmc (inst_list et ec) (nm1 (inst_list et efr)),Jb6.mpr ⟨nm1 n4,List.pairwise_singleton _ _⟩⟩⟩
 refine attr_j (attr_i et rfl ?_)
 refine meth_l ec ?_
 refine ⟨Ji4 _,?_⟩
 refine pop_l ec (Ja1 hcs (Ja0 rfl)) ?_
 refine ⟨rfl,?_⟩
 have b1:ButS [tp.CL] σ (upd σ tp.CL (.list cs)):=(ButS.refl _ _).set _ (.inl (.head _))
 have c1:upd σ tp.CL (.list cs) tp.CL=some (.list cs):=upd_self ..
 show wpSs _ _ _ (upd σ tp.CL (.list cs)) _
 revert b1 c1
 refine gen (upd σ tp.CL (.list cs)) ?_
 intro σa
 intros
 have z1:=z.step (b1.wider fun a ha=>Ja4.mp ha▸.tail _ (.tail _ (.head _)))
 have es1:=b1 _ _ (nm1 (Ne.symm n2)) es
 have et1:=b1 _ _ (nm1 (inst_list et ec)) et
 have er1:=b1 _ _ (nm1 (Ne.symm n4)) efr
 have ef1:=b1 _ _ (nm1 (Ne.symm n3)) eft
 have hm1:=hm.ext z1.sub
 refine attr_j (hm1.a61 ?_)
 refine hm1.m134 ?_
 refine ⟨trivial,fn_ok hm1.rou,?_⟩
 refine spec_routine (k:=k+5) L hm1.rou hm1.kT (z1.sub _ _ hk) hkt (Ja1 htk.few.2.2.2 (Ja0 rfl)) ?_
 refine fun VL hVL=>?_
 have xV:Ext σa (upd σa VL (.list [])):=(Ext.refl _).upd hVL _
 have eV:upd σa VL (.list []) VL=some (.list []):=upd_self ..
 have gV:=nd_snoc g0 (not_live (lvc es1 (lvc et1 (lvc c1 (lvc er1 lv0)))) hVL)
 have g:[[M.ST],[tp.T],[tp.CL],[FR],[VL]].flatten.Nodup:=gV
 revert xV eV
 refine gen (upd σa VL (.list [])) ?_
 intro σb
 intros
 refine ⟨rfl,?_⟩
 refine iter_t ?_
 refine wpFor_map (reE (.loc M.H) (.loc tp.T) (.loc code) (.int pc) (.loc FR) (.int t.num) (.tup (outs.map Out.v)) (.loc tl) VL) (ReI VL σa (fun o=>vecOf (outRow t.ports sv ft o)) outs) () ⟨xV.buts,eV⟩ (fun i o b σ' hx I=>?_) (fun b σ' I=>?_)
 ·have b2:ButS [VL] σa σ':=I.rec fun b _=>b
  have x2:Ext Z σ':=fun l c e=>b2 l c (nm1 (live_ne (z1.sub _ _ e) hVL)) (z1.sub _ _ e)
  refine ⟨trivial,_,rfl,fun Q9 q9=>?_⟩
  exact re_step (k:=k) L (hm.ext x2) (htl.ext x2) htk (b2 _ _ (nm1 (live_ne et1 hVL)) et1) rfl (b2 _ _ (nm1 (live_ne ef1 hVL)) ef1) (b2 _ _ (nm1 (live_ne es1 hVL)) es1) hs hf hfs (ho o (Ja9 hx)) hx hlen I q9
 cases I with
 | mk b2 ev=>
 rw [Je2] at ev
 have b2:ButS (sel [[M.ST],[tp.T],[tp.CL],[FR],[VL]] [4]) σa σ':=b2
 have et2:=kp g [4] b2 1 (.head _) rfl et1
 refine ⟨trivial,?_⟩
 refine setA_j et2 ?_
 refine setA_j (upd_self ..) ?_
 refine setA_j (upd_self ..) ?_
 have b3:ButS (sel [[M.ST],[tp.T],[tp.CL],[FR],[VL]] [1]) σ' (upd (upd (upd σ' tp.T (.inst 4 (put (tp.as code0 pc0 FT) 54 (.loc code)))) tp.T (.inst 4 (put (put (tp.as code0 pc0 FT) 54 (.loc code)) 121 (.int pc)))) tp.T (tp.cell code pc FR)):=(((ButS.refl _ _).set _ (.inl (.head _))).set _ (.inl (.head _))).set _ (.inl (.head _))
 have t3:upd (upd (upd σ' tp.T (.inst 4 (put (tp.as code0 pc0 FT) 54 (.loc code)))) tp.T (.inst 4 (put (put (tp.as code0 pc0 FT) 54 (.loc code)) 121 (.int pc)))) tp.T (tp.cell code pc FR) tp.T=some (tp.cell code pc FR):=upd_self ..
 show wpSs _ _ _ (upd (upd (upd σ' tp.T (.inst 4 (put (tp.as code0 pc0 FT) 54 (.loc code)))) tp.T (.inst 4 (put (put (tp.as code0 pc0 FT) 54 (.loc code)) 121 (.int pc)))) tp.T (tp.cell code pc FR)) _
 revert b3 t3
 refine gen (upd (upd (upd σ' tp.T (.inst 4 (put (tp.as code0 pc0 FT) 54 (.loc code)))) tp.T (.inst 4 (put (put (tp.as code0 pc0 FT) 54 (.loc code)) 121 (.int pc)))) tp.T (tp.cell code pc FR)) ?_
 intro σ1
 intros
 have k3:=@kp _ g _ _ [1] b3
 have b13:=(kpB g [4] [4,1] b2 rfl).trans (kpB g [1] [4,1] b3 rfl)
 have b03:ButS [M.ST,tp.T,tp.CL,FR] σ σ1:=fun l c hl e=>b13 l c (nmc (live_ne (b1 l c (fun q=>hl (Ja4.mp q▸.tail _ (.tail _ (.head _)))) e) hVL) (nm1 fun q=>hl (q▸.tail _ (.head _)))) (b1 l c (fun q=>hl (Ja4.mp q▸.tail _ (.tail _ (.head _)))) e)
 have hlz:(outs.map Out.v).length≤1000:=(Ja2 _).symm▸hlen
 refine ⟨rfl,?_⟩
 refine len_t (Ja1 hlz (Ja0 rfl)) ?_
 refine iter_r (Jb0 _) (Jf6.mpr (Ja1 hlz (Ja0 rfl))) ?_
 refine wpFor_map (xs:=Je1 (outs.map Out.v).length) (reE (.loc M.H) (.loc tp.T) (.loc code) (.int pc) (.loc FR) (.int t.num) (.tup (outs.map Out.v)) (.loc tl) VL) (Re2I M.ST FR σ1 fun i=>leaveP t.ports sv ft (outs.take i) (sv,fv)) () ⟨ButS.refl _ _,k3 0 (.head _) rfl (kp g [4] b2 0 (.head _) rfl es1),k3 3 (.head _) rfl (kp g [4] b2 3 (.head _) rfl er1)⟩ (fun i j b σ2 hx I=>?_) (fun b σ2 I=>?_)
 ·have hj:=range_some hx
  have hi:i<outs.length:=Ja2 (as:=outs) Out.v▸hj.2
  cases I with
  | mk b4 f1 f2=>
  have hgo:=Ja5 hi
  have hoo:=ho _ (Jc7 hi)
  revert hgo hoo
  refine gen (outs[i]) ?_
  intro o
  intros
  have y:=leave_shape htk hs hf hfs (outs.take i) (sv,fv) hs hfv fun o' h'=>ho o' (Je6 h')
  have r:=outRow_ok htk hs hf hfs hoo
  have hi6:i<1000:=Jc8 hi hlen
  have b4':ButS (sel [[M.ST],[tp.T],[tp.CL],[FR],[VL]] [0,3]) σ1 σ2:=b4
  have k4:=@kp _ g _ _ [0,3] b4'
  refine ⟨trivial,_,rfl,fun Q9 q9=>?_⟩
  refine item_t (Jb0 _) (hj.1▸(Ja8 ..).trans (congrArg (Je7 Out.v) hgo)) ?_ (hj.1▸c62 hi6)
  refine item_t (by decide) rfl ?_ (by decide)
  refine item_l (k4 4 (.head _) rfl (k3 4 (.head _) rfl ev)) (Jb0 _) (hj.1▸(Ja8 ..).trans (congrArg (Je7 _) hgo)) ?_ (hj.1▸c62 hi6)
  refine spec_assign (k:=k) L (((z.step b03).step (kpB g [0,3] [0,1,2,3] b4' rfl)).less (sub_sel (gs:=[[M.ST],[tp.T],[tp.CL],[FR],[VL]]) [0,3,1] [0,1,2,3] rfl)) hm (y.2.2.1.symm▸hg) f1 f2 (k4 1 (.head _) rfl t3) rfl n1 y.1 y.2.1 r.1 (by rw [wid_len y.2.2.1,y.2.2.2];exact hoo.pt) (Ja1 hoo.few (Ja0 rfl)) r.2.1 (wid_len y.2.2.1▸hn) fun σ3 b5 f3 f4=>?_
  refine okZ ?_
  exact q9 _ _ _ ⟨(),SubE.app _ _,b4.trans b5,leave_snoc hgo▸f3,leave_snoc hgo▸f4⟩
 ·cases I with
  | mk b4 f1 f2=>
  rw [Jd4,Ja2,Je2] at f1 f2
  have b4':ButS (sel [[M.ST],[tp.T],[tp.CL],[FR],[VL]] [0,3]) σ1 σ2:=b4
  have k4:=@kp _ g _ _ [0,3] b4'
  exact ⟨trivial,q σ2 (b03.trans (kpB g [0,3] [0,1,2,3] b4' rfl)) f1 f2 (k4 1 (.head _) rfl t3) (k4 2 (.head _) rfl (k3 2 (.head _) rfl (kp g [4] b2 2 (.head _) rfl c1)))⟩
end
end
section
noncomputable def mkTo (σ:St) (mk CD:Nat) (s:Int) (r:List V):St:=upd (upd σ mk (.inst 3 [(152,.int s),(54,.loc CD)])) CD (.list r)
theorem mkTo_mk {σ:St} {mk CD:Nat} {s:Int} {r:List V} (h:mk≠CD):mkTo σ mk CD s r mk=some (.inst 3 [(152,.int s),(54,.loc CD)]):=by rw [mkTo,upd_ne _ _ h,upd_self]
theorem mkTo_cd {σ:St} {mk CD:Nat} {s:Int} {r:List V}:mkTo σ mk CD s r CD=some (.list r):=by rw [mkTo,upd_self]
theorem mkTo_list {σ:St} {mk CD:Nat} {s:Int} {r r':List V}:upd (mkTo σ mk CD s r) CD (.list r')=mkTo σ mk CD s r':=by rw [mkTo,mkTo,upd_upd]
theorem upd_swap {σ:St} {a b:Nat} {c d:Cell} (h:a≠b):upd (upd σ a c) b d=upd (upd σ b d) a c:=by
 funext i
 by_cases h1:i=a
 ·subst h1;rw [upd_ne _ _ h,upd_self,upd_self]
 ·by_cases h2:i=b
  ·subst h2;rw [upd_self,upd_ne _ _ h1,upd_self]
  ·rw [upd_ne _ _ h2,upd_ne _ _ h1,upd_ne _ _ h1,upd_ne _ _ h2]
theorem mkTo_slot {σ:St} {mk CD:Nat} {s s':Int} {r:List V} (h:mk≠CD):upd (mkTo σ mk CD s r) mk (.inst 3 [(152,.int s'),(54,.loc CD)])=mkTo σ mk CD s' r:=by
 rw [mkTo,mkTo,upd_swap h,upd_upd,upd_swap (Ne.symm h)]
section
variable {Γ:Gl} {k:Nat} {σ:St} {Q:V→St→Prop} {mk CD:Nat} {s:Int} {r:List V}
seal itemV attrV setAV setIV biV listM methL sliceV iterV inV newV
theorem spec_emit (L:Lib Γ) {v:V} (h:mk≠CD) (hl:r.length≤9000) (q:Q (.int r.length) (mkTo σ mk CD s (r++[v]))):WC Γ (k+1) (.meth 3 67) [.loc mk,v] (mkTo σ mk CD s r) Q:=by
 refine WC_def (n:=10) (L.fns 1 _ _ _ _ rfl) rfl ?_
 refine ⟨rfl,attr_i (mkTo_mk h) rfl ?_⟩
 refine meth_l mkTo_cd ?_
 refine ⟨rfl,?_⟩
 refine append_l mkTo_cd (by lia) ?_
 conv=>whnf
 rw [mkTo_list]
 refine ⟨trivial,?_⟩
 refine ⟨rfl,attr_i (mkTo_mk h) rfl ?_⟩
 refine len_l mkTo_cd (by simp;lia) ?_
 conv=>whnf
 have e:(((r++[v]).length:Nat):Int) - 1=r.length:=by simp
 rw [e]
 exact q
theorem spec_here (L:Lib Γ) (h:mk≠CD) (hl:r.length≤9000) (q:Q (.int r.length) (mkTo σ mk CD s r)):WC Γ (k+1) (.meth 3 82) [.loc mk] (mkTo σ mk CD s r) Q:=by
 refine WC_def (n:=10) (L.fns 2 _ _ _ _ rfl) rfl ?_
 refine ⟨rfl,attr_i (mkTo_mk h) rfl ?_⟩
 refine len_l mkTo_cd (by lia) ?_
 exact q
theorem spec_new_slot (L:Lib Γ) (h:mk≠CD) (q:Q (.int s) (mkTo σ mk CD (s+1) r)):WC Γ (k+1) (.meth 3 111) [.loc mk] (mkTo σ mk CD s r) Q:=by
 refine WC_def (n:=10) (L.fns 3 _ _ _ _ rfl) rfl ?_
 refine ⟨rfl,attr_i (mkTo_mk h) rfl ?_⟩
 refine ⟨rfl,attr_i (mkTo_mk h) rfl ?_⟩
 refine setA_i (mkTo_mk h) (Ja0 rfl) ?_
 conv=>whnf
 have e:upd (mkTo σ mk CD s r) mk (Cell.inst 3 (put [(152,V.int s),(54,V.loc CD)] 152 (V.int (s+1))))=mkTo σ mk CD (s+1) r:=mkTo_slot h
 rw [e]
 exact q
theorem spec_aim_enter (L:Lib Γ) {a:Nat} {x y:V} (h:mk≠CD) (hl:r.length≤9000) (ha:r[a]?=some (.tup [.str 69,x,y])) (q:Q .none (mkTo σ mk CD s (r.set a (.tup [.str 69,x,.int r.length])))):WC Γ (k+2) (.meth 3 35) [.loc mk,.int a] (mkTo σ mk CD s r) Q:=by
 refine WC_def (n:=10) (L.fns 4 _ _ _ _ rfl) rfl ?_
 have hlt:=(Ja3.mp ha).1
 refine ⟨rfl,attr_i (mkTo_mk h) rfl ?_⟩
 refine item_l mkTo_cd (by lia) ha ?_ (by lia)
 refine item_t (by decide) rfl ?_
 refine .t rfl ?_
 refine item_t (by decide) rfl ?_
 refine meth_m (mkTo_mk h) rfl rfl ?_
 refine ⟨trivial,?_⟩
 refine ⟨trivial,spec_here L h hl ?_⟩
 refine ⟨rfl,attr_i (mkTo_mk h) rfl ?_⟩
 refine setI_l mkTo_cd (by lia) (by lia) (by lia) ?_
 conv=>whnf
 rw [mkTo_list]
 exact q
theorem spec_aim_again (L:Lib Γ) {a:Nat} {x y:V} (h:mk≠CD) (hl:r.length≤9000) (ha:r[a]?=some (.tup [.str 34,x,y])) (q:Q .none (mkTo σ mk CD s (r.set a (.tup [.str 34,x,.int r.length])))):WC Γ (k+2) (.meth 3 35) [.loc mk,.int a] (mkTo σ mk CD s r) Q:=by
 refine WC_def (n:=10) (L.fns 4 _ _ _ _ rfl) rfl ?_
 have hlt:=(Ja3.mp ha).1
 refine ⟨rfl,attr_i (mkTo_mk h) rfl ?_⟩
 refine item_l mkTo_cd (by lia) ha ?_ (by lia)
 refine item_t (by decide) rfl ?_
 refine .f rfl ?_
 conv=>whnf
 have sl:∀ {Q:V→St→Prop} {σ},Q (.tup [.str 34,x]) σ→sliceV (.tup [.str 34,x,y]) none (some (-1)) σ Q:=fun q=>by
  unfold sliceV;exact ⟨rfl,rfl,by simp,by simp,q⟩
 refine sl ?_
 refine meth_m (mkTo_mk h) rfl rfl ?_
 refine ⟨trivial,?_⟩
 refine ⟨trivial,spec_here L h hl ?_⟩
 refine ⟨rfl,by simp,by simp,by simp,?_⟩
 refine ⟨rfl,attr_i (mkTo_mk h) rfl ?_⟩
 refine setI_l mkTo_cd (by lia) (by lia) (by lia) ?_
 conv=>whnf
 rw [mkTo_list]
 exact q
theorem spec_make_none (L:Lib Γ) (q:Q .none σ):WC Γ (k+1) (.meth 3 107) [.loc mk,.none] σ Q:=by
 refine WC_def (n:=10) (L.fns 9 _ _ _ _ rfl) rfl ?_
 refine .t rfl ?_
 exact q
theorem spec_repetition (L:Lib Γ) (h:mk≠CD) (hl:r.length≤8000)
  (q:Q .none (mkTo σ mk CD (s+1) (r++[.tup [.str 166,.int s,.tup [.str 57,.int 2,.int 1,.int 0],.bool false],.tup [.str 34,.int s,.int (r.length+3:Nat)],.tup [.str 92,.int (r.length+1:Nat)]]))):WC Γ (k+3) (.meth 3 129) [.loc mk,turnV] (mkTo σ mk CD s r) Q:=by
 refine WC_def (n:=10) (L.fns 5 _ _ _ _ rfl) rfl ?_
 refine meth_m (mkTo_mk h) rfl rfl ?_
 refine ⟨trivial,?_⟩
 refine ⟨trivial,(spec_new_slot (k:=0) L h ?_).more (by lia)⟩
 refine meth_m (mkTo_mk h) rfl rfl ?_
 refine ⟨trivial,?_⟩
 refine item_t (by decide) rfl ?_
 refine item_t (by decide) rfl ?_
 refine ⟨trivial,(spec_emit (k:=0) L h (by lia) ?_).more (by lia)⟩
 refine ⟨trivial,?_⟩
 refine meth_m (mkTo_mk h) rfl rfl ?_
 refine ⟨trivial,?_⟩
 refine ⟨trivial,(spec_emit (k:=0) L h (by simp;lia) ?_).more (by lia)⟩
 refine meth_m (mkTo_mk h) rfl rfl ?_
 refine ⟨trivial,?_⟩
 refine item_t (by decide) rfl ?_
 refine ⟨trivial,(spec_make_none (k:=0) L ?_).more (by lia)⟩
 refine ⟨trivial,?_⟩
 refine meth_m (mkTo_mk h) rfl rfl ?_
 refine ⟨trivial,?_⟩
 refine ⟨trivial,(spec_emit (k:=0) L h (by simp;lia) ?_).more (by lia)⟩
 refine ⟨trivial,?_⟩
 refine meth_m (mkTo_mk h) rfl rfl ?_
 refine ⟨trivial,?_⟩
 refine ⟨trivial,(spec_aim_again (k:=0) L h (by simp;lia) (x:=.int s) (y:=.int (-1)) (by simp) ?_).more (by lia)⟩
 refine ⟨trivial,?_⟩
 conv=>whnf
 simpa using q
end
end
section
section
variable {Γ:Gl} {k:Nat} {σ:St} {Q:V→St→Prop} {mk CD:Nat} {s:Int} {r:List V}
seal itemV attrV setAV setIV biV listM methL sliceV iterV inV newV
theorem in_t {a:V} {xs:List V} {b:Bool} {P:Bool→Prop} (h1:isD 6 a=true) (h2:xs.all (isD 6)=true) (h3:(xs.any fun x=>veq x a)=b) (q:P b):inV a (.tup xs) σ P:=by
 unfold inV;exact ⟨h1,h2,by rw [h3];exact q⟩
noncomputable def repRows (s:Int) (n:Nat):List V:=[.tup [.str 166,.int s,.tup [.str 57,.int 2,.int 1,.int 0],.bool false],.tup [.str 34,.int s,.int (n+3:Nat)],.tup [.str 92,.int (n+1:Nat)]]
theorem spec_looping (L:Lib Γ) (h:mk≠CD) (hl:r.length≤8000) (q:Q .none (mkTo σ mk CD (s+1) (r++repRows s r.length))):WC Γ (k+4) (.meth 3 214) [.loc mk,turnV] (mkTo σ mk CD s r) Q:=by
 refine WC_def (n:=10) (L.fns 10 _ _ _ _ rfl) rfl ?_
 refine item_t (by decide) rfl ?_
 refine .f rfl ?_
 refine item_t (by decide) rfl ?_
 refine .f rfl ?_
 refine item_t (by decide) rfl ?_
 refine .t rfl ?_
 refine meth_m (mkTo_mk h) rfl rfl ?_
 refine ⟨trivial,?_⟩
 refine ⟨trivial,spec_repetition L h hl ?_⟩
 refine ⟨trivial,?_⟩
 exact q
theorem veq_str {i j:Nat} (h:(sy i == sy j)=false):veq (.str i) (.str j)=false:=by
 unfold veq pd
 simp only [PyData.eqv]
 simpa using h
theorem spec_make_turn (L:Lib Γ) (h:mk≠CD) (hl:r.length≤8000) (q:Q .none (mkTo σ mk CD (s+1) (r++repRows s r.length))):WC Γ (k+5) (.meth 3 107) [.loc mk,turnV] (mkTo σ mk CD s r) Q:=by
 refine WC_def (n:=10) (L.fns 9 _ _ _ _ rfl) rfl ?_
 refine .f rfl ?_
 refine item_t (by decide) rfl ?_
 refine .f rfl ?_
 refine .f rfl ?_
 refine .f rfl ?_
 refine .f rfl ?_
 refine .f rfl ?_
 refine .f rfl ?_
 refine in_t (b:=true) (by decide +kernel) (by decide +kernel) (by decide +kernel) ?_
 refine .t rfl ?_
 refine meth_m (mkTo_mk h) rfl rfl ?_
 refine ⟨trivial,?_⟩
 refine ⟨trivial,spec_looping L h hl ?_⟩
 refine ⟨trivial,?_⟩
 exact q
theorem spec_make_sys (L:Lib Γ) {n:Nat} (h:mk≠CD) (hl:r.length≤8000) (q:Q .none (mkTo σ mk CD s (r++[sysV n]))):WC Γ (k+2) (.meth 3 107) [.loc mk,sysV n] (mkTo σ mk CD s r) Q:=by
 refine WC_def (n:=10) (L.fns 9 _ _ _ _ rfl) rfl ?_
 refine .f rfl ?_
 refine item_t (by decide) rfl ?_
 refine .f rfl ?_
 refine .f rfl ?_
 refine .f rfl ?_
 refine .f rfl ?_
 refine .f rfl ?_
 refine .f rfl ?_
 refine in_t (b:=false) (by decide +kernel) (by decide +kernel) (by decide +kernel) ?_
 refine .f rfl ?_
 refine in_t (b:=false) (by decide +kernel) (by decide +kernel) (by decide +kernel) ?_
 refine .f rfl ?_
 refine meth_m (mkTo_mk h) rfl rfl ?_
 refine ⟨trivial,?_⟩
 refine ⟨trivial,spec_emit (k:=k) L h (Ja1 hl (Ja0 rfl)) ?_⟩
 refine ⟨trivial,?_⟩
 exact q
theorem spec_scoped (L:Lib Γ) {sc:Int} (h:mk≠CD) (hl:r.length≤8000) (q1:sc<0→Q (.int (-1)) (mkTo σ mk CD s r)) (q2:0≤sc→Q (.int r.length) (mkTo σ mk CD s (r++[.tup [.str 69,.int sc,.int (-1)]]))):WC Γ (k+2) (.meth 3 140) [.loc mk,.int sc] (mkTo σ mk CD s r) Q:=by
 refine WC_def (n:=10) (L.fns 6 _ _ _ _ rfl) rfl ?_
 refine ifB_intro (fun c=>?_) (fun c=>?_)
 ·exact q1 (of_decide_eq_true c)
 ·refine meth_m (mkTo_mk h) rfl rfl ?_
  refine ⟨trivial,?_⟩
  refine ⟨trivial,spec_emit (k:=k) L h (Ja1 hl (Ja0 rfl)) ?_⟩
  exact q2 (Int.not_lt.mp (of_decide_eq_false c))
structure Rows (num:Nat) (r:List V):Prop where
 data:r.all (isD 6)=true
 mem:sysV num∈r
theorem repRows_data (s:Int) (n:Nat):(repRows s n).all (isD 6)=true:=rfl
theorem sysV_data (n:Nat):isD 6 (sysV n)=true:=rfl
noncomputable def blE (mk:Nat) (t:Task):List (Nat×V):=[(143,.loc mk),(138,bodyV t),(114,.int (-1))]
structure BlI (σ:St) (mk CD:Nat) (s:Int) (r:List V) (num i:Nat) (x:List V) (σ':St):Prop where
 e:σ'=mkTo σ mk CD (s+((i - 1:Nat):Int)) (r++x)
 d:x.all (isD 6)=true
 len:x.length≤3 * i
 mem:1≤i→sysV num∈x
 nil:i=0→x=[]
theorem bl_len {r x:List V} {i:Nat} (hl:r.length≤1000) (hx:x.length≤3 * i) (hi:i≤21):(r++x).length≤8000:=
 (Jb2 (as:=r) (bs:=x)).symm▸Ja1 (Jg1 hl (Ja1 hx (Nat.mul_le_mul_left 3 hi))) (Ja0 rfl)
theorem bl_map (t:Task):sysV t.num::Jb1 t.turns turnV=(Je1 (t.turns+1)).map fun i=>cond (Jc5 i 0) (sysV t.num) turnV:=by
 rw [List.range_succ_eq_map,List.map_cons,Jh9]
 refine congrArg (fun l=>sysV t.num::l) (Jh2 fun j=>?_)
 rw [Ja8,List.getElem?_replicate]
 by_cases h:j<t.turns
 ·rw [if_pos h,List.getElem?_range h];rfl
 ·rw [if_neg h,Jf5 (Jd4.symm▸Je3 h)];rfl
theorem spec_block (L:Lib Γ) {t:Task} (h:mk≠CD) (hl:r.length≤1000) (ht:t.turns≤20) (q:∀ x,Rows t.num x→x.length≤100→Q .none (mkTo σ mk CD (s+t.turns) (r++x))):WC Γ (k+6) (.meth 3 43) [.loc mk,bodyV t] (mkTo σ mk CD s r) Q:=by
 refine WC_def (n:=10) (L.fns 8 _ _ _ _ rfl) rfl ?_
 refine meth_m (mkTo_mk h) rfl rfl ?_
 refine ⟨trivial,?_⟩
 refine item_t (by decide) rfl ?_
 refine ⟨trivial,spec_scoped (k:=k+3) L h (Ja1 hl (Ja0 rfl)) (fun _=>?_) (fun c=>absurd c (by decide))⟩
 refine ⟨rfl,?_⟩
 refine item_t (by decide) rfl ?_
 refine iter_t ?_
 rw [bl_map]
 refine wpFor_map (β:=List V) (fun _=>blE mk t) (fun i x σ'=>BlI σ mk CD s r t.num i x σ') [] ⟨by rw [Jd3];exact congrArg (fun z=>mkTo σ mk CD z r) (Int.add_zero s).symm,rfl,Ji4 _,fun h=>(by cases h),fun _=>rfl⟩ (fun i y x σ' hy I=>?_) (fun x σ' I=>?_)
 ·obtain ⟨hi,e⟩:=Ja3.mp hy
  rw [List.getElem_range] at e
  cases e
  have hi:i≤t.turns:=Jg6 (by rw [Jd4] at hi;exact hi)
  have hb:=bl_len hl I.len (Jg3 (Ja1 hi ht))
  obtain ⟨rfl,hx1,hx2,hx3,hx0⟩:=I
  refine ⟨trivial,_,rfl,fun Q9 q9=>?_⟩
  cases i with
  | zero=>
   cases hx0 rfl
   refine meth_m (mkTo_mk h) rfl rfl ?_
   refine ⟨trivial,?_⟩
   refine ⟨trivial,spec_make_sys (k:=k+3) L h hb ?_⟩
   refine ⟨trivial,?_⟩
   exact q9 _ _ _ ⟨[sysV t.num],SubE.app _ _,by rw [Jd3],(Bool.and_true _).trans (sysV_data t.num),Ja0 rfl,fun _=>.head _,fun h=>(by cases h)⟩
  | succ i=>
   refine meth_m (mkTo_mk h) rfl rfl ?_
   refine ⟨trivial,?_⟩
   refine ⟨trivial,spec_make_turn (k:=k) L h hb ?_⟩
   refine ⟨trivial,?_⟩
   exact q9 _ _ _ ⟨x++repRows (s+i) (r++x).length,SubE.app _ _,by rw [Jd9,Int.add_assoc];rfl,by rw [List.all_append,hx1,repRows_data];rfl,(Jb2 (as:=x)).symm▸Jh0 hx2 3,fun _=>Jd2 _ (hx3 (Ji0 _)),fun h=>(by cases h)⟩
 ·have hn:(Je1 (t.turns+1)).length=t.turns+1:=Jd4
  rw [hn] at I
  obtain ⟨rfl,hx1,hx2,hx3,hx0⟩:=I
  refine ⟨trivial,?_⟩
  refine meth_m (mkTo_mk h) rfl rfl ?_
  refine ⟨trivial,?_⟩
  refine item_t (by decide) rfl ?_
  refine ⟨trivial,?_⟩
  refine WC_def (n:=10) (L.fns 7 _ _ _ _ rfl) rfl ?_
  refine .f rfl ?_
  refine ⟨trivial,?_⟩
  exact q x ⟨hx1,hx3 (Ji0 _)⟩ (Ja1 hx2 (Ja1 (Nat.mul_le_mul_left 3 (Je9 ht)) (Ja0 rfl)))
theorem spec_make_block (L:Lib Γ) {t:Task} (h:mk≠CD) (hl:r.length≤1000) (ht:t.turns≤20) (q:∀ x,Rows t.num x→x.length≤100→Q .none (mkTo σ mk CD (s+t.turns) (r++x))):WC Γ (k+7) (.meth 3 107) [.loc mk,bodyV t] (mkTo σ mk CD s r) Q:=by
 refine WC_def (n:=10) (L.fns 9 _ _ _ _ rfl) rfl ?_
 refine .f rfl ?_
 refine item_t (by decide) rfl ?_
 refine .f rfl ?_
 refine .f rfl ?_
 refine .f rfl ?_
 refine .f rfl ?_
 refine .t rfl ?_
 refine meth_m (mkTo_mk h) rfl rfl ?_
 refine ⟨trivial,?_⟩
 refine ⟨trivial,spec_block L h hl ht fun x h1 h2=>?_⟩
 refine ⟨trivial,?_⟩
 exact q x h1 h2
end
end
section
noncomputable def CodeAt (σ:St) (CD num:Nat):Prop:=∃ r,σ CD=some (.list r)∧Rows num r∧r.length≤200
theorem CodeAt.ext {σ σ':St} {CD num:Nat} (h:CodeAt σ CD num) (x:Ext σ σ'):CodeAt σ' CD num:=by obtain ⟨r,a,b⟩:=h;exact ⟨r,x _ _ a,b⟩
noncomputable def CpOk (Z:St) (es:List (Int×V)) (ts:List Task):Prop:=∀ (n:Nat) (v:V),ilook es n=some v→∃ t CD,ts[n]?=some t∧v=.tup [.loc CD,.int (t.slots.length+t.turns:Nat)]∧CodeAt Z CD n
theorem CpOk.ext {Z Z':St} {es:List (Int×V)} {ts:List Task} (h:CpOk Z es ts) (x:Ext Z Z'):CpOk Z' es ts:=fun n v e=>by obtain ⟨t,CD,a,b,c⟩:=h n v e;exact ⟨t,CD,a,b,c.ext x⟩
section
variable {Γ:Gl} {k:Nat} {σ Z:St} {Q:V→St→Prop} {M:Mp}
theorem notin_d {l:Nat} {es:List (Int×V)} {i:Int} {P:Bool→Prop} (e:σ l=some (.dict es)) (q:P (ilook es i).isSome):inV (.int i) (.loc l) σ P:=by
 unfold inV;exact ⟨es,e,q⟩
seal itemV attrV setAV setIV biV listM methL sliceV iterV inV
theorem spec_compile (L:Lib Γ) {t:Task} {tl:Nat} {sc:Int} (ht:TaskAt σ tl t) (hf:t.slots.length≤20∧t.turns≤20)
  (q:∀ σ' CD,Ext σ σ'→σ CD=none→CodeAt σ' CD t.num→Q (.tup [.loc CD,.int (t.slots.length+t.turns:Nat)]) σ'):WC Γ (k+8) (.glob 55) [.loc tl,.int sc] σ Q:=by
 refine WC_def (n:=10) (L.fns 11 _ _ _ _ rfl) rfl ?_
 refine gabs fun gG gK=>?_
 obtain ⟨as,sl,pl,g1,g2,g3,g4,g5,g6,g7,g8,g9⟩:=ht.ex
 refine gK ?_
 refine ⟨rfl,attr_i g1 g3 ?_⟩
 refine len_l g8 (by simp;lia) ?_
 intro mk hmk
 refine (?_:WC Γ (0+1) _ _ _ _).more (by lia)
 refine WC_def (n:=10) (L.fns 0 _ _ _ _ rfl) rfl ?_
 refine ⟨rfl,setA_i (upd_self ..) (by decide) ?_⟩
 conv=>whnf
 rw [upd_upd]
 intro CD hCD
 obtain ⟨hCD0,hne⟩:=upd_none hCD
 refine ⟨rfl,setA_i (by rw [upd_ne _ _ (Ne.symm hne),upd_self]) (Ja0 rfl) ?_⟩
 conv=>whnf
 rw [upd_swap hne,upd_upd]
 refine ⟨rfl,?_⟩
 have hkd:mk≠CD:=Ne.symm hne
 have e0:upd (upd σ mk (Cell.inst 3 (put (put [] 152 (V.int ((t.slots.map fun (w:Nat)=>V.int (w:Int)).length:Nat))) 54 (V.loc CD)))) CD (Cell.list [])=mkTo σ mk CD (t.slots.length:Nat) []:=by
  show upd (upd σ mk (Cell.inst 3 [(152,V.int ((t.slots.map fun (w:Nat)=>V.int (w:Int)).length:Nat)),(54,V.loc CD)])) CD (Cell.list [])=_
  rw [Ja2];rfl
 rw [e0]
 have mx:∀ s r,Ext σ (mkTo σ mk CD s r):=fun s r=>((Ext.refl σ).upd hmk _).upd hCD0 _
 have tail:∀ (op:Int) (r0:List V),((op=-1∧r0=[])∨(op=0∧r0=[.tup [.str 69,.int sc,.int (-1)]]))→wpSs (wpS Γ (k+7) [] 10) [S.expr (.meth (.var 108) 107 [(.attr (.var 134) 44)]),.expr (.meth (.var 108) 52 [(.var 114),(.var 139)]),.expr (.meth (.var 108) 67 [(.tup [(.str 131)])]),.ret (.tup [(.attr (.var 108) 54),(.attr (.var 108) 152)])]
   [(134,.loc tl),(139,.int sc),(108,.loc mk),(114,.int op)] (mkTo σ mk CD (t.slots.length:Nat) r0) fun fl x σ'=>retV fl fun v=>Q v σ':=by
  intro op r0 hop
  have hr0:r0.length≤1:=by rcases hop with ⟨_,rfl⟩ | ⟨_,rfl⟩ <;> simp
  have hd0:r0.all (isD 6)=true:=by rcases hop with ⟨_,rfl⟩ | ⟨_,rfl⟩ <;> simp [isD]
  refine meth_m (mkTo_mk hkd) rfl rfl ?_
  refine ⟨trivial,?_⟩
  refine ⟨rfl,attr_i (mx _ _ _ _ g1) g7 ?_⟩
  refine ⟨trivial,spec_make_block L hkd (by lia) hf.2 fun x hx hxl=>?_⟩
  refine ⟨trivial,?_⟩
  refine meth_m (mkTo_mk hkd) rfl rfl ?_
  refine ⟨trivial,?_⟩
  refine ⟨trivial,(?_:WC Γ (2+1) _ _ _ _).more (by lia)⟩
  have fin:∀ r1:List V,Rows t.num r1→r1.length≤150→wpSs (wpS Γ (k+7) [] 10) [S.expr (.meth (.var 108) 67 [(.tup [(.str 131)])]),.ret (.tup [(.attr (.var 108) 54),(.attr (.var 108) 152)])] [(134,.loc tl),(139,.int sc),(108,.loc mk),(114,.int op)] (mkTo σ mk CD ((t.slots.length:Nat)+(t.turns:Nat)) r1) fun fl x σ'=>retV fl fun v=>Q v σ':=by
   intro r1 h1 h2
   refine meth_m (mkTo_mk hkd) rfl rfl ?_
   refine ⟨trivial,?_⟩
   refine ⟨trivial,(spec_emit (k:=0) L hkd (by lia) ?_).more (by lia)⟩
   refine ⟨trivial,?_⟩
   refine ⟨rfl,attr_i (mkTo_mk hkd) rfl ?_⟩
   refine ⟨rfl,attr_i (mkTo_mk hkd) rfl ?_⟩
   conv=>whnf
   have:=q _ CD (mx ((t.slots.length:Nat)+(t.turns:Nat)) (r1++[.tup [.str 131]])) hCD0 ⟨_,mkTo_cd,⟨by rw [List.all_append,h1.data];rfl,Jd2 _ h1.mem⟩,by simp;lia⟩
   exact this
  refine WC_def (n:=10) (L.fns 7 _ _ _ _ rfl) rfl ?_
  rcases hop with ⟨rfl,rfl⟩ | ⟨rfl,rfl⟩
  ·refine .f rfl ?_
   refine ⟨trivial,?_⟩
   exact fin _ (by simpa using hx) (by simp;lia)
  ·refine .t rfl ?_
   refine meth_m (mkTo_mk hkd) rfl rfl ?_
   refine ⟨trivial,?_⟩
   refine ⟨trivial,(spec_emit (k:=0) L hkd (by simp;lia) ?_).more (by lia)⟩
   refine ⟨trivial,?_⟩
   refine meth_m (mkTo_mk hkd) rfl rfl ?_
   refine ⟨trivial,?_⟩
   refine ⟨trivial,(spec_aim_enter (k:=0) (a:=0) L hkd (by simp;lia) (x:=.int sc) (y:=.int (-1)) (by simp) ?_).more (by lia)⟩
   refine ⟨trivial,?_⟩
   refine ⟨trivial,?_⟩
   refine fin _ ⟨?_,?_⟩ (by simp;lia)
   ·have:=hx.data
    simp [isD] at this ⊢
    exact this
   ·have:=hx.mem
    simp
    exact .inr (.inl this)
 refine meth_m (mkTo_mk hkd) rfl rfl ?_
 refine ⟨trivial,?_⟩
 refine ⟨trivial,(spec_scoped (k:=0) L hkd (by simp) (fun c=>?_) (fun c=>?_)).more (by lia)⟩
 ·exact tail (-1) [] (.inl ⟨rfl,rfl⟩)
 ·exact tail 0 _ (.inr ⟨rfl,rfl⟩)
theorem Fz.freeze {ML:List Nat} (z:Fz Z ML σ) (hlive:∀ l∈ML,σ l≠none) {σ':St} {l:Nat} {c:Cell} (z':Fz Z ML σ') (h0:σ l=none) (h1:σ' l=some c):Ext Z (upd Z l c)∧Fz (upd Z l c) ML σ':=by
 have hz:Z l=none:=z.sub.new h0
 refine ⟨(Ext.refl Z).upd hz c,fun i d e=>?_,fun i hi=>?_⟩
 ·by_cases q:i=l
  ·subst q;rw [upd_self] at e;cases e;exact h1
  ·rw [upd_ne _ _ q] at e;exact z'.sub i d e
 ·rw [upd_ne _ _ (fun q=>by subst q;exact hlive _ hi h0)];exact z.out i hi
theorem spec_routine_code (L:Lib Γ) {t:Task} {ts:List Task} {tl:Nat} {tls:List V} {es:List (Int×V)} {ML:List Nat} (z:Fz Z ML σ) (hlive:∀ l∈ML,σ l≠none) (hCP:M.CP∈ML) (hm:M.At Z) (hk:Z M.TK=some (.list tls)) (hkt:tls[t.num]?=some (.loc tl)) (htl:TaskAt Z tl t) (hf:t.slots.length≤20∧t.turns≤20∧t.num≤100) (hts:ts[t.num]?=some t)
  (ec:σ M.CP=some (.dict es)) (hes:es.length≤50) (hcp:CpOk Z es ts)
  (q:∀ Z' σ' es' CD,Ext Z Z'→Fz Z' ML σ'→ButS [M.CP] σ σ'→σ' M.CP=some (.dict es')→es'.length≤es.length+1→CpOk Z' es' ts→CodeAt Z' CD t.num→Q (.tup [.loc CD,.int (t.slots.length+t.turns:Nat)]) σ') :
  WC Γ (k+9) (.glob 135) [.loc M.H,.int t.num] σ Q:=by
 refine WC_def (n:=10) (L.fns 23 _ _ _ _ rfl) rfl ?_
 have hm0:=hm.ext z.sub
 refine gabs fun gG gK=>?_
 obtain ⟨hs0,h1,h2,h3,h4,h5,h6,h7,h8,h9⟩:=hm0.host
 obtain ⟨ds,d1,d2⟩:=hm0.design
 refine gK ?_
 refine ⟨rfl,attr_i h1 h2 ?_⟩
 refine notin_d ec ?_
 conv=>whnf
 cases ei:ilook es t.num with
 | some v=>
  refine gabs fun gG gK=>?_
  obtain ⟨t',CD,e1,rfl,e3⟩:=hcp _ _ ei
  refine gK ?_
  rw [hts] at e1;cases e1
  refine .f rfl ?_
  refine ⟨rfl,attr_i h1 h2 ?_⟩
  refine item_d ec ei ?_
  exact q Z σ es CD (Ext.refl Z) z (ButS.refl _ _) ec (by lia) hcp e3
 | none=>
  refine .t rfl ?_
  refine ⟨rfl,attr_i h1 h4 ?_⟩
  refine meth_c d1 d2 rfl ?_
  refine ⟨trivial,?_⟩
  refine ⟨⟨_,_,hm0.rou⟩,?_⟩
  refine (spec_routine (k:=0) L hm0.rou hm0.kT (z.sub _ _ hk) hkt (by lia) ?_).more (by lia)
  refine gabs fun gG gK=>?_
  obtain ⟨as,sl,pl,g1,g2,g3,g4,g5,g6,g7,g8,g9⟩:=(htl.ext z.sub).ex
  refine gK ?_
  refine ⟨rfl,attr_i g1 g6 ?_⟩
  refine spec_compile (k:=k) L (htl.ext z.sub) ⟨hf.1,hf.2.1⟩ fun σ1 CD x1 hCD hc=>?_
  refine ⟨rfl,attr_i (x1 _ _ h1) h2 ?_⟩
  refine setI_d (x1 _ _ ec) (by lia) ei ?_
  conv=>whnf
  obtain ⟨σ2,hσ2⟩:∃ σ2,σ2=upd σ1 M.CP (.dict (es++[((t.num:Int),V.tup [.loc CD,.int (t.slots.length+t.turns:Nat)])])):=⟨_,rfl⟩
  rw [← hσ2]
  have b2:ButS [M.CP] σ σ2:=by rw [hσ2];exact (x1.buts).set _ (.inl (by simp))
  have z2:Fz Z ML σ2:=z.step (b2.wider (by simp;exact hCP))
  refine gabs fun gG gK=>?_
  obtain ⟨r,c1,c2⟩:=hc
  have hne:CD≠M.CP:=fun q=>by subst q;rw [ec] at hCD;cases hCD
  have c3:σ2 CD=some (.list r):=by rw [hσ2,upd_ne _ _ hne];exact c1
  obtain ⟨x3,z3⟩:=z.freeze hlive z2 hCD c3
  refine gK ?_
  have ci:CodeAt (upd Z CD (.list r)) CD t.num:=⟨r,upd_self ..,c2⟩
  have e5:∀ n:Int,ilook (es++[((t.num:Int),V.tup [.loc CD,.int (t.slots.length+t.turns:Nat)])]) n=match ilook es n with | some v=>some v | none=>if (t.num:Int)=n then some (V.tup [.loc CD,.int (t.slots.length+t.turns:Nat)]) else none:=by
   intro n
   clear hcp ec hes ei hσ2 q
   induction es with
   | nil=>simp [ilook]
   | cons p es ih=>
    obtain ⟨a,b⟩:=p
    simp only [List.cons_append,ilook]
    split
    ·rfl
    ·exact ih
  have hb2:∀ {l:Nat} {c:Cell},σ l=some c→l≠M.CP→σ2 l=some c:=fun e n=>b2 _ _ (by simpa using n) e
  have hE:σ2 M.CP=some (.dict (es++[((t.num:Int),V.tup [.loc CD,.int (t.slots.length+t.turns:Nat)])])):=by rw [hσ2,upd_self]
  refine ⟨rfl,attr_i (hb2 h1 (fun q=>by subst_vars;rw [q,ec] at h1;cases h1)) h2 ?_⟩
  refine item_d (r:=V.tup [.loc CD,.int (t.slots.length+t.turns:Nat)]) hE (by rw [e5,ei];exact if_pos rfl) ?_
  refine q _ σ2 _ CD x3 z3 b2 hE (by simp) (fun n v e=>?_) ci
  rw [e5] at e
  cases en:ilook es n with
  | some v'=>rw [en] at e;cases e;exact (hcp.ext x3) n _ en
  | none=>
   rw [en] at e
   dsimp only at e
   split at e
   ·rename_i q
    cases e
    have:n=t.num:=by lia
    subst this
    exact ⟨t,CD,hts,rfl,ci⟩
   ·cases e
end
end
section
structure EnS where
 gv:List (List Int)
 fr:List (Option (List Int))
 sv:List (List Int)
 td:List Nat
noncomputable def isOut:Dir→Bool
 | .outp=>true
 | _=>false
noncomputable def Port.enter (p:Port) (s:EnS):EnS:=match isOut p.dir with
 | true=>s
 | false=>match p.loc with
  | true=>⟨s.gv.tail,s.fr.set p.ref (some (wideL (s.gv.headD []) p.w p.sg)),s.sv,s.td⟩
  | false=>if wideL (s.gv.headD []) p.w p.sg=s.sv.getD p.ref [] then ⟨s.gv.tail,s.fr,s.sv,s.td⟩ else ⟨s.gv.tail,s.fr,s.sv.set p.ref (wideL (s.gv.headD []) p.w p.sg),s.td++[p.ref]⟩
noncomputable def frame0 (t:Task):List (Option (List Int)):=t.slots.map (fun w=>some (Jb1 w 3))++Jb1 t.turns none
noncomputable def nin (ps:List Port):Nat:=(ps.filter fun p=>!isOut p.dir).length
noncomputable def enters (ps:List Port) (s:EnS):EnS:=ps.foldl (fun s p=>p.enter s) s
noncomputable def enterP (t:Task) (rs:List (List Int)) (sv:List (List Int)):EnS:=enters t.ports ⟨rs,frame0 t,sv,[]⟩
structure EnOk (t:Task) (ws:List Nat) (ps:List Port) (s:EnS):Prop where
 gv:∀ r∈s.gv,Rok r
 n:s.gv.length=nin ps
 sv:SOk s.sv
 fr:FOk s.fr
 wid:wid s.sv=ws
 shp:shp s.fr=fshape t
theorem rok3 {w:Nat} (h:1≤w∧w≤20):Rok (Jb1 w 3):=⟨fun x hx=>by rw [Ji8] at hx;lia,fun e=>by have:=congrArg List.length e;simp at this;lia,by simp;lia⟩
theorem frame0_ok {t:Task} {ws:List Nat} (h:TaskOk ws t):FOk (frame0 t)∧shp (frame0 t)=fshape t:=by
 refine ⟨fun r hr=>?_,?_⟩
 ·rcases Jd0.mp hr with q | q
  ·refine gabs fun gG gK=>?_
   obtain ⟨w,hw,e⟩:=Jf2.mp q
   refine gK ?_
   cases e
   exact rok3 (h.sl w hw)
  ·have:=(Ji8.mp q).2;cases this
 ·unfold shp frame0 fshape
  rw [Jb5,Jh9,List.map_replicate]
  congr 1
  exact List.map_congr_left fun w _=>by simp
theorem port_at {t:Task} {ws:List Nat} {p:Port} {s:EnS} {ps:List Port} (po:PoOk ws t.slots p) (h:EnOk t ws ps s):(p.loc=true→∃ r,s.fr[p.ref]?=some (some r)∧r.length=p.w)∧(p.loc=false→∃ r,s.sv[p.ref]?=some r∧r.length=p.w∧Rok r):=by
 refine ⟨fun e=>?_,fun e=>?_⟩
 ·have h1:=po.frm e
  have h2:(Mine.shp s.fr)[p.ref]?=some (some p.w):=by
   rw [h.shp,fshape,Jb4 (by have:=(Ja3.mp h1).1;simpa using this),Ja8,h1];rfl
  exact shp_some h2
 ·have h1:=po.sig e
  rw [← h.wid] at h1
  refine gabs fun gG gK=>?_
  obtain ⟨r,a,b⟩:=wid_some h1
  refine gK ?_
  exact ⟨r,a,b,h.sv.at a⟩
theorem enter_ok {t:Task} {ws:List Nat} {p:Port} {ps:List Port} {s:EnS} (po:PoOk ws t.slots p) (h:EnOk t ws (p::ps) s):EnOk t ws ps (p.enter s):=by
 have hn:=h.n
 obtain ⟨pa,pb⟩:=port_at po h
 unfold nin at hn
 unfold Port.enter
 cases e:isOut p.dir with
 | true=>
  rw [List.filter_cons,e] at hn
  exact ⟨h.gv,hn,h.sv,h.fr,h.wid,h.shp⟩
 | false=>
  rw [List.filter_cons,e] at hn
  refine gabs fun gG gK=>?_
  obtain ⟨r,gv,hg⟩:∃ r gv,s.gv=r::gv:=by
   cases q:s.gv with
   | nil=>rw [q] at hn;cases hn
   | cons r gv=>exact ⟨r,gv,rfl⟩
  refine gK ?_
  have hr:=h.gv r (by rw [hg];exact .head _)
  have hgv:∀ x∈s.gv.tail,Rok x:=fun x hx=>h.gv x (List.mem_of_mem_tail hx)
  have hn':s.gv.tail.length=nin ps:=by rw [hg] at hn ⊢;simp at hn;exact hn
  have hw:Rok (wideL (s.gv.headD []) p.w p.sg):=by rw [hg];exact wide_rok hr po.w.1 (by have:=po.w.2;lia)
  cases el:p.loc with
  | true=>
   refine gabs fun gG gK=>?_
   obtain ⟨r0,a,b⟩:=pa el
   refine gK ?_
   exact ⟨hgv,hn',h.sv,h.fr.set _ hw,h.wid,(shp_set a (by rw [wide_len,b])).trans h.shp⟩
  | false=>
   refine gabs fun gG gK=>?_
   obtain ⟨r0,a,b,c⟩:=pb el
   refine gK ?_
   dsimp only
   split
   ·exact ⟨hgv,hn',h.sv,h.fr,h.wid,h.shp⟩
   ·exact ⟨hgv,hn',h.sv.set _ hw,h.fr,(wid_set a (by rw [wide_len,b])).trans h.wid,h.shp⟩
theorem enters_ok {t:Task} {ws:List Nat}:∀ (ps:List Port) {s:EnS} (qs:List Port),(∀ p∈ps,PoOk ws t.slots p)→EnOk t ws (ps++qs) s→EnOk t ws qs (enters ps s)
 | [],s,qs,_,h=>h
 | p::ps,s,qs,hp,h=>enters_ok ps qs (fun q hq=>hp q (.tail _ hq)) (enter_ok (hp p (.head _)) h)
noncomputable def Ie.row (e:Ie) (sv:List (List Int)) (fv:List (Option (List Int))):List Int:=(e.val (sv.map some) fv).getD []
noncomputable def Ie.ok (e:Ie) (n:Nat) (sh:List (Option Nat)):Prop:=match e with
 | .const r=>Rok r
 | .sig _ i=>i<n∧i≤10000
 | .frm _ i=>i≤10000∧∃ w,sh[i]?=some (some w)
theorem Ie.ok_val {e:Ie} {sv:List (List Int)} {fv:List (Option (List Int))} (h:e.ok sv.length (Mine.shp fv)) (h1:SOk sv) (h2:FOk fv):e.val (sv.map some) fv=some (e.row sv fv)∧Rok (e.row sv fv)∧∀ w i,e=.sig w i∨e=.frm w i→i≤10000:=by
 cases e with
 | const r=>exact ⟨rfl,h,fun w i q=>by rcases q with q | q <;> cases q⟩
 | sig w i=>
  obtain ⟨a,b⟩:=h
  have:(sv.map some).getD i none=some sv[i]:=by rw [Ja6,Ja8,Ja5 a];rfl
  have e2:Ie.row (.sig w i) sv fv=sv[i]:=by show ((sv.map some).getD i none).getD []=_;rw [this];rfl
  refine ⟨by rw [e2];exact this,by rw [e2];exact h1 _ (Jc7 a),fun w i q=>by rcases q with q | q <;> cases q;exact b⟩
 | frm w i=>
  refine gabs fun gG gK=>?_
  obtain ⟨a,w',hw⟩:=h
  obtain ⟨r,hr,_⟩:=shp_some hw
  refine gK ?_
  have:fv.getD i none=some r:=by rw [Ja6,hr];rfl
  have e2:Ie.row (.frm w i) sv fv=r:=by show (fv.getD i none).getD []=_;rw [this];rfl
  refine ⟨by rw [e2];exact this,by rw [e2];exact h2.at hr,fun w i q=>by rcases q with q | q <;> cases q;exact a⟩
theorem enter_start {t:Task} {sv:List (List Int)} {rs:List (List Int)} (ht:TaskOk (Mine.wid sv) t) (h1:SOk sv) (hr:∀ r∈rs,Rok r) (hn:rs.length=nin t.ports):EnOk t (Mine.wid sv) t.ports ⟨rs,frame0 t,sv,[]⟩:=
 ⟨hr,hn,h1,(frame0_ok ht).1,rfl,(frame0_ok ht).2⟩
theorem enter_td (p:Port) (s:EnS):(p.enter s).td.length≤s.td.length+1:=by
 unfold Port.enter
 cases isOut p.dir with
 | true=>exact Nat.le_succ _
 | false=>
  cases p.loc with
  | true=>exact Nat.le_succ _
  | false=>
   refine iteInduction (motive:=fun x:EnS=>x.td.length≤s.td.length+1) (fun _=>Nat.le_succ _) fun _=>?_
   rw [Jb2];exact Jd7 _
theorem enters_td (ps:List Port):∀ (s:EnS),(enters ps s).td.length≤s.td.length+ps.length:=by
 induction ps with
 | nil=>exact fun s=>Jd7 _
 | cons p ps ih=>exact fun s=>Ja1 (ih (p.enter s)) (Ja1 (Jh0 (enter_td p s) _) (Je5 (Jf4 ..)))
theorem enter_out {p:Port} (s:EnS) (h:isOut p.dir=true):p.enter s=s:=by unfold Port.enter;rw [h]
theorem enter_loc {p:Port} {s:EnS} {r:List Int} {gv:List (List Int)} (h:isOut p.dir=false) (hl:p.loc=true) (hg:s.gv=r::gv):p.enter s=⟨gv,s.fr.set p.ref (some (wideL r p.w p.sg)),s.sv,s.td⟩:=by unfold Port.enter;rw [h,hl,hg];rfl
theorem enter_same {p:Port} {s:EnS} {r r0:List Int} {gv:List (List Int)} (h:isOut p.dir=false) (hl:p.loc=false) (hg:s.gv=r::gv) (h0:s.sv[p.ref]?=some r0) (e:wideL r p.w p.sg=r0):p.enter s=⟨gv,s.fr,s.sv,s.td⟩:=by
 unfold Port.enter;rw [h,hl,hg];exact if_pos (e.trans (by rw [Ja6,h0];rfl))
theorem enter_new {p:Port} {s:EnS} {r r0:List Int} {gv:List (List Int)} (h:isOut p.dir=false) (hl:p.loc=false) (hg:s.gv=r::gv) (h0:s.sv[p.ref]?=some r0) (e:wideL r p.w p.sg≠r0):p.enter s=⟨gv,s.fr,s.sv.set p.ref (wideL r p.w p.sg),s.td++[p.ref]⟩:=by
 unfold Port.enter;rw [h,hl,hg];exact if_neg fun q=>e (q.trans (by rw [Ja6,h0];rfl))
theorem gv_cons {t:Task} {ws:List Nat} {p:Port} {ps:List Port} {s:EnS} (ok:EnOk t ws (p::ps) s) (h:isOut p.dir=false):∃ r gv,s.gv=r::gv:=by
 have hn:=ok.n
 rw [nin,List.filter_cons,h] at hn
 cases q:s.gv with
 | nil=>rw [q] at hn;cases hn
 | cons r gv=>exact ⟨r,gv,rfl⟩
theorem drop_cons {α:Type} {xs:List α} {n:Nat} {x:α} {r:List α} (h:x::r=xs.drop n):xs[n]?=some x∧r=xs.drop (n+1):=by
 constructor
 ·rw [← List.head?_drop,← h];rfl
 ·rw [← List.tail_drop,← h];rfl
end
section
section
variable {Γ:Gl} {k:Nat} {σ Z:St} {M:Mp} {tp:Tp} {sv:List (List Int)} {fv:List (Option (List Int))}
seal itemV attrV setAV setIV biV listM methL sliceV iterV inV newV
noncomputable def padE (v1 v2 v3 v4 v5 v6 v7 v8:V) (len x:Nat):List (Nat×V):=[(106,v1),(165,v2),(112,v3),(91,v4),(116,v5),(136,v6),(99,.int len),(134,v7),(175,v8),(76,.loc x)]
theorem pad_loop {k':Nat} {x len:Nat} {v1 v2 v3 v4 v5 v6 v7 v8:V} {Q:SPost} (hx:len≤5000) (n:Nat):∀ (xs:List V) (σ:St),σ x=some (.list xs)→xs.length+n=len→(∀ σ',But x σ σ'→σ' x=some (.list (xs++Jb1 n .none))→Q .next (padE v1 v2 v3 v4 v5 v6 v7 v8 len x) σ')→
  wpWh (evT (wpE Γ k' [] 60) (.cmp .lt (.bi 199 [(.var 76)]) (.var 99))) (wpSs (wpS Γ k' [] 9) [.expr (.meth (.var 76) 37 [.none])]) (n+1) (padE v1 v2 v3 v4 v5 v6 v7 v8 len x) σ Q:=by
 induction n with
 | zero=>
  intro xs σ e h q
  have h2:xs.length≤10000:=Ja1 (Je5 h) (Ja1 hx (Ja0 rfl))
  refine len_l e h2 ?_
  refine ifB.f (decide_eq_false fun q=>Int.lt_irrefl _ (h▸q)) ?_
  exact q σ (fun _ _ _ e=>e) ((Jd3 xs).symm▸e)
 | succ n ih=>
  intro xs σ e h q
  have hl:xs.length<len:=h▸Nat.lt_add_of_pos_right (Ji0 n)
  have h2:xs.length≤10000:=Ja1 (Jc4 hl) (Ja1 hx (Ja0 rfl))
  refine len_l e h2 ?_
  refine ifB.t (decide_eq_true (Jc1.mpr hl)) ?_
  refine meth_l e ?_
  refine ⟨rfl,?_⟩
  refine append_l e h2 ?_
  refine okZ ⟨_,SubE.refl _,?_⟩
  refine ih (xs++[.none]) _ (upd_self ..) ?_ fun σ' b e'=>q σ' (fun i c n e=>b _ _ n ((upd_ne _ _ n).trans e)) ?_
  ·rw [Jb2];exact (Nat.add_assoc ..).trans ((congrArg (xs.length+·) (Nat.add_comm 1 n)).trans h)
  ·rw [Jd9] at e';exact e'
theorem isOut_beq (d:Dir):Jc5 d.id 115=isOut d:=by cases d <;> rfl
theorem some_elim (sv:List (List Int)):sv.map vecOf=(sv.map some).map fun o=>o.elim V.none vecOf:=by rw [Jh9];rfl
noncomputable def gC (M:Mp) (tp:Tp) (FT:Nat):List (List Nat):=[[M.ST],[M.TD],[M.CP],[tp.T],[tp.CL],[FT]]
noncomputable def gC2 (M:Mp) (tp:Tp) (FT VL FR:Nat):List (List Nat):=[[M.ST],[M.TD],[M.CP],[tp.T],[tp.CL],[FT],[VL],[FR]]
noncomputable def ctE (H:Nat) (u1 u2 u3 u4 u5 u6 u7:V) (VL FR:Nat) (b:EnS×Nat):List (Nat×V):=[(106,.loc H),(165,u1),(112,u2),(91,u3),(116,u4),(136,u5),(99,u6),(134,u7),(175,.loc VL),(76,.loc FR),(39,.int (b.2:Int))]
noncomputable def intsV (l:List Nat):List V:=l.map fun (i:Nat)=>V.int (i:Int)
theorem intsV_snoc (xs:List V) (l:List Nat) (i:Nat):xs++intsV l++[.int (i:Int)]=xs++intsV (l++[i]):=by rw [intsV,intsV,Jb5,Jd9];rfl
inductive CtI (M:Mp) (FR:Nat) (told:List V) (rows:List (List Int)) (σ2:St) (ps:List Port) (s0:EnS) (i:Nat) (b:EnS×Nat) (σ':St):Prop
 | mk (e:b.1=enters (ps.take i) s0) (g:b.1.gv=rows.drop b.2) (y:ButS [FR,M.ST,M.TD] σ2 σ') (f:σ' FR=some (.list (b.1.fr.map optVec))) (s:σ' M.ST=some (vecsC b.1.sv)) (d:σ' M.TD=some (.list (told++intsV b.1.td)))
theorem ct_step (L:Lib Γ) {t:Task} {ws:List Nat} {p:Port} {ps ps0:List Port} {s s0:EnS} {at_ i VL FR:Nat} {Z' σ2 σ':St} {told:List V} {rows:List (List Int)} {u1 u2 u3 u4 u5 u6 u7:V} {Q:SPost} (hm:M.At Z') (zF:Fz Z' [FR,M.ST,M.TD] σ2) (nd:[[FR],[M.ST],[M.TD],[VL]].flatten.Nodup) (hV:σ2 VL=some (.list (rows.map vecOf))) (hr:rows.length≤20)
  (okE:EnOk t ws (p::ps) s) (po:PoOk ws t.slots p) (hp:ps0[i]?=some p) (hl:told.length+s.td.length≤9000) (I:CtI M FR told rows σ2 ps0 s0 i (s,at_) σ') {Q9:SPost} (q9:Le (invQ (EnvI (ctE M.H u1 u2 u3 u4 u5 u6 u7 VL FR) (CtI M FR told rows σ2 ps0 s0 (i+1))) Q) Q9) :
  wpSs (wpS Γ (k+9) [] 9) [.ifs (.cmp .eq (.var 62) (.str 115)) [.cont] [],
  .asg 174 (.call 72 [(.item (.var 175) (.var 39)),(.var 181),(.var 149)]),
  .aug 39 .Add (.int 1),
  .ifs (.cmp .eq (.var 95) (.str 101)) [.setI (.var 76) (.var 127) (.var 174)] [.ifs (.meth (.attr (.var 106) 157) 145 [(.var 127),.none,(.int 0),(.var 174)]) [.expr (.meth (.var 106) 50 [(.var 127)])] []]]
   (put (put (put (put (put (ctE M.H u1 u2 u3 u4 u5 u6 u7 VL FR (s,at_)) 62 (.str p.dir.id)) 181 (.int p.w)) 149 (.bool p.sg)) 95 (kindV p.loc)) 127 (.int p.ref)) σ' Q9:=by
 cases I with
 | mk e g y f1 f2 f3=>
 have hst:p.enter s=enters (ps0.take (i+1)) s0:=by
  rw [take_snoc hp,enters,Jh8];exact congrArg p.enter e
 refine ifB_intro (fun ho=>?_) (fun ho=>?_)
 ·have ho:=(isOut_beq p.dir).symm.trans ho
  exact q9 _ _ _ ⟨(s,at_),SubE.app _ _,(enter_out s ho).symm.trans hst,g,y,f1,f2,f3⟩
 have ho:=(isOut_beq p.dir).symm.trans ho
 refine (gv_cons okE ho).elim fun r h=>h.elim fun gv hg=>?_
 have hr1:=okE.gv r (hg▸.head _)
 have h4:=drop_cons (hg.symm.trans g)
 have hat:at_<20:=Jc8 (Ja3.mp h4.1).1 hr
 have hpw:=po.w
 have hpr:=po.ref
 have hm3:=hm.ext (zF.step y).sub
 refine item_l (kp nd [0,1,2] y 3 (.head _) rfl hV) (Jb0 _) (Ja8 ..▸congrArg (Je7 vecOf) h4.1) ?_ (c62 hat)
 refine spec_extend (k:=k+6) L hr1.1 hr1.2.1 (Ja1 hr1.2.2 (Ja0 rfl)) (Ja1 hpw.2 (Ja0 rfl)) ?_
 refine ⟨rfl,?_⟩
 cases hl:p.loc with
 | true=>
  refine ((port_at po okE).1 hl).elim fun r0 q=>?_
  have q1:=(Ja3.mp q.1).1
  have e2:=enter_loc ho hl hg
  refine ifB.t rfl ?_
  refine setI_l f1 (Jb0 _) (Jc1.mpr (Ja2 (as:=s.fr) optVec▸q1)) (c62' hpr) ?_
  exact q9 _ _ _ ⟨(p.enter s,at_+1),SubE.app _ _,hst,e2▸h4.2,y.set _ (.inl (.head _)),e2▸Je0 ..▸upd_self ..,e2▸(upd_ne _ _ (nine nd 1 0 (.head _) (.head _) rfl)).trans f2,e2▸(upd_ne _ _ (nine nd 2 0 (.head _) (.head _) rfl)).trans f3⟩
 | false=>
  refine ((port_at po okE).2 hl).elim fun r0 q=>?_
  refine ifB.f rfl ?_
  refine attr_j (hm3.a157 ?_)
  refine hm3.m145 ?_
  refine ⟨trivial,fn_ok hm3.set,?_⟩
  refine spec_set (k:=k+8) (s:=r0) L hm3.set hm3.kS f2 q.1 hpr (wide_cells hr1.1 _ _) q.2.2.1 (fun he=>?_) (fun he=>?_)
  ·have e2:=enter_same ho hl hg q.1 he
   refine ifB.f rfl ?_
   exact q9 _ _ _ ⟨(p.enter s,at_+1),SubE.app _ _,hst,e2▸h4.2,y,e2▸f1,e2▸f2,e2▸f3⟩
  ·have e2:=enter_new ho hl hg q.1 he
   have y2:=y.set (vecsC (s.sv.set p.ref (wideL r p.w p.sg))) (.inl (.tail _ (.head _)))
   have hm4:=hm.ext (zF.step y2).sub
   refine ifB.t rfl ?_
   refine hm4.m50 ?_
   refine ⟨trivial,fn_ok hm4.chg,?_⟩
   refine spec_changed (k:=k+8) L hm4.chg hm4.kD ((upd_ne _ _ (nine nd 2 1 (.head _) (.head _) rfl)).trans f3) ?_ ?_
   ·rw [Jb2,intsV,Ja2];exact Ja1 ‹_› (Ja0 rfl)
   refine okZ ?_
   exact q9 _ _ _ ⟨(p.enter s,at_+1),SubE.app _ _,hst,e2▸h4.2,y2.set _ (.inl (.tail _ (.tail _ (.head _)))),(upd_ne _ _ (nine nd 0 2 (.head _) (.head _) rfl)).trans ((upd_ne _ _ (nine nd 0 1 (.head _) (.head _) rfl)).trans (e2▸f1)),(upd_ne _ _ (nine nd 1 2 (.head _) (.head _) rfl)).trans (e2▸upd_self ..),e2▸(upd_self ..).trans (congrArg (fun x=>some (Cell.list x)) (intsV_snoc told s.td p.ref))⟩
theorem spec_call_task (L:Lib Γ) {Q:V→St→Prop} {t:Task} {ts:List Task} {tl FT code:Nat} {pc:Int} {tls cs told:List V} {es:List (Int×V)} {ins:List Ie} {outs:List Out} {ML:List Nat} (z:Fz Z ML σ) (hlive:∀ l∈ML,σ l≠none) (hML:∀ l∈[M.ST,M.TD,M.CP,tp.T,tp.CL],l∈ML) (hm:M.At Z)
  (hk:Z M.TK=some (.list tls)) (hkt:tls[t.num]?=some (.loc tl)) (htl:TaskAt Z tl t) (htk:TaskOk (wid sv) t) (hts:ts[t.num]?=some t)
  (ec:σ M.CP=some (.dict es)) (hes:es.length≤50) (hcp:CpOk Z es ts)
  (es0:σ M.ST=some (vecsC sv)) (eft:σ FT=some (.list (fv.map optVec))) (et:σ tp.T=some (tp.cell code pc FT)) (ecl:σ tp.CL=some (.list cs)) (etd:σ M.TD=some (.list told))
  (nd:[M.ST,M.TD,M.CP,tp.T,tp.CL].Nodup) (nf:FT∉[M.ST,M.TD,M.CP,tp.T,tp.CL]) (hcs:cs.length≤1000) (htd:told.length≤5000) (hs:SOk sv) (hf:FOk fv) (hi:∀ e∈ins,e.ok sv.length (shp fv)) (hn:ins.length=nin t.ports)
  (q:∀ Z' σ' es' CD FR,Ext Z Z'→Fz Z' ML σ'→ButS [M.ST,M.TD,M.CP,tp.T,tp.CL] σ σ'→σ FR=none→σ' FR=some (.list ((enterP t (ins.map fun e=>e.row sv fv) sv).fr.map optVec))→σ' M.ST=some (vecsC (enterP t (ins.map fun e=>e.row sv fv) sv).sv)→
   σ' M.TD=some (.list (told++(enterP t (ins.map fun e=>e.row sv fv) sv).td.map fun (i:Nat)=>V.int (i:Int)))→σ' tp.T=some (tp.cell CD 0 FR)→σ' tp.CL=some (.list (cs++[callV code pc FT t.num outs]))→σ' M.CP=some (.dict es')→es'.length≤es.length+1→CpOk Z' es' ts→CodeAt Z' CD t.num→Z' FR=none→Q .none σ') :
  WC Γ (k+10) (.glob 47) [.loc M.H,.loc tp.T,.int t.num,.tup (ins.map Ie.v),.tup (outs.map Out.v)] σ Q:=by
 refine WC_def (n:=10) (L.fns 24 _ _ _ _ rfl) rfl ?_
 have hfew:=htk.few
 refine spec_routine_code (k:=k) L z hlive (hML _ (.tail _ (.tail _ (.head _)))) hm hk hkt htl ⟨hfew.2.1,hfew.2.2.1,hfew.2.2.2⟩ hts ec hes hcp fun Z' σ1 es' CD x1 z1 b1 ecp hel hcp' hcode=>?_
 have g:(gC M tp FT).flatten.Nodup:=nd_snoc nd nf
 have k1:=@kp _ g _ _ [2] b1
 have hm1:=(hm.ext x1).ext z1.sub
 have ta1:=(htl.ext x1).ext z1.sub
 have e1:=k1 0 (.head _) rfl es0
 have e2:=k1 3 (.head _) rfl et
 have e3:=k1 5 (.head _) rfl eft
 have e4:=k1 4 (.head _) rfl ecl
 have e5:=k1 1 (.head _) rfl etd
 refine ⟨rfl,attr_j (hm1.a61 ?_)⟩
 refine hm1.m134 ?_
 refine ⟨trivial,fn_ok hm1.rou,?_⟩
 refine spec_routine (k:=k+8) L hm1.rou hm1.kT (z1.sub _ _ (x1 _ _ hk)) hkt (Ja1 hfew.2.2.2 (Ja0 rfl)) ?_
 refine ⟨rfl,?_⟩
 refine iter_t ?_
 have hil:ins.length≤20:=hn▸Ja1 (Jf8 ..) hfew.1
 refine wpIt_map (g:=fun e=>vecOf (e.row sv fv)) (Ja1 hil (Ja0 rfl)) trivial (fun e he R hR=>?_) ?_
 ·refine hm1.m71 ?_
  refine ⟨trivial,fn_ok hm1.now,?_⟩
  have v:=Ie.ok_val (hi e he) hs hf
  exact spec_now (k:=k+8) (e:=e) (sv:=sv.map some) (r:=e.row sv fv) L hm1.now hm1.kS (some_elim sv▸e1) e2 rfl e3 v.1 v.2.2 hR
 refine fun VL hVL=>?_
 have xV:Ext σ1 (upd σ1 VL (.list (ins.map fun e=>vecOf (e.row sv fv)))):=(Ext.refl _).upd hVL _
 have eV:upd σ1 VL (.list (ins.map fun e=>vecOf (e.row sv fv))) VL=some (.list (ins.map fun e=>vecOf (e.row sv fv))):=upd_self ..
 have lv:∀ l∈(gC M tp FT).flatten,σ1 l≠none:=lvc e1 (lvc e5 (lvc ecp (lvc e2 (lvc e4 (lvc e3 lv0)))))
 have gV:=nd_snoc g (not_live lv hVL)
 revert xV eV
 refine gen (upd σ1 VL (.list (ins.map fun (e:Ie)=>vecOf (e.row sv fv)))) ?_
 intro σV
 intros
 refine ⟨rfl,attr_j ((ta1.ext xV).a152 fun sl hsl=>?_)⟩
 refine iter_l hsl ?_ ?_
 ·rw [Ja2];exact Ja1 hfew.2.1 (Ja0 rfl)
 refine wpIt_map (g:=fun w=>vecOf (Jb1 w 3)) (Ja1 hfew.2.1 (Ja0 rfl)) hsl (fun w hw R hR=>?_) ?_
 ·exact spec_all_x (k:=k+7) L (Ja1 (htk.sl w hw).2 (Ja0 rfl)) hR
 refine fun FR hFR=>?_
 have xF:Ext σV (upd σV FR (.list (t.slots.map fun w=>vecOf (Jb1 w 3)))):=(Ext.refl _).upd hFR _
 have eF:upd σV FR (.list (t.slots.map fun w=>vecOf (Jb1 w 3))) FR=some (.list (t.slots.map fun w=>vecOf (Jb1 w 3))):=upd_self ..
 have g2:(gC2 M tp FT VL FR).flatten.Nodup:=nd_snoc gV (not_live (L:=(gC M tp FT).flatten++[VL]) (Jb8.mpr ⟨fun l hl q=>lv l hl (xV.new q),lvc eV lv0⟩) hFR)
 revert xF eF
 refine gen (upd σV FR (.list (t.slots.map fun w=>vecOf (Jb1 w 3)))) ?_
 intro σF
 intros
 refine ⟨t.turns+1,?_⟩
 refine pad_loop (len:=t.slots.length+t.turns) (Ja1 (Jg1 hfew.2.1 hfew.2.2.1) (Ja0 rfl)) t.turns _ _ eF (by rw [Ja2]) fun σ3 b3 eF3=>?_
 have hpad:(t.slots.map fun w=>vecOf (Jb1 w 3))++Jb1 t.turns V.none=(frame0 t).map optVec:=by
  rw [frame0,Jb5,Jh9,List.map_replicate];rfl
 rw [hpad] at eF3
 have x3:ButS (sel (gC2 M tp FT VL FR) [7]) σ1 σ3:=((xV.trans xF).buts).trans fun i c n e=>b3 i c (fun q=>n (q▸.head _)) e
 have k3:=@kp _ g2 _ _ [7] x3
 have t3:=k3 3 (.head _) rfl e2
 have c3:=k3 4 (.head _) rfl e4
 refine attr_j (attr_i t3 rfl ?_)
 refine meth_l c3 ?_
 refine ⟨rfl,attr_j (attr_i t3 rfl ?_)⟩
 refine attr_j (attr_i t3 rfl ?_)
 refine attr_j (attr_i t3 rfl ?_)
 refine append_l c3 (Ja1 hcs (Ja0 rfl)) ?_
 refine okZ ?_
 refine setA_j ((upd_ne _ _ (nine g2 3 4 (.head _) (.head _) rfl)).trans t3) ?_
 refine setA_j (upd_self ..) ?_
 refine setA_j (upd_self ..) ?_
 have b5:ButS (sel (gC2 M tp FT VL FR) [4,3]) σ3 (upd (upd (upd (upd σ3 tp.CL (.list (cs++[callV code pc FT t.num outs]))) tp.T (.inst 4 (put (tp.as code pc FT) 54 (.loc CD)))) tp.T (.inst 4 (put (put (tp.as code pc FT) 54 (.loc CD)) 121 (.int 0)))) tp.T (tp.cell CD 0 FR)):=((((ButS.refl _ σ3).set _ (.inl (.head _))).set _ (.inl (.tail _ (.head _)))).set _ (.inl (.tail _ (.head _)))).set _ (.inl (.tail _ (.head _)))
 have tcell:(upd (upd (upd (upd σ3 tp.CL (.list (cs++[callV code pc FT t.num outs]))) tp.T (.inst 4 (put (tp.as code pc FT) 54 (.loc CD)))) tp.T (.inst 4 (put (put (tp.as code pc FT) 54 (.loc CD)) 121 (.int 0)))) tp.T (tp.cell CD 0 FR)) tp.T=some (tp.cell CD 0 FR):=upd_self ..
 have n43:tp.CL≠tp.T:=nine g2 4 3 (.head _) (.head _) rfl
 have ccell:(upd (upd (upd (upd σ3 tp.CL (.list (cs++[callV code pc FT t.num outs]))) tp.T (.inst 4 (put (tp.as code pc FT) 54 (.loc CD)))) tp.T (.inst 4 (put (put (tp.as code pc FT) 54 (.loc CD)) 121 (.int 0)))) tp.T (tp.cell CD 0 FR)) tp.CL=some (.list (cs++[callV code pc FT t.num outs])):=(upd_ne _ _ n43).trans ((upd_ne _ _ n43).trans ((upd_ne _ _ n43).trans (upd_self ..)))
 show wpSs _ _ _ (upd (upd (upd (upd σ3 tp.CL (.list (cs++[callV code pc FT t.num outs]))) tp.T (.inst 4 (put (tp.as code pc FT) 54 (.loc CD)))) tp.T (.inst 4 (put (put (tp.as code pc FT) 54 (.loc CD)) 121 (.int 0)))) tp.T (tp.cell CD 0 FR)) _
 revert b5 tcell ccell
 refine gen (upd (upd (upd (upd σ3 tp.CL (.list (cs++[callV code pc FT t.num outs]))) tp.T (.inst 4 (put (tp.as code pc FT) 54 (.loc CD)))) tp.T (.inst 4 (put (put (tp.as code pc FT) 54 (.loc CD)) 121 (.int 0)))) tp.T (tp.cell CD 0 FR)) ?_
 intro σ2
 intros
 have k2:=@kp _ g2 _ _ [4,3] b5
 have y12:ButS (sel (gC2 M tp FT VL FR) [7,4,3]) σ1 σ2:=(kpB g2 [7] [7,4,3] x3 rfl).trans (kpB g2 [4,3] [7,4,3] b5 rfl)
 have hFRσ1:=xV.new hFR
 have y12f:ButS [tp.CL,tp.T] σ1 σ2:=fun i c n e=>y12 i c (nmc (live_ne e hFRσ1) n) e
 have hFRσ:σ FR=none:=b1.none (nig g2 [2] 7 (.head _) rfl) hFRσ1
 have z2:Fz Z' ML σ2:=z1.step ((y12f).wider fun a ha=>hML a (.tail _ (.tail _ (.tail _ ((Jc0.mp ha).elim (fun q=>q▸.tail _ (.head _)) fun q=>Ja4.mp q▸.head _)))))
 have zF:Fz Z' [FR,M.ST,M.TD] σ2:=⟨z2.sub,Ja7.mpr ⟨z1.sub.new hFRσ1,Ja7.mpr ⟨z1.out _ (hML _ (.head _)),Ja7.mpr ⟨z1.out _ (hML _ (.tail _ (.head _))),fun _ h=>(by cases h)⟩⟩⟩⟩
 refine ⟨rfl,attr_j (((htl.ext x1)).a126x z2.sub fun pl hplZ=>?_)⟩
 refine iter_l (z2.sub _ _ hplZ) ?_ ?_
 ·rw [Ja2];exact Ja1 hfew.1 (Ja0 rfl)
 have hst:=enter_start (rs:=ins.map fun e=>e.row sv fv) htk hs (List.forall_mem_map.mpr fun e he=>(Ie.ok_val (hi e he) hs hf).2.1) ((Ja2 _).trans hn)
 refine wpFor_map (ctE M.H (.loc tp.T) (.int t.num) (.tup (ins.map Ie.v)) (.tup (outs.map Out.v)) (.loc CD) (.int (t.slots.length+t.turns:Nat)) (.loc tl) VL FR) (CtI M FR told (ins.map fun e=>e.row sv fv) σ2 t.ports ⟨ins.map fun e=>e.row sv fv,frame0 t,sv,[]⟩) (⟨ins.map fun e=>e.row sv fv,frame0 t,sv,[]⟩,0)
  ⟨rfl,rfl,ButS.refl _ _,k2 7 (.head _) rfl eF3,k2 0 (.head _) rfl (k3 0 (.head _) rfl e1),(Jd3 told).symm▸k2 1 (.head _) rfl (k3 1 (.head _) rfl e5)⟩ (fun i p b σ' hp I=>?_) (fun b σ' I=>?_)
 ·have hE:b.1=enters (t.ports.take i) ⟨ins.map fun e=>e.row sv fv,frame0 t,sv,[]⟩:=I.rec fun e _ _ _ _ _=>e
  have hy:ButS [FR,M.ST,M.TD] σ2 σ':=I.rec fun _ _ y _ _ _=>y
  have htd2:=enters_td (t.ports.take i) ⟨ins.map fun e=>e.row sv fv,frame0 t,sv,[]⟩
  have okE:EnOk t (wid sv) (p::t.ports.drop (i+1)) b.1:=by
   rw [hE]
   refine enters_ok (t.ports.take i) _ (fun p hp=>htk.po p (Je6 hp)) ?_
   rw [← drop_take hp,List.take_append_drop];exact hst
  refine ⟨(zF.step hy).sub _ _ hplZ,_,rfl,fun Q9 q9=>?_⟩
  refine ct_step (k:=k) (s:=b.1) (at_:=b.2) L ((hm.ext x1)) zF (nd_sel g2 [7,0,1,6] rfl) (k2 6 (.head _) rfl (b3 _ _ (nine g2 6 7 (.head _) (.head _) rfl) (xF _ _ (by rw [Jh9];exact eV)))) ?_ okE (htk.po p (Ja9 hp)) hp ?_ I q9
  ·rw [Ja2];exact hil
  ·rw [← hE] at htd2
   have h3:=List.length_take_le i t.ports
   exact Ja1 (Jg1 htd (Ja1 htd2 (Je4 (Ja1 (Jg0 ..) hfew.1) _))) (Ja0 rfl)
 ·cases I with
  | mk e g y f1 f2 f3=>
  rw [Je2] at e
  have e:b.1=enterP t (ins.map fun e=>e.row sv fv) sv:=e
  rw [e] at f1 f2 f3
  have y':ButS (sel (gC2 M tp FT VL FR) [7,0,1]) σ2 σ':=y
  have k4:=@kp _ g2 _ _ [7,0,1] y'
  have b14:ButS [M.ST,M.TD,M.CP,tp.T,tp.CL] σ σ':=fun l c hl ec=>by
   have h7:=live_ne ec hFRσ
   exact ((kpB g2 [7,4,3] [7,4,3,0,1,2] y12 rfl).trans (kpB g2 [7,0,1] [7,4,3,0,1,2] y' rfl)) l c (nmc h7 fun q=>hl (sub_sel (gs:=gC2 M tp FT VL FR) [4,3,0,1,2] [0,1,2,3,4] rfl l q)) (b1 l c (fun q=>hl (Ja4.mp q▸.tail _ (.tail _ (.head _)))) ec)
  refine ⟨(zF.step y).sub _ _ hplZ,?_⟩
  exact q Z' σ' es' CD FR x1 ⟨(zF.step y).sub,z1.out⟩ b14 hFRσ f1 f2 f3 (k4 3 (.head _) rfl tcell) (k4 4 (.head _) rfl ccell) (k4 2 (.head _) rfl (k2 2 (.head _) rfl (k3 2 (.head _) rfl ecp))) hel hcp' hcode (z1.sub.new hFRσ1)
end
end
section
noncomputable def rls (sl:List Nat) (fl:List (Option Nat)):List Nat:=sl++fl.filterMap id
theorem mem_fm {fl:List (Option Nat)} {i h:Nat} (e:fl[i]?=some (some h)):h∈fl.filterMap id:=Jg4.mpr ⟨some h,Ja9 e,rfl⟩
theorem fm_inj {fl:List (Option Nat)} {h:Nat}:∀ {i j:Nat},(fl.filterMap id).Nodup→fl[i]?=some (some h)→fl[j]?=some (some h)→i=j:=by
 induction fl with
 | nil=>exact fun _ e _=>by cases e
 | cons a fl ih=>
  intro i j nd e e2
  have hd:a=some h→some (some h)∈fl.map some→False:=fun q hm=>by
   subst q
   obtain ⟨b,hb,q⟩:=Jf2.mp hm
   cases q
   exact (Jb6.mp nd).1 (Jg4.mpr ⟨_,hb,rfl⟩)
  cases i with
  | zero=>
   cases j with
   | zero=>rfl
   | succ j=>exact (hd (Jb7 e) (Jf2.mpr ⟨_,Ja9 e2,rfl⟩)).elim
  | succ i=>
   cases j with
   | zero=>exact (hd (Jb7 e2) (Jf2.mpr ⟨_,Ja9 e,rfl⟩)).elim
   | succ j=>
    refine congrArg Nat.succ (ih ?_ e e2)
    cases a with
    | none=>exact nd
    | some a=>exact (Jb6.mp nd).2
theorem RowsAt.keep {σ σ':St} {F:Nat} {fl:List (Option Nat)} {fv:List (Option (List Int))} (h:RowsAt σ F fl fv) (hF:∀ c,σ F=some c→σ' F=some c) (hr:∀ l∈fl.filterMap id,∀ c,σ l=some c→σ' l=some c):RowsAt σ' F fl fv:=
 ⟨hF _ h.at_,h.len,fun i a r h1 h2=>by
  have:=h.row i a r h1 h2
  cases a with
  | none=>cases r <;> exact this
  | some l=>cases r with
   | none=>exact this.elim
   | some r=>exact hr l (mem_fm h1) _ this⟩
theorem RowsAt.buts {σ σ':St} {F:Nat} {fl:List (Option Nat)} {fv:List (Option (List Int))} {L:List Nat} (h:RowsAt σ F fl fv) (b:ButS L σ σ') (hF:F∉L) (hr:∀ l∈fl.filterMap id,l∉L):RowsAt σ' F fl fv:=
 h.keep (fun c e=>b _ _ hF e) fun l hl c e=>b _ _ (hr l hl) e
theorem RowsAt.set {σ:St} {F:Nat} {fl:List (Option Nat)} {fv:List (Option (List Int))} (h:RowsAt σ F fl fv) {i l:Nat} {r:List Int} (hi:fl[i]?=some (some l)) (nd:(fl.filterMap id).Nodup) (hF:F≠l):RowsAt (upd σ l (rowC r)) F fl (fv.set i (some r)):=by
 refine ⟨by rw [upd_ne _ _ hF];exact h.at_,by rw [List.length_set];exact h.len,fun j a r' h1 h2=>?_⟩
 rw [Jh7] at h2
 by_cases q:i=j
 ·subst q
  rw [hi] at h1;cases h1
  rw [if_pos rfl] at h2
  split at h2
  ·cases h2;exact upd_self ..
  ·cases h2
 ·rw [if_neg q] at h2
  have:=h.row j a r' h1 h2
  cases a with
  | none=>cases r' <;> exact this
  | some l'=>cases r' with
   | none=>exact this.elim
   | some r'=>
    show upd σ l (rowC r) l'=_
    rw [upd_ne _ _ (fun e=>by subst e;exact q (fm_inj nd hi h1))];exact this
theorem RowsAt.live {σ:St} {F:Nat} {fl:List (Option Nat)} {fv:List (Option (List Int))} (h:RowsAt σ F fl fv) {l:Nat} (hl:l∈fl.filterMap id):∃ r,σ l=some (rowC r):=by
 refine gabs fun gG gK=>?_
 obtain ⟨a,ha,e⟩:=Jg4.mp hl
 refine gK ?_
 simp at e;subst e
 obtain ⟨i,hi⟩:=List.mem_iff_getElem?.mp ha
 have hlt:=(Ja3.mp hi).1
 have:=h.row i _ _ hi (Ja5 (by rw [← h.len];exact hlt))
 cases q:fv[i]'(by rw [← h.len];exact hlt) with
 | none=>rw [q] at this;exact this.elim
 | some r=>rw [q] at this;exact ⟨r,this⟩
theorem fm_map (sl:List Nat):(sl.map some).filterMap id=sl:=by rw [List.filterMap_map];exact List.filterMap_some
section
variable {Γ:Gl} {k:Nat} {σ Z:St}
seal itemV attrV setAV setIV biV listM methL sliceV iterV inV newV look put
theorem put_inner {H P:Nat} {h src:List Int} {lo:Int} {m:List (Nat×V)} {Q:SPost} (h83:look m 83=some (.loc H)) (h100:look m 100=some (.int lo)) (h123:look m 123=some (.loc P))
  (eH:σ H=some (rowC h)) (eP:σ P=some (rowC src)) (hne:P≠H) (hl:src.length≤100) (hh:h.length≤100) (q:∀ m',Q .next m' (upd σ H (rowC (paste h lo src)))) :
  wpFor (fun _=>True) (fun y m=>some (put m 86 y)) (wpSs (wpS Γ k [] 8) [.ifs (.chain .le .lt (.int 0) (.bin .Add (.var 100) (.var 86)) (.bi 199 [(.var 83)])) [.setI (.var 83) (.bin .Add (.var 100) (.var 86)) (.item (.var 123) (.var 86))] []]) (upTo src.length) m σ Q:=by
 let Iq1:Nat→List (Nat×V)→St→Prop:=fun i m' σ'=>(∀ x,x≠86→look m' x=look m x)∧σ'=upd σ H (rowC (paste h lo (src.take i)))
 refine wpFor_inv Iq1 ⟨fun _ _=>rfl,by rw [List.take_zero,paste_nil,upd_same eH]⟩ (fun i y m' σ' hy hI=>?_) (fun m' σ' hI=>?_)
 ·refine gabs fun gG gK=>?_
  obtain ⟨hm,rfl⟩:=hI
  obtain ⟨rfl,hi⟩:=upTo_some hy
  obtain ⟨p1,p2⟩:=paste_step (h:=h) (lo:=lo) hi
  refine gK ?_
  have eP':∀ cc,upd σ H cc P=some (rowC src):=fun cc=>by rw [upd_ne _ _ hne];exact eP
  refine ⟨trivial,_,rfl,fun Q9 q9=>?_⟩
  have f83:look (put m' 86 (.int i)) 83=some (.loc H):=by rw [look_put,if_neg (by decide),hm _ (by decide),h83]
  have f100:look (put m' 86 (.int i)) 100=some (.int lo):=by rw [look_put,if_neg (by decide),hm _ (by decide),h100]
  have f123:look (put m' 86 (.int i)) 123=some (.loc P):=by rw [look_put,if_neg (by decide),hm _ (by decide),h123]
  have f86:look (put m' 86 (.int i)) 86=some (.int i):=by rw [look_put,if_pos rfl]
  have hm':∀ x,x≠86→look (put m' 86 (.int i)) x=look m x:=fun x hx=>by rw [look_put,if_neg hx,hm x hx]
  revert f83 f100 f123 f86 hm'
  refine gen (put m' 86 (.int i)) ?_
  intro m2
  intros
  conv=>whnf
  rw [f100]
  conv=>whnf
  rw [f86]
  refine ifB_intro (fun h1=>?_) (fun h1=>?_)
  ·have h1:0≤lo+i:=by simpa [cmpI] using h1
   conv=>whnf
   rw [f83]
   refine len_l (upd_self ..) (by simp [paste_len];lia) ?_
   refine ifB_intro (fun h2=>?_) (fun h2=>?_)
   ·have h2:lo+i<h.length:=by simpa [cmpI,paste_len] using h2
    conv=>whnf
    rw [f123]
    conv=>whnf
    rw [f86]
    refine item_l (r:=.int src[i]) (eP' _) (by lia) (by simp [hi]) ?_ (by lia)
    conv=>whnf
    rw [f83]
    conv=>whnf
    rw [f100]
    conv=>whnf
    rw [f86]
    refine setI_l (upd_self ..) h1 (by simp [paste_len];lia) (by lia) ?_
    conv=>whnf
    rw [upd_upd]
    refine (q9 _ _ _ ⟨hm',?_⟩)
    rw [p1 ⟨h1,h2⟩,rowC,Je0]
   ·have h2:¬ lo+i<h.length:=by simpa [cmpI,paste_len] using h2
    exact (q9 _ _ _ ⟨hm',by rw [p2 fun h=>h2 h.2]⟩)
  ·have h1:¬ 0≤lo+i:=by simpa [cmpI] using h1
   refine .f rfl ?_
   exact (q9 _ _ _ ⟨hm',by rw [p2 fun h=>h1 h.1]⟩)
 ·obtain ⟨hm,rfl⟩:=hI
  refine ⟨trivial,?_⟩
  have:=q m'
  rw [upTo_len,Je2]
  exact this
end
end
section
noncomputable abbrev Fd:=Nat×Wr×Nat
noncomputable def Fd.v (f:Fd):V:=.tup [.loc f.1,.int f.2.1.lo,.loc f.2.2]
structure FdOk (σ:St) (row:List Int) (sl:List Nat) (fl:List (Option Nat)) (f:Fd):Prop where
 sig:f.2.1.loc=false→sl[f.2.1.ref]?=some f.1
 frm:f.2.1.loc=true→fl[f.2.1.ref]?=some (some f.1)
 src:σ f.2.2=some (rowC (f.2.1.src row))
 out:f.2.2∉rls sl fl
structure LW (σ:St) (S:Nat) (sl:List Nat) (F:Nat) (fl:List (Option Nat)) (s:Wd):Prop where
 sg:RowsAt σ S (sl.map some) (s.1.map some)
 fr:RowsAt σ F fl s.2
section
variable {Γ:Gl} {k:Nat} {σ Z:St} {S F:Nat} {sl:List Nat} {fl:List (Option Nat)}
seal itemV attrV setAV setIV biV listM methL sliceV iterV inV newV look put
theorem nd_split (nd:(rls sl fl).Nodup):((sl.map some).filterMap id).Nodup∧(fl.filterMap id).Nodup∧∀ a∈sl,a∉fl.filterMap id:=by
 rw [rls,Jc2] at nd
 rw [fm_map]
 exact ⟨nd.1,nd.2.1,fun a ha hb=>nd.2.2 a ha a hb rfl⟩
theorem LW.runW (nd:(rls sl fl).Nodup) (hSn:S∉rls sl fl) (hFn:F∉rls sl fl) {row:List Int} {s:Wd} {h:Nat} {x:Wr} (w:LW σ S sl F fl s) (a1:x.loc=false→sl[x.ref]?=some h) (a2:x.loc=true→fl[x.ref]?=some (some h)) (wk:WOk row s.1.length (shp s.2) x) (h1:SOk s.1) (h2:FOk s.2) :
  ∃ r0,σ h=some (rowC r0)∧h∈rls sl fl∧r0.length≤100∧LW (upd σ h (rowC (paste r0 x.lo (x.src row)))) S sl F fl (x.run row s):=by
 obtain ⟨n1,n2,n3⟩:=nd_split nd
 unfold Wr.run
 cases el:x.loc with
 | false=>
  have e1:=a1 el
  have e1m:(sl.map some)[x.ref]?=some (some h):=(Ja8 ..).trans (congrArg (Je7 some) e1)
  have hlt:=wk.sig el
  have e2:s.1[x.ref]?=some s.1[x.ref]:=Ja5 hlt
  have hm:h∈rls sl fl:=Jd2 _ (Ja9 e1)
  refine ⟨_,w.sg.row x.ref (some h) (some s.1[x.ref]) e1m ((Ja8 ..).trans (congrArg (Je7 some) e2)),hm,Ja1 (h1.at e2).2.2 (Ja0 rfl),?_,w.fr.keep (fun c e=>(upd_ne _ _ fun q:F=h=>hFn (q▸hm)).trans e) fun l hl c e=>(upd_ne _ _ fun q:l=h=>n3 h (Ja9 e1) (q▸hl)).trans e⟩
  show RowsAt _ _ _ ((s.1.set x.ref (paste (s.1.getD x.ref []) x.lo _)).map some)
  rw [Je0,Ja6,e2]
  exact w.sg.set e1m n1 fun q=>hSn (q▸hm)
 | true=>
  have e1:=a2 el
  obtain ⟨w0,hw0⟩:=wk.frm el
  obtain ⟨r0,e2,_⟩:=shp_some hw0
  have hm:h∈rls sl fl:=Je8 _ (mem_fm e1)
  refine ⟨r0,w.fr.row x.ref (some h) (some r0) e1 e2,hm,Ja1 (h2.at e2).2.2 (Ja0 rfl),w.sg.keep (fun c e=>(upd_ne _ _ fun q:S=h=>hSn (q▸hm)).trans e) fun l hl c e=>(upd_ne _ _ fun q:l=h=>n3 l (fm_map sl▸hl) (q▸mem_fm e1)).trans e,?_⟩
  show RowsAt _ _ _ (s.2.set x.ref ((s.2.getD x.ref none).map fun h=>paste h x.lo _))
  rw [Ja6,e2]
  exact w.fr.set e1 n2 fun q=>hFn (q▸hm)
noncomputable def ldS:List Mine.S:=[.for1 86 true (.bi 199 [(.var 123)]) [.ifs (.chain .le .lt (.int 0) (.bin .Add (.var 100) (.var 86)) (.bi 199 [(.var 83)])) [.setI (.var 83) (.bin .Add (.var 100) (.var 86)) (.item (.var 123) (.var 86))] []]]
theorem put_turn {m:List (Nat×V)} {h p:Nat} {lo:Int} {src r0:List Int} {Q9:SPost} (eP:σ p=some (rowC src)) (e:σ h=some (rowC r0)) (ne:p≠h) (hsl:src.length≤100) (hl:r0.length≤100) (q:∀ m',Q9 .next m' (upd σ h (rowC (paste r0 lo src)))) :
  wpSs (wpS Γ k [] 9) ldS (put (put (put m 83 (V.loc h)) 100 (.int lo)) 123 (.loc p)) σ Q9:=by
 have f123:look (put (put (put m 83 (V.loc h)) 100 (.int lo)) 123 (.loc p)) 123=some (.loc p):=by rw [look_put,if_pos rfl]
 have f83:look (put (put (put m 83 (V.loc h)) 100 (.int lo)) 123 (.loc p)) 83=some (.loc h):=by rw [look_put,if_neg (by decide),look_put,if_neg (by decide),look_put,if_pos rfl]
 have f100:look (put (put (put m 83 (V.loc h)) 100 (.int lo)) 123 (.loc p)) 100=some (.int lo):=by rw [look_put,if_neg (by decide),look_put,if_pos rfl]
 revert f123 f83 f100
 refine gen (put (put (put m 83 (V.loc h)) 100 (.int lo)) 123 (.loc p)) ?_
 intro m2
 intros
 have hn:(src.map V.int).length=src.length:=Ja2 ..
 refine ⟨rfl,?_⟩
 conv=>whnf
 rw [f123]
 refine len_l eP (hn.symm▸Ja1 hsl (Ja0 rfl)) ?_
 rw [hn]
 refine iter_r (Jb0 _) (Jf6.mpr (Ja1 hsl (Ja0 rfl))) ?_
 exact put_inner f83 f100 f123 e eP ne hsl hl q
theorem put_loop2 (nd:(rls sl fl).Nodup) (hSn:S∉rls sl fl) (hFn:F∉rls sl fl) {FD:Nat} {fs:List Fd} {row:List Int} {s0:Wd} {m:List (Nat×V)} {Q:SPost} (hr:Cells row) (hrl:row.length≤100) (h1:SOk s0.1) (h2:FOk s0.2) (hFD:FD∉rls sl fl)
  (eFD:σ FD=some (.list (fs.map Fd.v))) (hw:LW σ S sl F fl s0) (hok:∀ f∈fs,FdOk σ row sl fl f) (hwr:∀ f∈fs,WOk row s0.1.length (shp s0.2) f.2.1)
  (q:∀ m' σ',ButS (rls sl fl) σ σ'→LW σ' S sl F fl ((fs.map (·.2.1)).foldl (Wr.run row) s0)→Q .next m' σ') :
  wpFor (fun σ'=>σ' FD=some (.list (fs.map Fd.v))) (fun y m=>unpackV [83,100,123] y m) (wpSs (wpS Γ k [] 9) [.for1 86 true (.bi 199 [(.var 123)]) [.ifs (.chain .le .lt (.int 0) (.bin .Add (.var 100) (.var 86)) (.bi 199 [(.var 83)])) [.setI (.var 83) (.bin .Add (.var 100) (.var 86)) (.item (.var 123) (.var 86))] []]]) (fs.map Fd.v) m σ Q:=by
 let Iq1:Nat→List (Nat×V)→St→Prop:=fun i m' σ'=>ButS (rls sl fl) σ σ'∧LW σ' S sl F fl (((fs.take i).map (·.2.1)).foldl (Wr.run row) s0)
 refine wpFor_inv Iq1 ⟨ButS.refl _ _,hw⟩ (fun i y m' σ' hy hI=>?_) (fun m' σ' hI=>?_)
 ·refine gabs fun gG gK=>?_
  obtain ⟨b,w⟩:=hI
  obtain ⟨f,hf,rfl⟩:=Option.map_eq_some_iff.mp ((Ja8 ..).symm.trans hy)
  obtain ⟨hi,e⟩:=Ja3.mp hf
  have hm:=Ja9 hf
  have ok:=hok _ hm
  have wk:=hwr _ hm
  obtain ⟨y1,y2,y3,y4⟩:=runs_shape hr (fun x hx=>by obtain ⟨f,hf,rfl⟩:=Jf2.mp hx;exact hwr f (Je6 hf):∀ x∈(fs.take i).map (·.2.1),_) h1 h2
  rw [← y4,← wid_len y3] at wk
  obtain ⟨r0,e0,hmr,hl0,w'⟩:=w.runW nd hSn hFn ok.sig ok.frm wk y1 y2
  refine gK ?_
  refine ⟨b _ _ hFD eFD,_,rfl,fun Q9 q9=>?_⟩
  refine put_turn (b _ _ ok.out ok.src) e0 (fun q=>ok.out (q▸hmr)) (Ja1 (Jg0 ..) (Ja1 (List.length_drop▸Nat.sub_le _ _) hrl)) hl0 fun m3=>q9 _ _ _ ⟨b.set _ (.inl hmr),?_⟩
  rw [List.take_add_one,hf,Jb5,Jh8]
  exact w'
 ·obtain ⟨b,w⟩:=hI
  have:fs.take (fs.map Fd.v).length=fs:=by rw [Ja2,Je2]
  rw [this] at w
  exact ⟨b _ _ hFD eFD,q m' σ' b w⟩
end
end
section
section
variable {Γ:Gl} {k:Nat} {σ Z:St} {SL F:Nat} {sl:List Nat} {fl:List (Option Nat)}
seal itemV attrV setAV setIV biV listM methL sliceV iterV inV newV
theorem rls_live {s:Wd} (w:LW σ SL sl F fl s) {l:Nat} (h:l∈rls sl fl):∃ r,σ l=some (rowC r):=by
 rcases Jd0.mp h with q | q
 ·exact w.sg.live (by rw [fm_map];exact q)
 ·exact w.fr.live q
theorem LW.ext {σ':St} {s:Wd} (w:LW σ SL sl F fl s) (x:Ext σ σ'):LW σ' SL sl F fl s:=⟨w.sg.ext x,w.fr.ext x⟩
theorem tot_drop (ps:List Pt):∀ (i:Nat),tot (ps.drop i)≤tot ps:=by
 induction ps with
 | nil=>intro i;rw [List.drop_nil];exact Jd7 _
 | cons p ps ih=>
  intro i
  cases i with
  | zero=>exact Jd7 _
  | succ i=>exact Ja1 (ih i) (Jf3 ..)
theorem kO_i {n:Int} {Q:Option Int→St→Prop} (h:n.natAbs<2 ^ 62) (q:Q (some n) σ):kO Q (.int n) σ:=by
 show (match partV (.int n) with | some k=>Q (some k) σ | none=>False)
 rw [partV_int h];exact q
theorem list_ne {a b:Nat} {xs:List V} {ys:List Int} {t:List V} (h1:σ a=some (rowC ys)) (h2:σ b=some (.list xs)) (h3:V.tup t∈xs):a≠b:=fun q=>by
 rw [q,h2] at h1
 have h4:xs=ys.map V.int:=Cell.list.inj (Jb7 h1)
 rw [h4] at h3
 exact (Jf2.mp h3).elim fun c h=>nomatch h.2
theorem src_eq {row:List Int} {lo:Int} {lc:Bool} {ref w a:Nat}:Cell.list (((row.map V.int).drop (a:Int).toNat).take (((a:Int)+w).toNat - (a:Int).toNat))=rowC ((⟨lc,ref,lo,w,a⟩:Wr).src row):=by
 have h:((a:Int)+w).toNat - (a:Int).toNat=w:=Nat.add_sub_cancel_left a w
 rw [h,Wr.src,rowC,List.map_take,List.map_drop];rfl
theorem pt_row {s:Wd} {p:Pt} (w:LW σ SL sl F fl s) (hpt:PtOk s.1.length (shp s.2) p):∃ h,(p.loc=false→sl[p.ref]?=some h∧((sl.map some).map optV)[p.ref]?=some (.loc h))∧(p.loc=true→fl[p.ref]?=some (some h)∧(fl.map optV)[p.ref]?=some (.loc h)):=by
 cases el:p.loc with
 | false=>
  have hs:sl.length=s.1.length:=(Ja2 (as:=sl) some).symm.trans (w.sg.len.trans (Ja2 _))
  have hlt:p.ref<sl.length:=hs.symm▸hpt.sig el
  have hh:=Ja5 hlt
  exact ⟨_,fun _=>⟨hh,(Ja8 ..).trans (congrArg (Je7 optV) ((Ja8 ..).trans (congrArg (Je7 some) hh)))⟩,(fun q=>(by cases q))⟩
 | true=>
  refine (hpt.frm el).elim fun w0 hw=>(shp_some hw).elim fun r0 hr=>(w.fr.get hr.1).elim fun h q=>⟨h,(fun q=>(by cases q)),fun _=>⟨q.1,q.2.2⟩⟩
theorem item_v {v:V} {xs:List V} {i:Int} {r:V} {Q:V→St→Prop} (e:v=.tup xs) (h0:0≤i) (hx:xs[i.toNat]?=some r) (q:Q r σ) (h1:i<2 ^ 62:=by decide):itemV v (.int i) σ Q:=e▸item_t h0 hx q h1
theorem bop_sub {v:V} {n m:Int} {Q:V→St→Prop} (e:v=.int n) (q:Q (.int (n - m)) σ):bop .Sub v (.int m) σ Q:=by subst e;exact q
theorem wr_some {sv:List (List Int)} {p:Pt} {qs:List Pt} {lo:Int} (h:p.wh.lo sv=some lo):wrsA sv (p::qs)=[⟨p.loc,p.ref,lo,p.w,tot qs⟩]++wrsA sv qs:=by rw [wrsA,h]
theorem wr_none {sv:List (List Int)} {p:Pt} {qs:List Pt} (h:p.wh.lo sv=none):wrsA sv (p::qs)=wrsA sv qs:=by rw [wrsA,h];rfl
theorem wh_cases {wh:Wh} {G:Prop} (h1:∀ lo,wh=.at lo→G) (h2:∀ w j sg off sgn,wh=.pick w j sg off sgn→G):G:=by
 cases wh with
 | «at» lo=>exact h1 lo rfl
 | pick w j sg off sgn=>exact h2 w j sg off sgn rfl
theorem ifB_item' {b:Bool} {l1 l2:Nat} {i:Int} {Q:V→St→Prop} {xs ys:List V} {r:V} (e1:σ l1=some (.list xs)) (e2:σ l2=some (.list ys)) (h0:0≤i) (h1:i<2 ^ 62) (c1:b=true→xs[i.toNat]?=some r) (c2:b=false→ys[i.toNat]?=some r) (q:Q r σ):ifB b (itemV (.loc l1) (.int i) σ Q) (itemV (.loc l2) (.int i) σ Q):=
 ifB_intro (fun h=>item_l e1 h0 (c1 h) q h1) fun h=>item_l e2 h0 (c2 h) q h1
noncomputable def ptE (u:V) (R0 SL F FD:Nat) (b:List Pt×List Fd):List (Nat×V):=[(105,u),(136,.loc R0),(150,.loc SL),(76,.loc F),(75,.loc FD),(104,.int (tot b.1:Nat))]
noncomputable def ptE1 (u:V) (R0 SL F FD:Nat) (p:Pt) (n lo:Int) (t:List (Nat×V)):List (Nat×V):=[(105,u),(136,.loc R0),(150,.loc SL),(76,.loc F),(75,.loc FD),(104,.int n),(95,kindV p.loc),(177,.int p.w),(127,.int p.ref),(183,.none),(179,p.wh.v),(100,.int lo)]++t
theorem sub_ptE {u:V} {R0 FD:Nat} {qs:List Pt} {fs:List Fd} {nn:Int} {t:List (Nat×V)} (hn:nn=(tot qs:Nat)):SubE (ptE u R0 SL F FD (qs,fs)) ([(105,u),(136,.loc R0),(150,.loc SL),(76,.loc F),(75,.loc FD),(104,.int nn)]++t):=by subst hn;exact SubE.app _ _
inductive PtI (σ:St) (row:List Int) (sl:List Nat) (fl:List (Option Nat)) (FD:Nat) (sv:List (List Int)) (ps:List Pt) (i:Nat) (b:List Pt×List Fd) (σ':St):Prop
 | mk (d:b.1=ps.drop i) (e1:b.2.map (·.2.1)++wrsA sv b.1=wrsA sv ps) (n:b.2.length≤i) (x:Ext σ σ') (f:σ' FD=some (.list (b.2.map Fd.v))) (ok:∀ f∈b.2,FdOk σ' row sl fl f)
theorem abs62 {n:Nat} (h:n≤1000):(n:Int).natAbs<2 ^ 62:=Jc9 h (Ja0 rfl)
theorem pt_tail (L:Lib Γ) {s:Wd} {row:List Int} {ps qs:List Pt} {p:Pt} {FD R0 i:Nat} {u:V} {σ0 σ' σ1:St} {fs:List Fd} {lo nn:Int} {t:List (Nat×V)} {Q:SPost} (hn:nn=(tot qs:Nat)) (w1:LW σ1 SL sl F fl s) (eR:σ1 R0=some (rowC row)) (hrl:row.length≤50) (hpt:PtOk s.1.length (shp s.2) p) (htl:tot qs+p.w≤row.length) (hFD:σ0 FD=none) (hi:i≤100)
  (d:qs=ps.drop (i+1)) (e1:fs.map (·.2.1)++([⟨p.loc,p.ref,lo,p.w,tot qs⟩]++wrsA s.1 qs)=wrsA s.1 ps) (n:fs.length≤i) (x:Ext σ0 σ') (x1:Ext σ' σ1) (eF:σ' FD=some (.list (fs.map Fd.v))) (ok:∀ f∈fs,FdOk σ' row sl fl f) {Q9:SPost} (q9:Le (invQ (EnvI (ptE u R0 SL F FD) (PtI σ0 row sl fl FD s.1 ps (i+1))) Q) Q9) :
  wpSs (wpS Γ (k+2) [] 9) [.expr (.meth (.var 75) 37 [(.tup [(.ite (.cmp .eq (.var 95) (.str 146)) (.item (.var 150) (.var 127)) (.item (.var 76) (.var 127))),(.var 100),(.slice (.var 136) (some (.var 104)) (some (.bin .Add (.var 104) (.var 177))))])])]
   (ptE1 u R0 SL F FD p nn lo t) σ1 Q9:=by
 subst hn
 have eF1:=x1 _ _ eF
 refine (pt_row w1 hpt).elim fun h hh=>?_
 have h50:tot qs≤50:=Ja1 (Nat.le_of_add_right_le htl) hrl
 have hpr:=hpt.ref
 refine meth_l eF1 ?_
 refine ⟨rfl,?_⟩
 refine ifB_item' w1.sg.at_ w1.fr.at_ (Jb0 _) (c62' hpr) (fun e=>(hh.1 (by rw [kind_beq'] at e;exact (Jg2 _).mp e)).2) (fun e=>(hh.2 (by rw [kind_beq'] at e;exact (Jh5 _).mp e)).2) ?_
 refine kO_i (abs62 (Ja1 h50 (Ja0 rfl))) ?_
 refine kO_i (show (((tot qs+p.w:Nat):Int)).natAbs<2 ^ 62 from abs62 (Ja1 htl (Ja1 hrl (Ja0 rfl)))) ?_
 refine slice_m (h:=((tot qs:Nat):Int)+p.w) eR ((Ja2 (as:=row) V.int).symm▸Ja1 hrl (Ja0 rfl)) (Jb0 _) (Int.le_add_of_nonneg_right (Jb0 _)) ((Ja2 (as:=row) V.int).symm▸Jf6.mpr htl) fun P hP=>?_
 have x2:Ext σ1 (upd σ1 P (rowC ((⟨p.loc,p.ref,lo,p.w,tot qs⟩:Wr).src row))):=(Ext.refl σ1).upd hP _
 have eP:upd σ1 P (rowC ((⟨p.loc,p.ref,lo,p.w,tot qs⟩:Wr).src row)) P=some (rowC ((⟨p.loc,p.ref,lo,p.w,tot qs⟩:Wr).src row)):=upd_self ..
 rw [src_eq (lc:=p.loc) (ref:=p.ref) (lo:=lo)]
 revert x2 eP
 refine gen (upd σ1 P (rowC ((⟨p.loc,p.ref,lo,p.w,tot qs⟩:Wr).src row))) ?_
 intro σ2
 intros
 refine append_l (x2 _ _ eF1) ((Ja2 (as:=fs) Fd.v).symm▸Ja1 n (Ja1 hi (Ja0 rfl))) ?_
 have ea:fs.map Fd.v++[.tup [.loc h,.int lo,.loc P]]=(fs++[((h,⟨p.loc,p.ref,lo,p.w,tot qs⟩,P):Fd)]).map Fd.v:=by rw [Jb5];rfl
 have hPF:P≠FD:=Ne.symm (live_ne eF1 hP)
 refine okZ (q9 _ _ _ ⟨(qs,fs++[((h,⟨p.loc,p.ref,lo,p.w,tot qs⟩,P):Fd)]),SubE.app _ _,?_⟩)
 show PtI _ _ _ _ _ _ _ _ _ (upd σ2 FD (.list (fs.map Fd.v++[.tup [.loc h,.int lo,.loc P]])))
 rw [ea]
 have x02:=(x.trans x1).trans x2
 have hnew:FdOk (upd σ2 FD (.list ((fs++[((h,⟨p.loc,p.ref,lo,p.w,tot qs⟩,P):Fd)]).map Fd.v))) row sl fl (h,⟨p.loc,p.ref,lo,p.w,tot qs⟩,P):=⟨fun e=>(hh.1 e).1,fun e=>(hh.2 e).1,(upd_ne _ _ hPF).trans eP,fun q=>(rls_live w1 q).elim fun r e=>some_ne e hP⟩
 refine ⟨d,?_,?_,fun l c e=>(upd_ne _ _ (live_ne e hFD)).trans (x02 _ _ e),upd_self ..,Jb8.mpr ⟨fun f hf=>⟨(ok f hf).sig,(ok f hf).frm,(upd_ne _ _ (list_ne (ok f hf).src eF (Jf2.mpr ⟨f,hf,rfl⟩))).trans (x2 _ _ (x1 _ _ (ok f hf).src)),(ok f hf).out⟩,fun f hf=>(Ja4.mp hf).symm▸hnew⟩⟩
 ·rw [Jb5,Jd9];exact e1
 ·rw [Jb2];exact Je9 n
theorem spec_put (L:Lib Γ) {Q:V→St→Prop} {R0:Nat} {s:Wd} {row:List Int} {ps:List Pt} (w:LW σ SL sl F fl s) (nd:(rls sl fl).Nodup) (hSn:SL∉rls sl fl) (hFn:F∉rls sl fl) (eR:σ R0=some (rowC row)) (hR:R0∉rls sl fl)
  (h1:SOk s.1) (h2:FOk s.2) (hr:Rok row) (hp:∀ p∈ps,PtOk s.1.length (shp s.2) p) (hl:ps.length≤100) (htot:tot ps=row.length) (hn:s.1.length≤10000)
  (q:∀ σ',ButS (rls sl fl) σ σ'→LW σ' SL sl F fl (asgP row ps s)→Q .none σ'):WC Γ (k+3) (.glob 21) [lvV (tot ps) ps,.loc R0,.loc SL,.loc F] σ Q:=by
 refine WC_def (n:=10) (L.fns 36 _ _ _ _ rfl) rfl ?_
 intro FD hFD
 have x0:Ext σ (upd σ FD (.list [])):=(Ext.refl σ).upd hFD _
 have eFD:upd σ FD (.list []) FD=some (.list []):=upd_self ..
 show wpSs _ _ _ (upd σ FD (.list [])) _
 revert x0 eFD
 refine gen (upd σ FD (.list [])) ?_
 intro σF
 intros
 refine item_t (by decide) rfl ?_ (by decide)
 refine ⟨rfl,?_⟩
 refine item_t (by decide) rfl ?_ (by decide)
 refine iter_t ?_
 have hrl:=hr.2.2
 have hFDn:FD∉rls sl fl:=fun q=>(rls_live w q).elim fun r e=>some_ne e hFD
 refine wpFor_map (ptE (lvV (tot ps) ps) R0 SL F FD) (PtI σ row sl fl FD s.1 ps) (ps,[]) ⟨rfl,rfl,Jd7 _,x0,eFD,fun f hf=>(by cases hf)⟩ (fun i p b σ' hx I=>?_) (fun b σ' I=>?_)
 ·cases I with
  | mk d e1 n x eF ok=>
  have hi:=(Ja3.mp hx).1
  have hi2:i≤100:=Ja1 (Jc4 hi) hl
  have hpt:=hp p (Ja9 hx)
  rw [drop_take hx] at d
  have htl:tot b.1≤row.length:=by rw [d,← drop_take hx,← htot];exact tot_drop ps i
  have w':=w.ext x
  have tle:((tot b.1:Nat):Int) - p.w=(tot (ps.drop (i+1)):Nat):=by rw [d];exact (congrArg (· - (p.w:Int)) (Int.natCast_add ..)).trans (by lia)
  have htl':tot (ps.drop (i+1))+p.w≤row.length:=by rw [d] at htl;exact Ja1 (Je5 (Nat.add_comm ..)) htl
  rw [d] at e1
  refine ⟨trivial,_,rfl,fun Q9 q9=>⟨rfl,?_⟩⟩
  refine wh_cases (wh:=p.wh) (fun lo ewh=>?_) (fun w0 j sg off sgn ewh=>?_)
  ·have ev:=congrArg Wh.v ewh
   have elo:p.wh.lo s.1=some lo:=congrArg (Wh.lo s.1) ewh
   refine item_v ev (by decide) rfl ?_
   refine item_v ev (by decide) rfl ?_
   refine ifB.f rfl ?_
   exact pt_tail (k:=k) (t:=[]) L tle w' (x _ _ eR) hrl hpt htl' hFD hi2 rfl (wr_some elo▸e1) n x (Ext.refl _) eF ok q9
  ·have ev:=congrArg Wh.v ewh
   have hwh:=hpt.wh
   rw [ewh] at hwh
   have hjl:s.1[j]?=some s.1[j]:=Ja5 hwh.1
   have hrk:=h1.at hjl
   have elo:p.wh.lo s.1=(numL s.1[j] sg).map fun n=>(n - off) * sgn:=(congrArg (Wh.lo s.1) ewh).trans (congrArg (fun r=>(numL r sg).map fun n=>(n - off) * sgn) (by rw [Ja6,hjl];rfl))
   refine item_v ev (by decide) rfl ?_
   refine item_v ev (by decide) rfl ?_
   refine ifB.t rfl ?_
   refine item_v ev (by decide) rfl ?_
   refine spec_value (k:=k) (e:=.sig w0 j) (r:=s.1[j]) L w'.sg w'.fr (by show (s.1.map some).getD j none=_;rw [Ja6,Ja8,hjl];rfl) hrk.1 (Ja1 hrk.2.2 (Ja0 rfl)) (fun w2 i2 q=>q.elim (fun q=>(Ie.sig.inj q).2▸Ja1 (Jc4 hwh.1) hn) fun q=>(by cases q)) fun l1 σ1 x1 hl1 el1=>?_
   refine item_v ev (by decide) rfl ?_
   refine spec_number (k:=k+1) L el1 hrk.1 hrk.2.1 (Ja1 hrk.2.2 (Ja0 rfl)) fun σ2 x2=>?_
   have x12:=x1.trans x2
   cases enum:numL s.1[j] sg with
   | none=>
    have en:numV s.1[j] sg=.none:=by unfold numV;rw [enum]
    rw [enum] at elo
    refine ifB.t (congrArg isNoneV en) ?_
    exact (q9 _ _ _ ⟨(ps.drop (i+1),b.2),sub_ptE tle,rfl,wr_none elo▸e1,Jg3 n,x.trans x12,x12 _ _ eF,fun f hf=>⟨(ok f hf).sig,(ok f hf).frm,x12 _ _ (ok f hf).src,(ok f hf).out⟩⟩)
   | some n0=>
    have en:numV s.1[j] sg=.int n0:=by unfold numV;rw [enum]
    rw [enum] at elo
    refine ifB.f (congrArg isNoneV en) ?_
    refine item_v ev (by decide) rfl ?_
    refine bop_sub en ?_
    refine item_v ev (by decide) rfl ?_
    refine ⟨.inr (hwh.2.elim (fun h=>h▸by decide) fun h=>h▸by decide),?_⟩
    exact pt_tail (k:=k) (t:=[(112,numV s.1[j] sg)]) L tle (w'.ext x12) (x12 _ _ (x _ _ eR)) hrl hpt htl' hFD hi2 rfl (wr_some elo▸e1) n x x12 eF ok q9
 ·cases I with
  | mk d e1 n x eF ok=>
  rw [List.drop_length] at d
  rw [d] at e1
  have e1:b.2.map (·.2.1)=wrsA s.1 ps:=(Jd3 _).symm.trans e1
  refine ⟨trivial,rfl,?_⟩
  refine iter_l eF ((Ja2 (as:=b.2) Fd.v).symm▸Ja1 n (Ja1 hl (Ja0 rfl))) ?_
  refine put_loop2 nd hSn hFn hr.1 (Ja1 hrl (Ja0 rfl)) h1 h2 hFDn eF (w.ext x) ok (fun f hf=>wrsA_ok hp (Je5 htot) _ (e1▸Jf2.mpr ⟨f,hf,rfl⟩)) fun m' σ3 b3 w3=>?_
  exact q σ3 ((Ext.buts x).trans b3) (by rw [e1] at w3;exact w3)
end
end
section
theorem fm_set_mem (al:List (Option Nat)) (i l' x:Nat) (h:x∈(al.set i (some l')).filterMap id):x=l'∨x∈al.filterMap id:=by
 obtain ⟨o,ho,e⟩:=Jg4.mp h
 exact (Jh6 ho).elim (fun q=>.inr (Jg4.mpr ⟨o,q,e⟩)) fun q=>.inl (Jb7 (e.symm.trans q))
theorem fm_set_nodup (al:List (Option Nat)) (i l':Nat) (h:(al.filterMap id).Nodup) (hn:l'∉al.filterMap id):((al.set i (some l')).filterMap id).Nodup:=by
 induction al generalizing i with
 | nil=>exact h
 | cons a al ih=>
  cases i with
  | zero=>
   show (l'::al.filterMap id).Nodup
   cases a with
   | none=>exact Jb6.mpr ⟨hn,h⟩
   | some a=>exact Jb6.mpr ⟨fun q=>hn (.tail _ q),(Jb6.mp h).2⟩
  | succ i=>
   cases a with
   | none=>exact ih i h hn
   | some a=>
    have h':=Jb6.mp h
    exact Jb6.mpr ⟨fun q=>(fm_set_mem al i l' a q).elim (fun q=>hn (q▸.head _)) h'.1,ih i h'.2 fun q=>hn (.tail _ q)⟩
theorem rls_eq (sl:List Nat) (fl:List (Option Nat)):rls sl fl=(sl.map some++fl).filterMap id:=by rw [List.filterMap_append,fm_map];rfl
theorem rls_set_s {sl:List Nat} {fl:List (Option Nat)} {i l':Nat} (hi:i<sl.length):rls (sl.set i l') fl=((sl.map some++fl).set i (some l')).filterMap id:=by
 rw [rls_eq,Je0,List.set_append_left _ _ (by simpa using hi)]
theorem rls_set_f {sl:List Nat} {fl:List (Option Nat)} {i l':Nat}:rls sl (fl.set i (some l'))=((sl.map some++fl).set (sl.length+i) (some l')).filterMap id:=by
 rw [rls_eq,List.set_append_right _ _ (by simp)];simp
theorem RowsAt.put {σ:St} {F:Nat} {fl:List (Option Nat)} {fv:List (Option (List Int))} (h:RowsAt σ F fl fv) {i l:Nat} {r:List Int} (hl:σ l=some (rowC r)) (hF:F∉fl.filterMap id) (hF2:F≠l):RowsAt (upd σ F (.list ((fl.set i (some l)).map optV))) F (fl.set i (some l)) (fv.set i (some r)):=by
 refine ⟨upd_self ..,by rw [List.length_set,List.length_set];exact h.len,fun j a r' h1 h2=>?_⟩
 rw [Jh7] at h1 h2
 by_cases q:i=j
 ·subst q
  rw [if_pos rfl] at h1 h2
  split at h1
  ·rename_i hlt
   rw [if_pos (by rw [← h.len];exact hlt)] at h2
   cases h1;cases h2
   show upd σ F _ l=_
   rw [upd_ne _ _ (Ne.symm hF2)];exact hl
  ·cases h1
 ·rw [if_neg q] at h1 h2
  have:=h.row j a r' h1 h2
  cases a with
  | none=>cases r' <;> exact this
  | some l'=>cases r' with
   | none=>exact this.elim
   | some r'=>
    show upd σ F _ l'=_
    rw [upd_ne _ _ (fun e=>hF (by rw [← e];exact mem_fm h1))];exact this
structure AtL (σ:St) (ls:List Nat) (rs:List (List Int)):Prop where
 len:ls.length=rs.length
 row:∀ (i l:Nat) (r:List Int),ls[i]?=some l→rs[i]?=some r→σ l=some (rowC r)
theorem AtL.nil {σ:St}:AtL σ [] []:=⟨rfl,fun i l r e=>(by cases e)⟩
theorem AtL.keep {σ σ':St} {ls:List Nat} {rs:List (List Int)} (h:AtL σ ls rs) (x:∀ l∈ls,∀ c,σ l=some c→σ' l=some c):AtL σ' ls rs:=⟨h.len,fun i l r a b=>x l (Ja9 a) _ (h.row i l r a b)⟩
theorem AtL.ext {σ σ':St} {ls:List Nat} {rs:List (List Int)} (h:AtL σ ls rs) (x:Ext σ σ'):AtL σ' ls rs:=h.keep fun l _ c e=>x l c e
theorem AtL.snoc {σ:St} {ls:List Nat} {rs:List (List Int)} {l:Nat} {r:List Int} (h:AtL σ ls rs) (e:σ l=some (rowC r)):AtL σ (ls++[l]) (rs++[r]):=by
 refine ⟨by rw [Jb2,Jb2,h.len];rfl,fun i l' r' a b=>?_⟩
 by_cases hi:i<ls.length
 ·exact h.row i l' r' ((Jb4 hi).symm.trans a) ((Jb4 (h.len▸hi)).symm.trans b)
 ·have hi:=Je3 hi
  rw [Jd8 hi] at a
  rw [Jd8 (h.len▸hi),← h.len] at b
  cases q:i - ls.length with
  | zero=>rw [q] at a b;cases a;cases b;exact e
  | succ n=>rw [q] at a;cases a
theorem AtL.tail {σ:St} {l:Nat} {ls:List Nat} {r:List Int} {rs:List (List Int)} (h:AtL σ (l::ls) (r::rs)):σ l=some (rowC r)∧AtL σ ls rs:=
 ⟨h.row 0 l r rfl rfl,Nat.succ.inj h.len,fun i l' r' a b=>h.row (i+1) l' r' a b⟩
theorem AtL.live {σ:St} {ls:List Nat} {rs:List (List Int)} (h:AtL σ ls rs) {l:Nat} (hl:l∈ls):∃ r,σ l=some (rowC r):=by
 obtain ⟨i,hi⟩:=List.mem_iff_getElem?.mp hl
 have hlt:=(Ja3.mp hi).1
 exact ⟨_,h.row i l _ hi (Ja5 (by rw [← h.len];exact hlt))⟩
section
variable {σ:St} {SL F:Nat} {sl:List Nat} {fl:List (Option Nat)} {s:Wd}
theorem LW.slen (w:LW σ SL sl F fl s):sl.length=s.1.length:=(Ja2 some).symm.trans (w.sg.len.trans (Ja2 some))
theorem LW.flen (w:LW σ SL sl F fl s):fl.length=s.2.length:=w.fr.len
theorem LW.sat (w:LW σ SL sl F fl s) {i:Nat} (h:i<s.1.length):∃ l,sl[i]?=some l∧σ l=some (rowC (s.1[i]))∧((sl.map some).map optV)[i]?=some (.loc l):=by
 have hs:=w.slen
 have e:sl[i]?=some sl[i]:=Ja5 (by lia)
 exact ⟨sl[i],e,w.sg.row i (some sl[i]) (some s.1[i]) (by rw [Ja8,e];rfl) (by rw [Ja8,Ja5 h];rfl),by simp [e,optV]⟩
theorem LW.but (w:LW σ SL sl F fl s) {σ':St} {L:List Nat} (b:ButS L σ σ') (h1:SL∉L) (h2:F∉L) (h3:∀ l∈rls sl fl,l∉L):LW σ' SL sl F fl s:=
 ⟨w.sg.buts b h1 ((fm_map sl).symm▸fun l hl=>h3 l (Jd2 _ hl)),w.fr.buts b h2 fun l hl=>h3 l (Je8 _ hl)⟩
theorem But.buts {l:Nat} {x y:St} (h:But l x y):ButS [l] x y:=fun i c n e=>h i c (fun q=>n (Ja4.mpr q)) e
theorem LW.putS (w:LW σ SL sl F fl s) {j l':Nat} {r:List Int} (hj:j<sl.length) (e:σ l'=some (rowC r)) (hS:SL∉rls sl fl) (h1:l'≠SL) (h2:F≠SL):LW (upd σ SL (.list (((sl.set j l').map some).map optV))) SL (sl.set j l') F fl (s.1.set j r,s.2):=by
 have wf:=w.sg.put (i:=j) (l:=l') e (by rw [fm_map];exact fun q=>hS (Jd2 _ q)) (Ne.symm h1)
 rw [← Je0,← Je0] at wf
 exact ⟨wf,w.fr.keep (fun c e=>by rw [upd_ne _ _ h2];exact e) fun l hl c e=>by rw [upd_ne _ _ (fun q=>hS (by rw [← q];exact Je8 _ hl))];exact e⟩
theorem LW.putF (w:LW σ SL sl F fl s) {j l':Nat} {r:List Int} (e:σ l'=some (rowC r)) (hF:F∉rls sl fl) (h1:l'≠F) (h2:F≠SL):LW (upd σ F (.list ((fl.set j (some l')).map optV))) SL sl F (fl.set j (some l')) (s.1,s.2.set j (some r)):=by
 have wf:=w.fr.put (i:=j) (l:=l') e (fun q=>hF (Je8 _ q)) (Ne.symm h1)
 exact ⟨w.sg.keep (fun c e=>by rw [upd_ne _ _ (Ne.symm h2)];exact e) fun l hl c e=>by rw [upd_ne _ _ (fun q=>hF (by rw [fm_map] at hl;rw [← q];exact Jd2 _ hl))];exact e,wf⟩
theorem rls_putS {j l':Nat} (hj:j<sl.length) (nd:(rls sl fl).Nodup) (hl:l'∉rls sl fl):(rls (sl.set j l') fl).Nodup∧∀ l∈rls (sl.set j l') fl,l=l'∨l∈rls sl fl:=by
 rw [rls_set_s hj]
 exact ⟨fm_set_nodup _ _ _ (by rw [← rls_eq];exact nd) (by rw [← rls_eq];exact hl),fun l h=>by rw [rls_eq];exact fm_set_mem _ _ _ _ h⟩
theorem rls_putF {j l':Nat} (nd:(rls sl fl).Nodup) (hl:l'∉rls sl fl):(rls sl (fl.set j (some l'))).Nodup∧∀ l∈rls sl (fl.set j (some l')),l=l'∨l∈rls sl fl:=by
 rw [rls_set_f]
 exact ⟨fm_set_nodup _ _ _ (by rw [← rls_eq];exact nd) (by rw [← rls_eq];exact hl),fun l h=>by rw [rls_eq];exact fm_set_mem _ _ _ _ h⟩
theorem nd_mid {a r g:List Nat} (h1:r.Nodup) (h2:(a++g).Nodup) (h3:∀ x∈r,x∉a++g):(a++(r++g)).Nodup:=
 (List.perm_append_comm_assoc ..).nodup_iff.mpr (Jc2.mpr ⟨h1,h2,fun x hx y hy q=>h3 x hx (q▸hy)⟩)
end
end
section
section
variable {Γ:Gl} {k:Nat} {σ Z:St} {SL FS DU F:Nat} {sl:List Nat} {fl:List (Option Nat)}
theorem ne_l {l r:Nat} {xs ys:List Int} {Q:V→St→Prop} (e1:σ l=some (rowC xs)) (e2:σ r=some (rowC ys)) (q:Q (.bool (!decide (xs=ys))) σ):cmpV .ne (.loc l) (.loc r) σ Q:=⟨_,_,e1,e2,isD_ints _,isD_ints _,by rw [veqs_ints];exact q⟩
noncomputable def gN (SL FS DU FR GV:Nat) (r:List Nat):List (List Nat):=[[SL],[FS],[DU],[FR],[GV],r]
theorem gN_flat (SL FS DU FR GV:Nat) (r:List Nat):(gN SL FS DU FR GV r).flatten=SL::FS::DU::FR::GV::r:=congrArg (fun x=>SL::FS::DU::FR::GV::x) (Jd3 r)
noncomputable abbrev EnB:=EnS×List Nat×List Nat×List (Option Nat)
structure EnJ (σ σ3:St) (SL FS DU FR GV F:Nat) (sl:List Nat) (ys told:List V) (ps:List Port) (s0:EnS) (i:Nat) (b:EnB) (σ':St):Prop where
 e:b.1=enters (ps.take i) s0
 gs:AtL σ' b.2.1 b.1.gv
 gv:σ' GV=some (.list (b.2.1.map .loc))
 go:∀ g∈b.2.1,σ g=none∧g≠GV∧g≠FR
 w:LW σ' SL b.2.2.1 FR b.2.2.2 (b.1.sv,b.1.fr)
 nd:(gN SL FS DU FR GV (rls b.2.2.1 b.2.2.2)).flatten.Nodup
 mem:∀ l∈rls b.2.2.1 b.2.2.2,l∈sl∨σ l=none
 du:σ' DU=some (.list (told++intsV b.1.td))
 fs:σ' FS=some (.list (ys++[.loc F]))
 b:ButS [SL,DU,FR,GV] σ3 σ'
noncomputable def enE (u1 u2:V) (SL FS DU GV FR:Nat) (_:EnB):List (Nat×V):=[(163,u1),(46,u2),(150,.loc SL),(77,.loc FS),(168,.loc DU),(80,.loc GV),(76,.loc FR)]
seal itemV attrV setAV setIV biV listM methL sliceV iterV inV newV bop
theorem AtL.cons {gs:List Nat} {r:List Int} {rs:List (List Int)} (h:AtL σ gs (r::rs)):∃ g gs2,gs=g::gs2:=by
 cases gs with
 | nil=>exact nomatch h.len
 | cons g gs2=>exact ⟨g,gs2,rfl⟩
theorem en_step (L:Lib Γ) {σ3 σ':St} {GV FR i:Nat} {u1 u2:V} {ys told:List V} {ps0 ps:List Port} {p:Port} {s0:EnS} {t:Task} {ws:List Nat} {b:EnB} {Q:SPost} (okE:EnOk t ws (p::ps) b.1) (po:PoOk ws t.slots p) (hst:p.enter b.1=enters (ps0.take (i+1)) s0) (hsl:∃ c,σ SL=some c) (hdu:∃ c,σ DU=some c) (x03:Ext σ σ3) (hgl:b.2.1.length≤100)
  (hl:told.length+b.1.td.length≤9000) (ho:isOut p.dir=false) (J:EnJ σ σ3 SL FS DU FR GV F sl ys told ps0 s0 i b σ') {Q9:SPost} (q9:Le (invQ (EnvI (enE u1 u2 SL FS DU GV FR) (EnJ σ σ3 SL FS DU FR GV F sl ys told ps0 s0 (i+1))) Q) Q9) :
  wpSs (wpS Γ (k+2) [] 9) [.asg 136 (.call 30 [(.meth (.var 80) 125 [(.int 0)]),(.var 177),(.var 149)]),
  .ifs (.cmp .eq (.var 95) (.str 101)) [.setI (.var 76) (.var 127) (.var 136)] [.ifs (.cmp .ne (.item (.var 150) (.var 127)) (.var 136)) [.setI (.var 150) (.var 127) (.var 136),
    .expr (.meth (.var 168) 37 [(.var 127)])] []]]
   (put (put (put (put (put (enE u1 u2 SL FS DU GV FR b) 62 (.str p.dir.id)) 177 (.int p.w)) 149 (.bool p.sg)) 95 (kindV p.loc)) 127 (.int p.ref)) σ' Q9:=by
 refine gabs fun gG gK=>?_
 obtain ⟨r,rs2,hg2⟩:=gv_cons okE ho
 obtain ⟨g,gs2,hg⟩:=(hg2▸J.gs:AtL σ' b.2.1 (r::rs2)).cons
 refine gK ?_
 have Jg:AtL σ' (g::gs2) (r::rs2):=hg▸hg2▸J.gs
 have Jgv:σ' GV=some (.list ((g::gs2).map .loc)):=hg▸J.gv
 have Jgo:∀ x∈g::gs2,σ x=none∧x≠GV∧x≠FR:=hg▸J.go
 have Jt:=Jg.tail
 have hr:=okE.gv r (hg2▸.head _)
 have jgo:=Jgo g (.head _)
 have nd:=J.nd
 refine meth_l Jgv ?_
 refine ⟨Jd7 _,?_⟩
 refine popi_l (r:=.loc g) Jgv ((Ja2 (as:=g::gs2) V.loc).symm▸hg▸Ja1 hgl (Ja0 rfl)) (by decide) rfl ?_
 have b4:ButS [GV] σ' (upd σ' GV (.list (gs2.map .loc))):=(ButS.refl _ _).set _ (.inl (.head _))
 have e4:upd σ' GV (.list (gs2.map .loc)) GV=some (.list (gs2.map .loc)):=upd_self ..
 have n4:∀ l,upd σ' GV (.list (gs2.map .loc)) l=none→σ' l=none:=fun l h=>(upd_none h).1
 refine spec_wide (k:=k+1) L (σ:=upd σ' GV (.list (gs2.map .loc))) (b4 _ _ (nm1 jgo.2.1) Jt.1) hr.2.1 (Ja1 hr.2.2 (Ja0 rfl)) (Ja1 po.w.2 (Ja0 rfl)) fun l' σ5 x5 hl' el'=>?_
 revert b4 e4 n4 x5 hl'
 refine gen (upd σ' GV (.list (gs2.map .loc))) ?_
 intro σ4
 intros
 have b5:ButS (sel (gN SL FS DU FR GV (rls b.2.2.1 b.2.2.2)) [4]) σ' σ5:=b4.ext x5
 have k5:=@kp _ nd _ _ [4] b5
 have w5:LW σ5 SL b.2.2.1 FR b.2.2.2 (b.1.sv,b.1.fr):=J.w.but b5 (nig nd [4] 0 (.head _) rfl) (nig nd [4] 3 (.head _) rfl) fun l hl=>nig nd [4] 5 hl rfl
 have eDU5:=k5 2 (.head _) rfl J.du
 have eFS5:=k5 1 (.head _) rfl J.fs
 have eGV5:=x5 _ _ e4
 have ag5:AtL σ5 gs2 rs2:=Jt.2.keep fun l hl c e=>b5 _ _ (nm1 (Jgo l (.tail _ hl)).2.1) e
 have b35:ButS [SL,DU,FR,GV] σ3 σ5:=J.b.trans (kpB nd [4] [0,2,3,4] b5 rfl)
 have hl0:=n4 _ hl'
 have hlO:l'∉[SL,FS,DU,FR,GV]:=not_live (lvc J.w.sg.at_ (lvc J.fs (lvc J.du (lvc J.w.fr.at_ (lvc Jgv lv0))))) hl0
 have hln:l'∉rls b.2.2.1 b.2.2.2:=fun q=>(rls_live J.w q).elim fun r e=>some_ne e hl0
 have hl3:σ3 l'=none:=J.b.none (fun q=>hlO (sub_sel (gs:=gN SL FS DU FR GV (rls b.2.2.1 b.2.2.2)) [0,2,3,4] [0,1,2,3,4] rfl l' q)) hl0
 have hlσ:σ l'=none:=x03.new hl3
 have ndN:∀ R:List Nat,R.Nodup→(∀ l∈R,l=l'∨l∈rls b.2.2.1 b.2.2.2)→(gN SL FS DU FR GV R).flatten.Nodup:=fun R h1 h2=>(gN_flat SL FS DU FR GV R).symm▸Jc2.mpr ⟨nd_sel nd [0,1,2,3,4] rfl,h1,fun x hx y hy q=>(h2 y hy).elim (fun e=>hlO (e▸q▸hx)) fun e=>nig nd [0,1,2,3,4] 5 e rfl (q▸hx)⟩
 have memN:∀ R:List Nat,(∀ l∈R,l=l'∨l∈rls b.2.2.1 b.2.2.2)→∀ l∈R,l∈sl∨σ l=none:=fun R h2 l hl=>(h2 l hl).elim (fun e=>.inr (e▸hlσ)) fun e=>J.mem l e
 have go2:∀ g∈gs2,σ g=none∧g≠GV∧g≠FR:=fun g h=>Jgo g (.tail _ h)
 have lSL:l'≠SL:=fun q=>hlO (q▸.head _)
 have lFR:l'≠FR:=fun q=>hlO (q▸.tail _ (.tail _ (.tail _ (.head _))))
 refine ifB_intro (fun el=>?_) (fun el=>?_)
 ·have el:=(kind_beq p.loc).symm.trans el
  refine ((port_at po okE).1 el).elim fun r0 q=>?_
  have e2:=enter_loc ho el hg2
  have hlt:p.ref<b.2.2.2.length:=w5.flen.symm▸(Ja3.mp q.1).1
  refine setI_l w5.fr.at_ (Jb0 _) (Jc1.mpr ((Ja2 (as:=b.2.2.2) optV).symm▸hlt)) (c62' po.ref) ?_
  have wf:=w5.putF (j:=p.ref) el' (nig nd [5] 3 (.head _) rfl) lFR (nine nd 3 0 (.head _) (.head _) rfl)
  have hm:=rls_putF (j:=p.ref) (nd_sel nd [5] rfl) hln
  refine q9 _ _ _ ⟨(p.enter b.1,gs2,b.2.2.1,b.2.2.2.set p.ref (some l')),SubE.app _ _,?_⟩
  have bF:ButS (sel (gN SL FS DU FR GV (rls b.2.2.1 b.2.2.2)) [3]) σ5 (upd σ5 FR (.list ((b.2.2.2.set p.ref (some l')).map optV))):=(ButS.refl _ _).set _ (.inl (.head _))
  have kF:=@kp _ nd _ _ [3] bF
  have eset:upd σ5 FR (.list ((b.2.2.2.map optV).set ((p.ref:Nat):Int).toNat (.loc l')))=upd σ5 FR (.list ((b.2.2.2.set p.ref (some l')).map optV)):=congrArg (fun x=>upd σ5 FR (.list x)) (by rw [Je0];rfl)
  show EnJ _ _ _ _ _ _ _ _ _ _ _ _ _ _ _ (upd σ5 FR (.list ((b.2.2.2.map optV).set ((p.ref:Nat):Int).toNat (.loc l'))))
  rw [eset]
  exact { e:=hst,gs:=e2▸ag5.keep fun l hl c e=>bF _ _ (nm1 (go2 l hl).2.2) e,gv:=kF 4 (.head _) rfl eGV5,go:=go2,w:=e2▸wf,nd:=ndN _ hm.1 hm.2,mem:=memN _ hm.2,du:=e2▸kF 2 (.head _) rfl eDU5,fs:=kF 1 (.head _) rfl eFS5,b:=b35.trans (kpB nd [3] [0,2,3,4] bF rfl) }
 ·have el:=(kind_beq p.loc).symm.trans el
  refine ((port_at po okE).2 el).elim fun r0 q=>?_
  have hlt:p.ref<b.2.2.1.length:=w5.slen.symm▸(Ja3.mp q.1).1
  have hse:b.2.2.1[p.ref]?=some b.2.2.1[p.ref]:=Ja5 hlt
  have hro:σ5 b.2.2.1[p.ref]=some (rowC r0):=w5.sg.row p.ref (some b.2.2.1[p.ref]) (some r0) ((Ja8 ..).trans (congrArg (Je7 _) hse)) ((Ja8 ..).trans (congrArg (Je7 _) q.1))
  refine item_l w5.sg.at_ (Jb0 _) (r:=.loc b.2.2.1[p.ref]) ((Ja8 ..).trans (congrArg (Je7 optV) ((Ja8 ..).trans (congrArg (Je7 some) hse)))) ?_ (c62' po.ref)
  refine ne_l hro el' ?_
  refine ifB_intro (fun he=>?_) (fun he=>?_)
  ·have he:¬ r0=wideL r p.w p.sg:=of_decide_eq_false ((Jg2 _).mp he)
   have e2:=enter_new ho el hg2 q.1 fun h=>he h.symm
   refine setI_l w5.sg.at_ (Jb0 _) (Jc1.mpr (((Ja2 (as:=b.2.2.1.map some) optV).trans (Ja2 _)).symm▸hlt)) (c62' po.ref) ?_
   have eset:upd σ5 SL (.list (((b.2.2.1.map some).map optV).set ((p.ref:Nat):Int).toNat (.loc l')))=upd σ5 SL (.list (((b.2.2.1.set p.ref l').map some).map optV)):=congrArg (fun x=>upd σ5 SL (.list x)) (by rw [Je0,Je0];rfl)
   have wf:=w5.putS (j:=p.ref) hlt el' (nig nd [5] 0 (.head _) rfl) lSL (nine nd 3 0 (.head _) (.head _) rfl)
   have hm:=rls_putS hlt (nd_sel nd [5] rfl) hln
   have bS:ButS (sel (gN SL FS DU FR GV (rls b.2.2.1 b.2.2.2)) [0]) σ5 (upd σ5 SL (.list (((b.2.2.1.set p.ref l').map some).map optV))):=(ButS.refl _ _).set _ (.inl (.head _))
   show wpSs _ _ _ (upd σ5 SL (.list (((b.2.2.1.map some).map optV).set ((p.ref:Nat):Int).toNat (.loc l')))) _
   rw [eset]
   revert wf bS
   refine gen (upd σ5 SL (.list (((b.2.2.1.set p.ref l').map some).map optV))) ?_
   intro σ6
   intros
   have kS:=@kp _ nd _ _ [0] bS
   have nd2:=ndN _ hm.1 hm.2
   have eDU6:=kS 2 (.head _) rfl eDU5
   refine meth_l eDU6 ?_
   refine ⟨rfl,?_⟩
   refine append_l eDU6 ?_ ?_
   ·rw [Jb2,intsV,Ja2];exact Ja1 hl (Ja0 rfl)
   refine okZ (q9 _ _ _ ⟨(p.enter b.1,gs2,b.2.2.1.set p.ref l',b.2.2.2),SubE.app _ _,?_⟩)
   have bD:ButS (sel (gN SL FS DU FR GV (rls (b.2.2.1.set p.ref l') b.2.2.2)) [2]) σ6 (upd σ6 DU (.list (told++intsV b.1.td++[.int p.ref]))):=(ButS.refl _ _).set _ (.inl (.head _))
   have kD:=@kp _ nd2 _ _ [2] bD
   exact { e:=hst,gs:=e2▸(ag5.keep fun l hl c e=>bS _ _ (nm1 (hsl.elim fun _ h=>Ne.symm (live_ne h (go2 l hl).1))) e).keep fun l hl c e=>bD _ _ (nm1 (hdu.elim fun _ h=>Ne.symm (live_ne h (go2 l hl).1))) e,gv:=kD 4 (.head _) rfl (kS 4 (.head _) rfl eGV5),go:=go2,w:=e2▸wf.but bD (nig nd2 [2] 0 (.head _) rfl) (nig nd2 [2] 3 (.head _) rfl) fun l hl=>nig nd2 [2] 5 hl rfl,nd:=nd2,mem:=memN _ hm.2,du:=e2▸(upd_self ..).trans (congrArg (fun x=>some (Cell.list x)) (intsV_snoc told b.1.td p.ref)),fs:=kD 1 (.head _) rfl (kS 1 (.head _) rfl eFS5),b:=(b35.trans (kpB nd [0] [0,2,3,4] bS rfl)).trans (kpB nd2 [2] [0,2,3,4] bD rfl) }
  ·have he:r0=wideL r p.w p.sg:=of_decide_eq_true ((Jh5 _).mp he)
   have e2:=enter_same ho el hg2 q.1 he.symm
   exact q9 _ _ _ ⟨(p.enter b.1,gs2,b.2.2.1,b.2.2.2),SubE.app _ _,{ e:=hst,gs:=e2▸ag5,gv:=eGV5,go:=go2,w:=e2▸w5,nd:=nd,mem:=J.mem,du:=e2▸eDU5,fs:=eFS5,b:=b35 }⟩
inductive GvI (σ:St) (rows:List (List Int)) (i:Nat) (acc:List V) (σ':St):Prop
 | mk (gs:List Nat) (e:acc=gs.map .loc) (a:AtL σ' gs (rows.take i)) (x:Ext σ σ') (n:∀ g∈gs,σ g=none)
inductive FrI (σ1:St) (slots:List Nat) (i:Nat) (acc:List V) (σ':St):Prop
 | mk (js:List Nat) (e:acc=js.map .loc) (a:AtL σ' js ((slots.take i).map fun w=>Jb1 w 3)) (x:Ext σ1 σ') (nd:js.Nodup) (n:∀ j∈js,σ1 j=none)
theorem fm_none (n:Nat):(Jb1 n (none:Option Nat)).filterMap id=[]:=by
 induction n with
 | zero=>rfl
 | succ n ih=>rw [List.replicate_succ,List.filterMap_cons];exact ih
theorem rows_frame0 {σ3:St} {FR:Nat} {js:List Nat} {t:Task} (e:σ3 FR=some (.list ((js.map some++Jb1 t.turns none).map optV))) (hj:AtL σ3 js (t.slots.map fun w=>Jb1 w 3)):RowsAt σ3 FR (js.map some++Jb1 t.turns none) (frame0 t):=by
 have hl:js.length=t.slots.length:=hj.len.trans (Ja2 _)
 refine ⟨e,by rw [frame0,Jb2,Jb2,Ja2,Ja2,hl,Jd6,Jd6],fun i a r ha hr=>?_⟩
 unfold frame0 at hr
 by_cases hi:i<js.length
 ·rw [Jb4 (Ja2 (as:=js) some▸hi),Ja8] at ha
  rw [Jb4 ((Ja2 (as:=t.slots) _).symm▸hl▸hi),Ja8] at hr
  cases qa:js[i]? with
  | none=>rw [qa] at ha;cases ha
  | some j=>
   cases qs:t.slots[i]? with
   | none=>rw [qs] at hr;cases hr
   | some w0=>
    rw [qa] at ha;rw [qs] at hr;cases ha;cases hr
    exact hj.row i j _ qa ((Ja8 ..).trans (congrArg (Je7 _) qs))
 ·rw [Jd8 ((Ja2 (as:=js) some).symm▸Je3 hi)] at ha
  rw [Jd8 ((Ja2 (as:=t.slots) _).symm▸hl▸Je3 hi)] at hr
  have ha:=(Ji8.mp (Ja9 ha)).2
  have hr:=(Ji8.mp (Ja9 hr)).2
  subst ha;subst hr;trivial
theorem spec_enter (L:Lib Γ) {Q:V→St→Prop} {t:Task} {tl:Nat} {s:Wd} {ins:List Ie} {ys told:List V} {outsV:V} (z:Fz Z [SL,FS,DU] σ) (htl:TaskAt Z tl t) (htk:TaskOk (wid s.1) t) (w:LW σ SL sl F fl s) (nd:(rls sl fl).Nodup)
  (nK:[SL,FS,DU].Nodup) (hK:∀ l∈[SL,FS,DU],l∉rls sl fl) (eFS:σ FS=some (.list (ys++[.loc F]))) (eDU:σ DU=some (.list told)) (hys:ys.length≤1000) (htd:told.length≤5000)
  (h1:SOk s.1) (h2:FOk s.2) (hi:∀ e∈ins,e.ok s.1.length (shp s.2)) (hn:ins.length=nin t.ports)
  (q:∀ σ' FR sl' fl',ButS [SL,FS,DU] σ σ'→σ FR=none→LW σ' SL sl' FR fl' ((enterP t (ins.map fun e=>e.row s.1 s.2) s.1).sv,(enterP t (ins.map fun e=>e.row s.1 s.2) s.1).fr)→(rls sl' fl').Nodup→(∀ l∈rls sl' fl',l∈sl∨σ l=none)→FR∉rls sl' fl'→
   σ' FS=some (.list (ys++[.loc F]++[.loc FR]))→σ' DU=some (.list (told++(enterP t (ins.map fun e=>e.row s.1 s.2) s.1).td.map fun (i:Nat)=>V.int (i:Int)))→Q .none σ') :
  WC Γ (k+3) (.glob 11) [.loc tl,.tup [.tup (ins.map Ie.v),outsV],.loc SL,.loc FS,.loc DU] σ Q:=by
 refine WC_def (n:=10) (L.fns 42 _ _ _ _ rfl) rfl ?_
 have hfew:=htk.few
 have hil:ins.length≤20:=hn▸Ja1 (Jf8 ..) hfew.1
 refine ⟨rfl,?_⟩
 refine item_t (by decide) rfl ?_ (by decide)
 refine iter_t ?_
 refine wpIt_imap (GvI σ (ins.map fun e=>e.row s.1 s.2)) ⟨[],rfl,AtL.nil,Ext.refl _,fun g hg=>(by cases hg)⟩ (fun i e acc σ' hx I=>?_) (fun acc σ' I=>?_)
 ·cases I with
  | mk gs ea a x n=>
  have v:=Ie.ok_val (hi e (Ja9 hx)) h1 h2
  refine ⟨trivial,fun R9 r9=>?_⟩
  refine item_last (x _ _ eFS) ?_
  refine spec_value (k:=k) L (w.ext x).sg (w.ext x).fr v.1 v.2.1.1 (Ja1 v.2.1.2.2 (Ja0 rfl)) v.2.2 fun l' σ2 x2 hl' el'=>?_
  refine ⟨?_,r9 _ _ ⟨gs++[l'],by rw [ea,Jb5];rfl,?_,x.trans x2,Jb8.mpr ⟨n,fun g hg=>Ja4.mp hg▸x.new hl'⟩⟩⟩
  ·rw [ea,Ja2,a.len];exact Ja1 (Jg0 ..) ((Ja2 (as:=ins) _).symm▸Ja1 hil (Ja0 rfl))
  ·rw [take_snoc ((Ja8 ..).trans (congrArg (Je7 _) hx))];exact (a.ext x2).snoc el'
 cases I with
 | mk gs ea hg x hgn=>
 subst ea
 rw [← Ja2 (as:=ins) (fun e=>e.row s.1 s.2),Je2] at hg
 refine ⟨trivial,fun GV hGV=>?_⟩
 have x1:Ext σ' (upd σ' GV (.list (gs.map .loc))):=(Ext.refl _).upd hGV _
 have eGV:upd σ' GV (Cell.list (gs.map V.loc)) GV=some (.list (gs.map V.loc)):=upd_self ..
 show wpSs _ _ _ (upd σ' GV (.list (gs.map .loc))) _
 revert x1 eGV
 refine gen (upd σ' GV (Cell.list (gs.map V.loc))) ?_
 intro σ1
 intros
 have hGV0:σ GV=none:=x.new hGV
 have x01:=x.trans x1
 have xz:=z.sub.trans x01
 refine ⟨rfl,attr_j ((htl.ext xz).a152 fun slo hslo=>?_)⟩
 refine iter_l hslo ((Ja2 (as:=t.slots) _).symm▸Ja1 hfew.2.1 (Ja0 rfl)) ?_
 refine wpIt_imap (FrI σ1 t.slots) ⟨[],rfl,AtL.nil,Ext.refl _,Jg8,fun g hg=>(by cases hg)⟩ (fun i w0 acc σ2 hx I=>?_) (fun acc σ2 I=>?_)
 ·cases I with
  | mk js ea hj y1 hnd hjn=>
  have hw:=htk.sl _ (Ja9 hx)
  refine ⟨y1 _ _ hslo,fun R9 r9=>?_⟩
  intro a ha
  refine mul_l (upd_self ..) (Ja1 hw.2 (Ja0 rfl)) (Ja0 rfl) fun b hb=>?_
  have hb0:=upd_none hb
  have hb1:=y1.new hb0.1
  have x2:Ext σ2 (upd (upd σ2 a (.list [.int 3])) b (rowC (Jb1 w0 3))):=((Ext.refl _).upd ha _).upd hb0.1 _
  have er:Cell.list (rep ((w0:Nat):Int).toNat [V.int 3])=rowC (Jb1 w0 3):=by rw [rep_one,rowC,List.map_replicate];rfl
  show _∧R9 _ (upd (upd σ2 a (.list [.int 3])) b (.list (rep ((w0:Nat):Int).toNat [V.int 3]))) _
  rw [er]
  refine ⟨?_,r9 _ _ ⟨js++[b],by rw [ea,Jb5];rfl,?_,y1.trans x2,nd_snoc hnd fun q=>(hj.live q).elim fun r e=>some_ne e hb0.1,Jb8.mpr ⟨hjn,fun g hg=>Ja4.mp hg▸hb1⟩⟩⟩
  ·rw [ea,Ja2,hj.len,Ja2];exact Ja1 (Jg0 ..) (Ja1 hfew.2.1 (Ja0 rfl))
  ·rw [take_snoc hx,Jb5];exact (hj.ext x2).snoc (upd_self ..)
 cases I with
 | mk js ea hj y1 hnd hjn=>
 subst ea
 rw [Je2] at hj
 have hjl:js.length≤20:=hj.len.symm▸(Ja2 (as:=t.slots) _).symm▸hfew.2.1
 refine ⟨y1 _ _ hslo,fun A hA=>?_⟩
 intro B hB
 have y2:Ext σ2 (upd σ2 A (.list (js.map .loc))):=(Ext.refl _).upd hA _
 have eA:upd σ2 A (.list (js.map V.loc)) A=some (.list (js.map .loc)):=upd_self ..
 show wpE _ _ _ _ _ _ _ (upd (upd σ2 A (.list (js.map .loc))) B (.list [.none])) _
 revert y2 eA hB
 refine gen (upd σ2 A (.list (js.map V.loc))) ?_
 intro σA
 intros
 have y3:Ext σA (upd σA B (.list [.none])):=(Ext.refl _).upd hB _
 have eB:upd σA B (.list [.none]) B=some (.list [.none]):=upd_self ..
 revert y3 eB
 refine gen (upd σA B (.list [.none])) ?_
 intro σB
 intros
 refine attr_j ((htl.ext (xz.trans (y1.trans (y2.trans y3)))).a172 ?_)
 refine mul_l eB (Ja1 hfew.2.2.1 (Ja0 rfl)) (Ja0 rfl) fun C hC=>?_
 have y4:Ext σB (upd σB C (.list (rep ((t.turns:Nat):Int).toNat [V.none]))):=(Ext.refl _).upd hC _
 have eC:upd σB C (.list (rep ((t.turns:Nat):Int).toNat [V.none])) C=some (.list (rep ((t.turns:Nat):Int).toNat [V.none])):=upd_self ..
 refine add_l (xs:=js.map .loc) (y4 _ _ (y3 _ _ eA)) eC ?_ fun FR hFR=>?_
 ·rw [Ja2,rep_one,Jd6];exact Ja1 (Jg1 hjl hfew.2.2.1) (Ja0 rfl)
 revert y4 hFR
 refine gen (upd σB C (.list (rep ((t.turns:Nat):Int).toNat [V.none]))) ?_
 intro σC
 intros
 have efr:js.map V.loc++rep ((t.turns:Nat):Int).toNat [V.none]=(js.map some++Jb1 t.turns none).map optV:=by
  rw [Jb5,Jh9,List.map_replicate,rep_one];rfl
 show wpSs _ _ _ (upd σC FR (.list (js.map V.loc++rep ((t.turns:Nat):Int).toNat [V.none]))) _
 rw [efr]
 have y5:Ext σC (upd σC FR (.list ((js.map some++Jb1 t.turns none).map optV))):=(Ext.refl _).upd hFR _
 have eFR:upd σC FR (.list ((js.map some++Jb1 t.turns none).map optV)) FR=some (.list ((js.map some++Jb1 t.turns none).map optV)):=upd_self ..
 generalize upd σC FR (.list ((js.map some++Jb1 t.turns none).map optV))=σ3 at y5 eFR
 have yC:=y2.trans (y3.trans y4)
 have y23:=yC.trans y5
 have x13:=y1.trans y23
 have x03:=x01.trans x13
 have hFR1:σ1 FR=none:=y1.new (yC.new hFR)
 have hFR0:σ FR=none:=x01.new hFR1
 have fm0:(js.map some++Jb1 t.turns none).filterMap id=js:=by rw [List.filterMap_append,fm_map,fm_none,Jd3]
 have r0:rls sl (js.map some++Jb1 t.turns none)=sl++js:=congrArg (sl++·) fm0
 have ljs:∀ j∈js,σ j=none:=fun j h=>x01.new (hjn j h)
 have lK:∀ l∈[SL,FS,DU],σ l≠none:=lvc w.sg.at_ (lvc eFS (lvc eDU lv0))
 have hst:=enter_start (rs:=ins.map fun e=>e.row s.1 s.2) htk h1 (List.forall_mem_map.mpr fun e he=>(Ie.ok_val (hi e he) h1 h2).2.1) ((Ja2 _).trans hn)
 have nO:[SL,FS,DU,FR,GV].Nodup:=nd_snoc (nd_snoc nK (not_live lK hFR0)) fun q=>(Jd0.mp q).elim (not_live lK hGV0) (nm1 (live_ne eGV hFR1))
 have ndR:(sl++js).Nodup:=Jc2.mpr ⟨(Jc2.mp nd).1,hnd,fun a ha b hb e=>(rls_live w (Jd2 _ ha)).elim fun r ea=>live_ne ea (ljs b hb) e⟩
 have hO:∀ y∈sl++js,y∉[SL,FS,DU]++[FR,GV]:=Jb8.mpr ⟨fun l h q=>(rls_live w (Jd2 _ h)).elim fun r e=>(Jd0.mp q).elim (fun q=>hK l q (Jd2 _ h)) (nmc (live_ne e hFR0) (nm1 (live_ne e hGV0))),fun l h q=>(Jd0.mp q).elim (fun q=>lK l q (ljs l h)) (nmc ((hj.live h).elim fun r e=>live_ne e (yC.new hFR)) (nm1 (Ne.symm (live_ne eGV (hjn l h)))))⟩
 have nd0:(gN SL FS DU FR GV (rls sl (js.map some++Jb1 t.turns none))).flatten.Nodup:=by
  rw [gN_flat,r0];exact Jc2.mpr ⟨nO,ndR,fun x hx y hy q=>hO y hy (q▸hx)⟩
 have J0:EnJ σ σ3 SL FS DU FR GV F sl ys told t.ports ⟨ins.map fun e=>e.row s.1 s.2,frame0 t,s.1,[]⟩ 0 (⟨ins.map fun e=>e.row s.1 s.2,frame0 t,s.1,[]⟩,gs,sl,js.map some++Jb1 t.turns none) σ3:=
  { e:=rfl,gs:=(hg.ext x1).ext x13,gv:=x13 _ _ eGV,go:=fun g h=>⟨hgn g h,(hg.live h).elim fun r e=>live_ne e hGV,(hg.live h).elim fun r e=>live_ne (x1 _ _ e) hFR1⟩,w:=⟨(w.ext x03).sg,rows_frame0 eFR (hj.ext y23)⟩,nd:=nd0,mem:=r0.symm▸Jb8.mpr ⟨fun l h=>.inl h,fun l h=>.inr (ljs l h)⟩,du:=(Jd3 told).symm▸x03 _ _ eDU,fs:=x03 _ _ eFS,b:=ButS.refl _ _ }
 have zF:Fz Z [SL,DU,FR,GV] σ3:=⟨xz.trans x13,Ja7.mpr ⟨z.out _ (.head _),Ja7.mpr ⟨z.out _ (.tail _ (.tail _ (.head _))),Ja7.mpr ⟨z.sub.new hFR0,Ja7.mpr ⟨z.sub.new hGV0,fun _ h=>(by cases h)⟩⟩⟩⟩⟩
 refine ⟨rfl,attr_j (htl.a126x zF.sub fun pl hpl=>?_)⟩
 refine iter_l (zF.sub _ _ hpl) ((Ja2 (as:=t.ports) _).symm▸Ja1 hfew.1 (Ja0 rfl)) ?_
 refine wpFor_map (enE (.loc tl) (.tup [.tup (ins.map Ie.v),outsV]) SL FS DU GV FR) (EnJ σ σ3 SL FS DU FR GV F sl ys told t.ports ⟨ins.map fun e=>e.row s.1 s.2,frame0 t,s.1,[]⟩) (⟨ins.map fun e=>e.row s.1 s.2,frame0 t,s.1,[]⟩,gs,sl,js.map some++Jb1 t.turns none) J0 (fun i p b σ4 hp J=>?_) (fun b σ4 J=>?_)
 ·have okE:EnOk t (wid s.1) (p::t.ports.drop (i+1)) b.1:=by
   rw [J.e]
   refine enters_ok (t.ports.take i) _ (fun p hp=>htk.po p (Je6 hp)) ?_
   rw [← drop_take hp,List.take_append_drop];exact hst
  have h3:=enters_td (t.ports.take i) ⟨ins.map fun e=>e.row s.1 s.2,frame0 t,s.1,[]⟩
  rw [← J.e] at h3
  refine ⟨(zF.step J.b).sub _ _ hpl,_,rfl,fun Q9 q9=>?_⟩
  have hst':p.enter b.1=enters (t.ports.take (i+1)) ⟨ins.map fun e=>e.row s.1 s.2,frame0 t,s.1,[]⟩:=by
   rw [take_snoc hp,enters,Jh8];exact congrArg p.enter J.e
  by_cases ho:isOut p.dir=true
  ·exact ifB.t ((isOut_beq p.dir).trans ho) (q9 _ _ _ ⟨b,SubE.app _ _,{ J with e:=(enter_out b.1 ho).symm.trans hst' }⟩)
  have ho:=Bool.eq_false_iff.mpr ho
  refine ifB.f ((isOut_beq p.dir).trans ho) ?_
  have hgl:b.2.1.length≤100:=by
   rw [J.gs.len,okE.n,← drop_take hp]
   exact Ja1 (Jf8 ..) (Ja1 (Je5 (List.length_drop ..)) (Ja1 (Nat.sub_le ..) (Ja1 hfew.1 (Ja0 rfl))))
  exact en_step (k:=k) (q9:=q9) (ps:=t.ports.drop (i+1)) L okE (htk.po p (Ja9 hp)) hst' ⟨_,w.sg.at_⟩ ⟨_,eDU⟩ x03 hgl (Ja1 (Jg1 htd (Ja1 h3 (Je4 (Ja1 (Jg0 ..) hfew.1) _))) (Ja0 rfl)) ho J
 ·have e:=J.e
  rw [Je2] at e
  have e:b.1=enterP t (ins.map fun e=>e.row s.1 s.2) s.1:=e
  have nd4:=J.nd
  refine ⟨(zF.step J.b).sub _ _ hpl,?_⟩
  refine meth_l J.fs ?_
  refine ⟨rfl,?_⟩
  refine append_l J.fs (by rw [Jb2];exact Ja1 (Jh0 hys _) (Ja0 rfl)) ?_
  refine okZ ?_
  have b5:ButS (sel (gN SL FS DU FR GV (rls b.2.2.1 b.2.2.2)) [1]) σ4 (upd σ4 FS (.list (ys++[.loc F]++[.loc FR]))):=(ButS.refl _ _).set _ (.inl (.head _))
  refine q _ FR b.2.2.1 b.2.2.2 (fun l c hl ec=>((kpB nd4 [0,2,3,4] [3,4,0,1,2] J.b rfl).trans (kpB nd4 [1] [3,4,0,1,2] b5 rfl)) l c (nmc (live_ne ec hFR0) (nmc (live_ne ec hGV0) hl)) (x03 _ _ ec)) hFR0 (e▸J.w.but b5 (nig nd4 [1] 0 (.head _) rfl) (nig nd4 [1] 3 (.head _) rfl) fun l hl=>nig nd4 [1] 5 hl rfl) (nd_sel nd4 [5] rfl) J.mem (nig nd4 [5] 3 (.head _) rfl) (upd_self ..) (e▸kp nd4 [1] b5 2 (.head _) rfl J.du)
end
end
section
section
variable {Γ:Gl} {k:Nat} {σ Z:St} {SL FS FT F:Nat} {sl:List Nat} {fl flT:List (Option Nat)}
theorem ifB_item {b:Bool} {l1 l2:Nat} {i:Int} {Q:V→St→Prop} {xs ys:List V} {r:V} (e1:σ l1=some (.list xs)) (e2:σ l2=some (.list ys)) (h0:0≤i) (h1:i<2 ^ 62) (c1:b=true→xs[i.toNat]?=some r) (c2:b=false→ys[i.toNat]?=some r) (q:Q r σ):ifB b (itemV (.loc l1) (.int i) σ Q) (itemV (.loc l2) (.int i) σ Q):=
 ifB_intro (fun h=>item_l e1 h0 (c1 h) q h1) fun h=>item_l e2 h0 (c2 h) q h1
seal itemV attrV setAV setIV biV listM methL sliceV iterV inV newV
noncomputable def lvE (u1 u2 u3:V) (SL FS FT RL:Nat) (_:List Nat):List (Nat×V):=[(163,u1),(46,.tup [u2,u3]),(150,.loc SL),(77,.loc FS),(76,.loc FT),(137,.loc RL)]
inductive LvI (σ σ2:St) (RL:Nat) (outs:List Out) (g:Out→List Int) (i:Nat) (rs:List Nat) (σ':St):Prop
 | mk (a:AtL σ' rs ((outs.take i).map g)) (e:σ' RL=some (.list (rs.map .loc))) (b:ButS [RL] σ2 σ') (n:∀ r∈rs,σ r=none∧r≠RL)
theorem lv_row {σ':St} {s:Wd} {ft:List (Option (List Int))} {p:Port} {r:List Int} (w:LW σ' SL sl F fl s) (wt:RowsAt σ' FT flT ft) (p4:p.loc=true→ft[p.ref]?=some (some r)) (p5:p.loc=false→s.1[p.ref]?=some r):∃ h,σ' h=some (rowC r)∧(p.loc=true→(flT.map optV)[p.ref]?=some (.loc h))∧(p.loc=false→((sl.map some).map optV)[p.ref]?=some (.loc h)):=by
 cases el:p.loc with
 | true=>exact (wt.get (p4 el)).elim fun h q=>⟨h,q.2.1,fun _=>q.2.2,(fun e=>(by cases e))⟩
 | false=>exact (w.sg.get (i:=p.ref) ((Ja8 ..).trans (congrArg (Je7 some) (p5 el)))).elim fun h q=>⟨h,q.2.1,(fun e=>(by cases e)),fun _=>q.2.2⟩
theorem lv_step (L:Lib Γ) {t:Task} {tl i RL:Nat} {ws:List Nat} {u2 u3:V} {s:Wd} {ft:List (Option (List Int))} {outs:List Out} {σ2 σ':St} {Q:SPost} (htl:TaskAt σ' tl t) (htk:TaskOk (wid s.1) t) (w:LW σ' SL sl F fl s) (wt:RowsAt σ' FT flT ft) (h1:SOk s.1) (hft:FOk ft) (hfs:shp ft=fshape t)
  {o:Out} {n:Nat} {sh:List (Option Nat)} (hoo:OutOk t n sh o) (hx:outs[i]?=some o) (hlen:outs.length≤1000) (hno:∀ l,σ2 l=none→σ l=none) {rs:List Nat} (I:LvI σ σ2 RL outs (fun o=>outRow t.ports s.1 ft o) i rs σ') {Q9:SPost} (q9:Le (invQ (EnvI (lvE (.loc tl) u2 u3 SL FS FT RL) (LvI σ σ2 RL outs (fun o=>outRow t.ports s.1 ft o) (i+1))) Q) Q9) :
  wpSs (wpS Γ (k+3) [] 9) [.unp [62,177,149,95,127] (.item (.attr (.var 163) 126) (.var 86)),
  .expr (.meth (.var 137) 37 [(.call 30 [(.bi 201 [(.ite (.cmp .eq (.var 95) (.str 101)) (.item (.var 76) (.var 127)) (.item (.var 150) (.var 127)))]),(.item (.var 105) (.int 1)),(.var 149)])])]
   (put (put (lvE (.loc tl) u2 u3 SL FS FT RL rs) 105 (lvV (tot o.ps) o.ps)) 86 (.int o.i)) σ' Q9:=by
 cases I with
 | mk a eR b hrs=>
 refine gabs fun gG gK=>?_
 obtain ⟨_,_,p,r,p1,p2,p3,p4,p5,p6⟩:=outRow_ok htk h1 hft hfs hoo
 obtain ⟨h,hh,hT,hS⟩:=lv_row w wt p4 p5
 refine gK ?_
 have oi:o.i≤20:=Ja1 (Jc4 hoo.i) htk.few.1
 refine attr_j (htl.a126 fun pl hpl=>?_)
 refine item_l hpl (Jb0 _) ((Ja8 ..).trans (congrArg (Je7 Port.v) p1)) ?_ (c62' oi)
 refine ⟨rfl,?_⟩
 refine meth_l eR ?_
 refine ⟨rfl,?_⟩
 refine ifB_item wt.at_ w.sg.at_ (Jb0 _) (c62' p6) (fun e=>hT ((kind_beq p.loc).symm.trans e)) (fun e=>hS ((kind_beq p.loc).symm.trans e)) ?_
 refine list_l hh ((Ja2 (as:=r) V.int).symm▸Ja1 p2.2.2 (Ja0 rfl)) fun lc hlc=>?_
 have xc:Ext σ' (upd σ' lc (rowC r)):=(Ext.refl _).upd hlc _
 refine item_t (by decide) rfl ?_ (by decide)
 refine spec_wide (k:=k+2) L (l:=lc) (r:=r) (upd_self ..) p2.2.1 (Ja1 p2.2.2 (Ja0 rfl)) (Ja1 hoo.tot.2 (Ja0 rfl)) fun l' σ3 x3 hl' el'=>?_
 have hl0:=xc.new hl'
 have hlR:l'≠RL:=Ne.symm (live_ne eR hl0)
 have hl2:σ2 l'=none:=b.none (nm1 hlR) hl0
 have eR3:=x3 _ _ (xc _ _ eR)
 have rl:rs.length≤1000:=a.len.symm▸(Ja2 (as:=outs.take i) _).symm▸Ja1 (Jg0 ..) hlen
 refine append_l eR3 ((Ja2 (as:=rs) V.loc).symm▸Ja1 rl (Ja0 rfl)) ?_
 refine okZ (q9 _ _ _ ⟨rs++[l'],SubE.app _ _,?_⟩)
 have ea:rs.map V.loc++[V.loc l']=(rs++[l']).map .loc:=by rw [Jb5];rfl
 show LvI _ _ _ _ _ _ _ (upd σ3 RL (.list (rs.map V.loc++[V.loc l'])))
 rw [ea]
 refine ⟨?_,upd_self ..,(b.ext (xc.trans x3)).set _ (.inl (.head _)),Jb8.mpr ⟨hrs,fun x hx=>Ja4.mp hx▸⟨hno _ hl2,hlR⟩⟩⟩
 have e3:(outs.take (i+1)).map (fun o=>outRow t.ports s.1 ft o)=(outs.take i).map (fun o=>outRow t.ports s.1 ft o)++[outRow t.ports s.1 ft o]:=by rw [take_snoc hx,Jb5];rfl
 exact e3.symm▸((a.ext (xc.trans x3)).keep fun l hl c e=>(upd_ne σ3 _ (hrs l hl).2).trans e).snoc ((upd_ne σ3 _ hlR).trans (p3▸el'))
inductive Lv2I (SL F:Nat) (sl:List Nat) (fl:List (Option Nat)) (σ1:St) (s:Nat→Wd) (i:Nat) (_:List Nat) (σ':St):Prop
 | mk (w:LW σ' SL sl F fl (s i)) (b:ButS (rls sl fl) σ1 σ')
theorem spec_leave (L:Lib Γ) {Q:V→St→Prop} {t:Task} {tl:Nat} {s:Wd} {ft:List (Option (List Int))} {outs:List Out} {ys:List V} {insV:V} {ML:List Nat} (z:Fz Z ML σ) (hML:FS∈ML) (hML2:∀ l∈rls sl fl,l∈ML) (htl:TaskAt Z tl t) (htk:TaskOk (wid s.1) t) (w:LW σ SL sl F fl s) (nd:(rls sl fl).Nodup)
  (wt:RowsAt σ FT flT ft) (hfs:shp ft=fshape t) (hft:FOk ft)
  (hSn:SL∉rls sl fl) (hFn:F∉rls sl fl) (hFSn:FS∉rls sl fl) (n1:FS≠SL) (n2:FS≠F) (n3:FS≠FT) (n4:FS∉flT.filterMap id) (eFS:σ FS=some (.list (ys++[.loc F]++[.loc FT]))) (hys:ys.length≤1000)
  (h1:SOk s.1) (h2:FOk s.2) (ho:∀ o∈outs,OutOk t s.1.length (shp s.2) o) (hlen:outs.length≤1000) (hn:s.1.length≤10000)
  (q:∀ σ',ButS (FS::rls sl fl) σ σ'→LW σ' SL sl F fl (leaveP t.ports s.1 ft outs s)→σ' FS=some (.list (ys++[.loc F]))→Q .none σ') :
  WC Γ (k+4) (.glob 16) [.loc tl,.tup [insV,.tup (outs.map Out.v)],.loc SL,.loc FS] σ Q:=by
 refine WC_def (n:=10) (L.fns 43 _ _ _ _ rfl) rfl ?_
 refine meth_l eFS ?_
 refine ⟨Ji4 _,?_⟩
 refine pop_l eFS (by rw [Jb2];exact Ja1 (Jh0 hys _) (Ja0 rfl)) ?_
 have eFS1:upd σ FS (.list (ys++[V.loc F])) FS=some (.list (ys++[V.loc F])):=upd_self ..
 have b1:ButS [FS] σ (upd σ FS (.list (ys++[V.loc F]))):=(ButS.refl _ _).set _ (.inl (.head _))
 have hno:∀ l,upd σ FS (.list (ys++[V.loc F])) l=none→σ l=none:=fun l h=>(upd_none h).1
 show wpSs _ _ _ (upd σ FS (.list (ys++[V.loc F]))) _
 revert eFS1 b1 hno
 refine gen (upd σ FS (.list (ys++[V.loc F]))) ?_
 intro σ1
 intros
 have w1:LW σ1 SL sl F fl s:=w.but b1 (nm1 (Ne.symm n1)) (nm1 (Ne.symm n2)) fun l hl=>nm1 fun q=>hFSn (q▸hl)
 have wt1:RowsAt σ1 FT flT ft:=wt.buts b1 (nm1 (Ne.symm n3)) fun l hl=>nm1 fun q=>n4 (q▸hl)
 have z1:Fz Z ML σ1:=z.step (b1.wider fun a ha=>Ja4.mp ha▸hML)
 intro RL hRL
 have x1:Ext σ1 (upd σ1 RL (.list [])):=(Ext.refl _).upd hRL _
 have eRL:upd σ1 RL (Cell.list []) RL=some (.list ([]:List V)):=upd_self ..
 show wpSs _ _ _ (upd σ1 RL (.list [])) _
 revert x1 eRL
 refine gen (upd σ1 RL (Cell.list [])) ?_
 intro σ2
 intros
 have k2:∀ {σ':St},ButS [RL] σ2 σ'→Ext σ1 σ':=fun b l c e=>b l c (nm1 (live_ne e hRL)) (x1 _ _ e)
 have hRLσ:σ RL=none:=hno _ hRL
 refine ⟨rfl,?_⟩
 refine item_t (by decide) rfl ?_ (by decide)
 refine iter_t ?_
 refine wpFor_map (lvE (.loc tl) insV (.tup (outs.map Out.v)) SL FS FT RL) (LvI σ σ2 RL outs fun o=>outRow t.ports s.1 ft o) [] ⟨AtL.nil,eRL,ButS.refl _ _,fun r hr=>(by cases hr)⟩ (fun i o rs σ' hx I=>?_) (fun rs σ' I=>?_)
 ·have xx:=k2 (I.rec fun _ _ b _=>b)
  refine ⟨trivial,_,rfl,fun Q9 q9=>?_⟩
  exact lv_step (k:=k) (ws:=[]) L (htl.ext (z1.sub.trans xx)) htk (w1.ext xx) (wt1.ext xx) h1 hft hfs (ho o (Ja9 hx)) hx hlen (fun l h=>hno l (x1.new h)) I q9
 cases I with
 | mk ag eR b2 hrs=>
 rw [Je2] at ag
 have hrl:rs.length=outs.length:=ag.len.trans (Ja2 _)
 have xx:=k2 b2
 have rlz:(rs.map V.loc).length≤1000:=(Ja2 (as:=rs) V.loc).symm▸hrl.symm▸hlen
 refine ⟨trivial,rfl,?_⟩
 refine len_l eR (Ja1 rlz (Ja0 rfl)) ?_
 refine iter_r (Jb0 _) (Jf6.mpr (Ja1 rlz (Ja0 rfl))) ?_
 refine wpFor_map (xs:=Je1 (rs.map V.loc).length) (lvE (.loc tl) insV (.tup (outs.map Out.v)) SL FS FT RL) (Lv2I SL F sl fl σ' fun i=>leaveP t.ports s.1 ft (outs.take i) s) rs ⟨w1.ext xx,ButS.refl _ _⟩ (fun i j b σ3 hx I=>?_) (fun b σ3 I=>?_)
 ·have hj:=range_some hx
  have hi:i<outs.length:=hrl▸Ja2 (as:=rs) V.loc▸hj.2
  have hir:i<rs.length:=hrl.symm▸hi
  cases I with
  | mk w3 b3=>
  have hgo:=Ja5 hi
  have hoo:=ho _ (Jc7 hi)
  have hri:=Ja5 hir
  have hrn:=hrs _ (Jc7 hir)
  revert hgo hoo
  refine gen (outs[i]) ?_
  intro o
  intros
  revert hri hrn
  refine gen (rs[i]) ?_
  intro ri
  intros
  have hrr:=ag.row i _ _ hri ((Ja8 ..).trans (congrArg (Je7 _) hgo))
  have y:=leave_shape htk h1 hft hfs (outs.take i) s h1 h2 fun o' h'=>ho o' (Je6 h')
  have r:=outRow_ok htk h1 hft hfs hoo
  have hi6:i<1000:=Jc8 hi hlen
  have rin:ri∉rls sl fl:=fun q=>(rls_live w q).elim fun r e=>some_ne e hrn.1
  have RLn:RL∉rls sl fl:=fun q=>(rls_live w q).elim fun r e=>some_ne e hRLσ
  refine ⟨trivial,_,rfl,fun Q9 q9=>?_⟩
  refine item_t (by decide) rfl ?_ (by decide)
  refine item_t (Jb0 _) (hj.1▸(Ja8 ..).trans (congrArg (Je7 Out.v) hgo)) ?_ (hj.1▸c62 hi6)
  refine item_t (by decide) rfl ?_ (by decide)
  refine item_l (b3 _ _ RLn eR) (Jb0 _) (hj.1▸(Ja8 ..).trans (congrArg (Je7 _) hri)) ?_ (hj.1▸c62 hi6)
  refine item_last (b3 _ _ hFSn (xx _ _ eFS1)) ?_
  refine spec_put (k:=k) L w3 nd hSn hFn (b3 _ _ rin hrr) rin y.1 y.2.1 r.1 (by rw [wid_len y.2.2.1,y.2.2.2];exact hoo.pt) (Ja1 hoo.few (Ja0 rfl)) r.2.1 (wid_len y.2.2.1▸hn) fun σ4 b4 w4=>?_
  exact okZ (q9 _ _ _ ⟨b,SubE.app _ _,leave_snoc hgo▸w4,b3.trans b4⟩)
 ·cases I with
  | mk w3 b3=>
  rw [Jd4,Ja2,hrl,Je2] at w3
  exact ⟨trivial,q σ3 (fun l c hl e=>b3 _ _ (fun q=>hl (.tail _ q)) (xx _ _ (b1 l c (nm1 fun q=>hl (q▸.head _)) e))) w3 (b3 _ _ hFSn (xx _ _ eFS1))⟩
end
end
section
section
variable {Γ:Gl} {k:Nat} {σ Z:St} {Q:V→St→Prop}
seal itemV attrV setAV setIV biV listM methL sliceV iterV inV newV
noncomputable def bgE (l B:Nat) (_:Unit):List (Nat×V):=[(142,.loc l),(42,.loc B)]
inductive BgI (B:Nat) (σ1:St) (i:Nat) (_:Unit) (σ':St):Prop
 | mk (b1:Int) (rest:List Int) (e:σ' B=some (rowC (0::b1::rest))) (n:rest.length≤i) (b:ButS [B] σ1 σ')
theorem spec_bag (L:Lib Γ) {l:Nat} {xs:List Int} (e:σ l=some (.ro (xs.map V.int))) (hl:xs.length≤5000) (q:∀ σ' B b,Ext σ σ'→σ B=none→BagOk b→σ' B=some (rowC b)→Q (.loc B) σ'):WC Γ (k+1) (.glob 5) [.loc l] σ Q:=by
 refine WC_def (n:=10) (L.fns 28 _ _ _ _ rfl) rfl ?_
 refine fun B hB=>?_
 have x0:Ext σ (upd σ B (rowC [0,1])):=(Ext.refl σ).upd hB _
 have eB:upd σ B (rowC [0,1]) B=some (rowC [0,1]):=upd_self ..
 show wpSs _ _ _ (upd σ B (rowC [0,1])) _
 revert x0 eB
 refine gen (upd σ B (rowC [0,1])) ?_
 intro σ0
 intros
 refine ⟨rfl,?_⟩
 have hz:(xs.map V.int).length≤10000:=(Ja2 _).symm▸Ja1 hl (Ja0 rfl)
 refine list_ro (x0 _ _ e) hz fun n1 h1=>?_
 refine slice_l (h:=20) (upd_self ..) hz (by decide) fun n2 h2=>?_
 have x1:=((Ext.refl σ0).upd h1 (.list (xs.map V.int))).trans ((Ext.refl _).upd h2 (.list ((xs.map V.int).take (20:Int).toNat)))
 have e2:upd (upd σ0 n1 (.list (xs.map V.int))) n2 (.list ((xs.map V.int).take (20:Int).toNat)) n2=some (.list ((xs.take 20).map V.int)):=List.map_take (f:=V.int) (l:=xs)▸upd_self ..
 have n2B:n2≠B:=Ne.symm (live_ne ((Ext.refl σ0).upd h1 _ _ _ eB) h2)
 revert x1 e2
 refine gen (upd (upd σ0 n1 (.list (xs.map V.int))) n2 (.list ((xs.map V.int).take (20:Int).toNat))) ?_
 intro σ1
 intros
 have x:=x0.trans x1
 have ht:(xs.take 20).length≤20:=List.length_take_le ..
 refine iter_l e2 ((Ja2 (as:=xs.take 20) V.int).symm▸Ja1 ht (Ja0 rfl)) ?_
 refine wpFor_map (bgE l B) (BgI B σ1) () ⟨1,[],x1 _ _ eB,Jd7 _,ButS.refl _ _⟩ (fun i c _ σ' hx I=>?_) (fun _ σ' I=>?_)
 ·cases I with
  | mk b1 rest e3 n b=>
  have hi:=Jc8 (Ja3.mp hx).1 ht
  refine ⟨b _ _ (nm1 n2B) e2,_,rfl,fun Q9 q9=>?_⟩
  refine meth_l e3 ?_
  refine ⟨rfl,?_⟩
  refine int_i ?_
  refine append_l e3 ?_ ?_
  ·exact (Ja2 (as:=0::b1::rest) V.int).symm▸Ja1 (Jh0 (Ja1 n (Jc4 hi)) 2) (Ja0 rfl)
  refine okZ ?_
  refine item_k (i:=1) (r:=.int b1) (upd_self ..) rfl ?_ (by decide)
  refine ⟨.inr (by decide),int_i ⟨by decide,by decide,?_⟩⟩
  refine setI_l (upd_self ..) (by decide) ?_ (by decide) ?_
  ·exact Jc1.mpr (Nat.succ_lt_succ (Nat.zero_lt_succ _))
  exact q9 _ _ _ ⟨(),SubE.app _ _,_,rest++[c],(upd_self ..).trans (congrArg (fun x=>some (Cell.list (V.int 0::V.int ((b1 * 31+c.fmod 9973+1).fmod 1000003)::x))) (Jb5 (f:=V.int) (l₁:=rest) (l₂:=[c])).symm),Jb2▸Je9 n,(b.set _ (.inl (.head _))).set _ (.inl (.head _))⟩
 ·cases I with
  | mk b1 rest e3 n b=>
  refine ⟨b _ _ (nm1 n2B) e2,?_⟩
  exact q σ' B _ (fun i c e=>b _ _ (nm1 (live_ne e hB)) (x _ _ e)) hB ⟨Jf3 ..,Ja1 (Jh0 (Ja1 n ht) 2) (Ja0 rfl),Int.le_refl _⟩ e3
structure TaskAs (as:List (Nat×V)) (sl pl:Nat) (t:Task):Prop where
 num:look as 112=some (.int t.num)
 slots:look as 152=some (.loc sl)
 ports:look as 126=some (.loc pl)
 turns:look as 172=some (.int t.turns)
 scope:look as 63=some (.int t.scope)
 body:look as 44=some (bodyV t)
theorem TaskAs.at {as:List (Nat×V)} {sl pl l:Nat} {t:Task} (h:TaskAs as sl pl t) (e:σ l=some (.inst 4 as)) (es:σ sl=some (.list (t.slots.map fun (w:Nat)=>V.int (w:Int)))) (ep:σ pl=some (.list (t.ports.map Port.v))):TaskAt σ l t:=⟨as,sl,pl,e,h.num,h.slots,h.ports,h.turns,h.scope,h.body,es,ep⟩
noncomputable def tkE (num sl pl turns:Nat) (sc:Int) (l P:Nat) (_:Unit):List (Nat×V):=[(112,.int num),(152,.loc sl),(126,.loc pl),(172,.int turns),(139,.int sc),(163,.loc l),(119,.loc P)]
theorem spec_task (L:Lib Γ) {sl pl:Nat} {slots:List Nat} {ports:List Port} {num turns:Nat} {sc:Int} (es:σ sl=some (.list (slots.map fun (w:Nat)=>V.int (w:Int)))) (ep:σ pl=some (.list (ports.map Port.v))) (ht:turns≤20)
  (q:∀ σ' l as,Ext σ σ'→σ l=none→σ' l=some (.inst 4 as)→TaskAs as sl pl ⟨num,slots,ports,turns,sc⟩→Q (.loc l) σ'):WC Γ (k+2) (.glob 27) [.int num,.loc sl,.loc pl,.int turns,.int sc] σ Q:=by
 refine WC_def (n:=10) (L.fns 37 _ _ _ _ rfl) rfl ?_
 refine new_g fun n1 σ1 x1 h1 _=>?_
 refine new_g fun n2 σ2 x2 h2 _=>?_
 refine spec_thread (k:=k) L fun l nc ns nd σ3 x3 hl _ _ el _=>?_
 have x:=x1.trans x2
 have hl0:σ l=none:=x.new hl
 have x:=x.trans x3
 refine setA_g el fun σ4 b4 e4=>?_
 refine setA_g e4 fun σ5 b5 e5=>?_
 refine setA_g e5 fun σ6 b6 e6=>?_
 have x:Ext σ σ6:=fun i c e=>(b4.trans (b5.trans b6)) i c (live_ne e hl0) (x i c e)
 refine new_g fun P σ7 x7 hP e7=>?_
 refine ⟨rfl,?_⟩
 refine iter_r (Jb0 _) (Jf6.mpr (Ja1 ht (Ja0 rfl))) ?_
 refine wpFor_map (xs:=Je1 turns) (tkE num sl pl turns sc l P) (fun i _ σ'=>σ' P=some (.list (sysV num::Jb1 i turnV))∧But P σ7 σ') () ⟨e7,But.refl _ _⟩ (fun i y _ σ' hy I=>?_) (fun _ σ' I=>?_)
 ·have hi:=Ja1 (Jc4 (range_some hy).2) ht
  refine ⟨trivial,_,rfl,fun Q9 q9=>?_⟩
  refine meth_l I.1 ?_
  refine ⟨rfl,?_⟩
  refine append_g I.1 ?_ fun σ8 b8 e8=>?_
  ·exact Ja1 (Je9 ((Jd6 (n:=i)).symm▸hi)) (Ja0 rfl)
  refine okZ ?_
  exact q9 _ _ _ ⟨(),SubE.app _ _,e8.trans (congrArg (fun x=>some (Cell.list (sysV num::x))) List.replicate_succ'.symm),I.2.trans b8⟩
 ·have I:=(Jd4 (n:=turns))▸I
  refine ⟨trivial,?_⟩
  refine setA_g (I.2 _ _ (live_ne e6 hP) (x7 _ _ e6)) fun σ9 b9 e9=>?_
  refine tuple_l (b9 _ _ (live_ne e6 hP).symm I.1) ?_ ?_
  ·exact Ja1 (Je9 ((Jd6 (n:=turns)).symm▸ht)) (Ja0 rfl)
  refine setA_g e9 fun σ10 b10 e10=>?_
  exact q σ10 l _ (fun i c e=>b10 _ _ (live_ne e hl0) (b9 _ _ (live_ne e hl0) (I.2 _ _ (live_ne (x _ _ e) hP) (x7 _ _ (x _ _ e))))) hl0 e10 ⟨rfl,rfl,rfl,rfl,rfl,rfl⟩
end
end
section
noncomputable def spotsN (fl:List (Option Nat)):List Nat:=(Je1 fl.length).filter fun i=>(fl.getD i none).isSome
theorem spots_mem {fl:List (Option Nat)} {i:Nat} (h:i∈spotsN fl):∃ l,fl[i]?=some (some l):=by
 obtain ⟨h1,h2⟩:=List.mem_filter.mp h
 rw [Ja6] at h2
 cases q:fl[i]? with
 | none=>rw [q] at h2;cases h2
 | some a=>cases a with
  | none=>rw [q] at h2;cases h2
  | some l=>exact ⟨l,rfl⟩
section
variable {Γ:Gl} {k:Nat} {σ Z:St}
seal itemV attrV setAV setIV biV listM methL sliceV iterV inV newV look put
theorem wp_spots {m:List (Nat×V)} {F:Nat} {fl:List (Option Nat)} {Q:V→St→Prop} (h76:look m 76=some (.loc F)) (eF:σ F=some (.list (fl.map optV))) (hl:fl.length≤1000) (q:∀ l,σ l=none→Q (.loc l) (upd σ l (.list ((spotsN fl).map fun (i:Nat)=>V.int (i:Int))))) :
  wpE Γ k [] 60 false (.comp (.var 86) 86 true (.bi 199 [(.var 76)]) (some (.notN (.item (.var 76) (.var 86))))) m σ Q:=by
 refine ⟨rfl,?_⟩
 conv=>whnf
 rw [h76]
 refine len_l eF (by simp;lia) ?_
 refine iter_r (by lia) (by simp;lia) ?_
 have e76:∀ y,look (put m 86 y) 76=some (.loc F):=fun y=>by rw [look_put,if_neg (by decide),h76]
 have e86:∀ y,look (put m 86 y) 86=some y:=fun y=>by rw [look_put,if_pos rfl]
 refine wpIt_filter (fun v=>match v with | .int i=>(fl.getD i.toNat none).isSome | _=>false) (fun v=>v) (by rw [upTo_len];simp;lia) trivial (fun y hy R hR=>?_) (fun y hy hp R hR=>?_) ?_
 ·refine gabs fun gG gK=>?_
  obtain ⟨i,hi⟩:=List.mem_iff_getElem?.mp hy
  obtain ⟨rfl,hlt⟩:=upTo_some hi
  refine gK ?_
  have hlt:i<fl.length:=by simpa using hlt
  conv=>whnf
  rw [e76]
  conv=>whnf
  rw [e86]
  have hat:(fl.map optV)[((i:Nat):Int).toNat]?=some (optV fl[i]):=by simp [hlt]
  refine item_l eF (by lia) hat ?_ (by lia)
  refine (congrArg (fun b=>R (V.bool b) σ) ?_).mpr hR
  dsimp only
  rw [Jf1,Ja6,Ja5 hlt]
  cases fl[i] <;> rfl
 ·conv=>whnf
  rw [e86]
  exact hR
 ·intro n hn
  conv=>whnf
  have:((upTo (((fl.map optV).length:Nat):Int).toNat).filter fun v=>match v with | .int i=>(fl.getD i.toNat none).isSome | _=>false).map (fun v=>v)=(spotsN fl).map fun (i:Nat)=>V.int (i:Int):=by
   rw [List.map_id',Jf1,Ja2,upTo,spotsN,List.filter_map]
   congr 1
  rw [this]
  exact q n hn
theorem wpSs_nil {fr:Frees} {f:S→List (Nat×V)→St→SPost→Prop} {m:List (Nat×V)} {Q:SPost} (q:Q .next m σ):wpSs f [] m σ Q:=q
theorem wpS_spots {n x:Nat} {rest:List S} {m:List (Nat×V)} {F:Nat} {fl:List (Option Nat)} {Q:SPost} (h76:look m 76=some (.loc F)) (eF:σ F=some (.list (fl.map optV))) (hl:fl.length≤1000) (q:∀ l,σ l=none→wpSs (wpS Γ k [] (n+1)) rest (put m x (.loc l)) (upd σ l (.list ((spotsN fl).map fun (i:Nat)=>V.int (i:Int)))) Q) :
  wpSs (wpS Γ k [] (n+1)) (.asg x (.comp (.var 86) 86 true (.bi 199 [(.var 76)]) (some (.notN (.item (.var 76) (.var 86)))))::rest) m σ Q:=by
 show wpE Γ k [] 60 false (.comp (.var 86) 86 true (.bi 199 [(.var 76)]) (some (.notN (.item (.var 76) (.var 86))))) m σ fun v σ1=>asgV [] x v m σ1 fun m1 σ1=>wpSs (wpS Γ k [] (n+1)) rest m1 σ1 Q
 exact wp_spots h76 eF hl fun l hl=>q l hl
end
end
section
structure Bg (σ:St) (B SL:Nat) (sl:List Nat) (F:Nat) (fl:List (Option Nat)) (s:Wd) (b:List Int):Prop where
 w:LW σ SL sl F fl s
 e:σ B=some (rowC b)
 hb:BagOk b
structure Bn (B SL:Nat) (sl:List Nat) (F:Nat) (fl:List (Option Nat)):Prop where
 n1:B≠SL
 n2:B≠F
 n3:B∉rls sl fl
structure Wok (s:Wd):Prop where
 h1:SOk s.1
 h2:FOk s.2
 hn:1≤s.1.length∧s.1.length≤100
 hf:s.2.length≤100
section
variable {Γ:Gl} {k:Nat} {σ Z:St} {SL F B:Nat} {sl:List Nat} {fl:List (Option Nat)} {s:Wd} {b:List Int} {Q:V→St→Prop}
theorem Bg.ext {σ':St} (G:Bg σ B SL sl F fl s b) (x:Ext σ σ'):Bg σ' B SL sl F fl s b:=⟨G.w.ext x,x _ _ G.e,G.hb⟩
theorem Bg.but {σ':St} {L:List Nat} (G:Bg σ B SL sl F fl s b) (x:ButS L σ σ') (h0:B∉L) (h1:SL∉L) (h2:F∉L) (h3:∀ l∈rls sl fl,l∉L):Bg σ' B SL sl F fl s b:=⟨G.w.but x h1 h2 h3,x _ _ h0 G.e,G.hb⟩
theorem Bg.bag {σ':St} {b':List Int} (N:Bn B SL sl F fl) (G:Bg σ B SL sl F fl s b) (x:ButS [B] σ σ') (e:σ' B=some (rowC b')) (hb:BagOk b'):Bg σ' B SL sl F fl s b':=
 ⟨G.w.but x (fun q=>N.n1 (Ja4.mp q).symm) (fun q=>N.n2 (Ja4.mp q).symm) (fun l hl q=>N.n3 (Ja4.mp q▸hl)),e,hb⟩
theorem pullG (L:Lib Γ) (N:Bn B SL sl F fl) (G:Bg σ B SL sl F fl s b) {many:Int} (hm:0<many∧many<1000000) (q:∀ (g:Nat) b' σ',(g:Int)<many→ButS [B] σ σ'→Bg σ' B SL sl F fl s b'→Q (.int g) σ'):WC Γ (k+1) (.glob 20) [.loc B,.int many] σ Q:=by
 refine spec_pull (k:=k) L G.hb G.e hm fun g b' h0 h1 hb=>?_
 obtain ⟨i,rfl⟩:∃ i:Nat,g=i:=⟨g.toNat,(Jg7 h0).symm⟩
 have x:ButS [B] σ (upd σ B (rowC b')):=(ButS.refl _ _).set _ (.inl (.head _))
 exact q i b' _ h1 x (G.bag N x (upd_self ..) hb)
theorem drawnG (L:Lib Γ) (N:Bn B SL sl F fl) (G:Bg σ B SL sl F fl s b) {w:Nat} (hw:1≤w∧w≤50) (q:∀ r b' l' σ',Rok r→r.length=w→l'≠B→σ l'=none→σ' l'=some (rowC r)→ButS [B] σ σ'→Bg σ' B SL sl F fl s b'→Q (.loc l') σ'):WC Γ (k+2) (.glob 10) [.loc B,.int w] σ Q:=by
 refine spec_drawn (k:=k) L G.hb G.e (Ja1 hw.2 (Ja0 rfl)) fun r b' l' σ' hr hrl hb hn hl e1 e2 x=>?_
 exact q r b' l' σ' ⟨hr,fun e=>Nat.not_succ_le_zero 0 (Ja1 hw.1 (Je5 (hrl.symm.trans (congrArg List.length e)))),hrl▸hw.2⟩ hrl hn hl e1 x.buts (G.bag N x.buts e2 hb)
theorem pullN (L:Lib Γ) (N:Bn B SL sl F fl) (G:Bg σ B SL sl F fl s b) {n:Nat} (h0:0<n) (h1:n≤100) (q:∀ (g:Nat) b' σ',g<n→ButS [B] σ σ'→Bg σ' B SL sl F fl s b'→Q (.int g) σ'):WC Γ (k+1) (.glob 20) [.loc B,.int n] σ Q:=
 pullG L N G ⟨Jc1.mpr h0,Jc1.mpr (Jc9 h1 (Ja0 rfl))⟩ fun g b' σ' h=>q g b' σ' (Jc1.mp h)
seal itemV attrV setAV setIV biV listM methL sliceV iterV inV newV
theorem vec3_get {r:List Int}:vecOf r=.tup [.int r.length,.int (lowN r),.int (highN r)]:=rfl
theorem rok_len {r:List Int} (h:Rok r):(r.map V.int).length≤10000:=(Ja2 (as:=r) V.int).symm▸Ja1 h.2.2 (Ja0 rfl)
theorem LW.olen (w:LW σ SL sl F fl s):((sl.map some).map optV).length=s.1.length:=(Ja2 ..).trans ((Ja2 ..).trans w.slen)
theorem LW.frow (w:LW σ SL sl F fl s) {i l:Nat} (hl:fl[i]?=some (some l)):∃ r,s.2[i]?=some (some r)∧σ l=some (rowC r):=by
 have hi2:=Ja5 (w.flen▸(Ja3.mp hl).1:i<s.2.length)
 have hrow:=w.fr.row i _ _ hl hi2
 cases hr:s.2[i]'(w.flen▸(Ja3.mp hl).1) with
 | none=>rw [hr] at hrow;exact hrow.elim
 | some r=>rw [hr] at hrow hi2;exact ⟨r,hi2,hrow⟩
noncomputable def gvE (B SL F gx P:Nat):List (Nat×V):=[(42,.loc B),(150,.loc SL),(76,.loc F),(122,.int gx),(154,.loc P)]
noncomputable def GvQ (σ:St) (B SL:Nat) (sl:List Nat) (F:Nat) (fl:List (Option Nat)) (s:Wd) (R:SPost):Prop:=∀ σ' e b' m',Ie.ok e s.1.length (shp s.2)→ButS [B] σ σ'→Bg σ' B SL sl F fl s b'→R (.ret e.v) m' σ'
theorem given_tail (L:Lib Γ) (N:Bn B SL sl F fl) (G:Bg σ B SL sl F fl s b) (W:Wok s) {gx P:Nat} {R:SPost} (x1:ButS [B] Z σ) (q:GvQ Z B SL sl F fl s R) :
  wpSs (wpS Γ (k+2) [] 10) [.asg 94 (.call 20 [(.var 42),(.bi 199 [(.var 150)])]),.ret (.tup [(.str 146),(.bi 199 [(.item (.var 150) (.var 94))]),(.var 94)])] (gvE B SL F gx P) σ R:=by
 refine len_l G.w.sg.at_ (G.w.olen▸Ja1 W.hn.2 (Ja0 rfl)) ?_
 refine pullN (k:=k+1) L N G (G.w.olen▸W.hn.1) (G.w.olen▸W.hn.2) fun i b2 σ3 hi x2 G3=>?_
 rw [G.w.olen] at hi
 refine gabs fun gG gK=>?_
 obtain ⟨l,e1,e2,e3⟩:=G3.w.sat hi
 refine gK ?_
 refine item_k G3.w.sg.at_ e3 ?_ (Ja1 (Jc4 hi) (Ja1 W.hn.2 (Ja0 rfl)))
 refine len_l e2 (rok_len (W.h1 _ (Jc7 hi))) ?_
 conv=>whnf
 rw [Ja2]
 exact q σ3 (.sig s.1[i].length i) b2 _ ⟨hi,Ja1 (Jc4 hi) (Ja1 W.hn.2 (Ja0 rfl))⟩ (x1.trans x2) G3
theorem given_frame (L:Lib Γ) (N:Bn B SL sl F fl) (G:Bg σ B SL sl F fl s b) (W:Wok s) {gx P:Nat} {R:SPost} (eP:σ P=some (.list ((spotsN fl).map fun (i:Nat)=>V.int (i:Int)))) (hPB:P≠B) (hsl:(spotsN fl).length≤100) (h4:0<(spotsN fl).length) (x1:ButS [B] Z σ) (q:GvQ Z B SL sl F fl s R) :
  wpSs (wpS Γ (k+2) [] 9) [.asg 153 (.item (.var 154) (.call 20 [(.var 42),(.bi 199 [(.var 154)])])),.ret (.tup [(.str 101),(.bi 199 [(.item (.var 76) (.var 153))]),(.var 153)])] (gvE B SL F gx P) σ R:=by
 have hlen:((spotsN fl).map fun (i:Nat)=>V.int (i:Int)).length=(spotsN fl).length:=Ja2 ..
 refine len_l eP (hlen▸Ja1 hsl (Ja0 rfl)) ?_
 refine pullN (k:=k+1) L N G (hlen▸h4) (hlen▸hsl) fun j b2 σ3 hj x2 G3=>?_
 rw [hlen] at hj
 refine gabs fun gG gK=>?_
 obtain ⟨l,hl⟩:=spots_mem (Jc7 hj)
 obtain ⟨r,hr,hrow⟩:=G3.w.frow hl
 refine gK ?_
 have hi:(spotsN fl)[j]≤100:=Ja1 (Jc4 (Ja3.mp hr).1) W.hf
 refine item_k (x2 _ _ (nm1 hPB) eP) (r:=.int ((spotsN fl)[j]:Nat)) (by rw [Ja8,Ja5 hj];rfl) ?_ (Ja1 (Jc4 hj) (Ja1 hsl (Ja0 rfl)))
 revert hl hr hi
 refine gen ((spotsN fl)[j]) ?_
 intro i hl hr hi
 refine item_k G3.w.fr.at_ (r:=.loc l) (by rw [Ja8,hl];rfl) ?_ (Ja1 hi (Ja0 rfl))
 refine len_l hrow (rok_len (W.h2.at hr)) ?_
 conv=>whnf
 rw [Ja2]
 exact q σ3 (.frm r.length i) b2 _ ⟨Ja1 hi (Ja0 rfl),r.length,shp_of hr⟩ (x1.trans x2) G3
theorem givenG (L:Lib Γ) (N:Bn B SL sl F fl) (G:Bg σ B SL sl F fl s b) (W:Wok s) (q:∀ σ' e b',Ie.ok e s.1.length (shp s.2)→ButS [B] σ σ'→Bg σ' B SL sl F fl s b'→Q e.v σ'):WC Γ (k+3) (.glob 14) [.loc B,.loc SL,.loc F] σ Q:=by
 refine WC_def (n:=10) (L.fns 39 _ _ _ _ rfl) rfl ?_
 refine pullN (k:=k+1) (n:=4) L N G (Ja0 rfl) (Ja0 rfl) fun g b1 σ1 hg x1 G1=>?_
 refine ifB_intro (fun h=>?_) (fun h=>?_)
 ·refine pullN (k:=k+1) (n:=4) L N G1 (Ja0 rfl) (Ja0 rfl) fun g2 b2 σ2 hg2 x2 G2=>?_
  conv=>whnf
  rw [show (1:Int)+(g2:Int)=((1+g2:Nat):Int) from (Int.natCast_add 1 g2).symm]
  have hw:1+g2≤50:=Ja1 (Je4 (Jc4 hg2) 1) (Ja0 rfl)
  refine drawnG (k:=k) L N G2 ⟨Jc6 _ _,hw⟩ fun r b3 l' σ3 hr hrl _ _ el' x3 G3=>?_
  refine spec_vector (k:=k+1) L el' (Ja1 hr.2.2 (Ja0 rfl)) hr.1 ?_
  refine item_t (by decide) rfl ?_
  refine item_t (by decide) rfl ?_
  conv=>whnf
  rw [← hrl]
  exact q σ3 (.const r) b3 hr (x1.trans (x2.trans x3)) G3
 ·refine wpSs_nil (fr:=[]) ?_
  try dsimp only
  have hfl:fl.length≤100:=G1.w.flen▸W.hf
  have hsl:(spotsN fl).length≤100:=Ja1 (Jf8 ..) ((Jd4 (n:=fl.length)).symm▸hfl)
  refine wpS_spots (F:=F) rfl G1.w.fr.at_ (Ja1 hfl (Ja0 rfl)) fun P hP=>?_
  have xP:Ext σ1 (upd σ1 P (.list ((spotsN fl).map fun (i:Nat)=>V.int (i:Int)))):=(Ext.refl _).upd hP _
  have eP:upd σ1 P (.list ((spotsN fl).map fun (i:Nat)=>V.int (i:Int))) P=some (.list ((spotsN fl).map fun (i:Nat)=>V.int (i:Int))):=upd_self ..
  have hPB:P≠B:=fun q=>live_ne G1.e hP q.symm
  revert eP xP
  refine gen (upd σ1 P (.list ((spotsN fl).map fun (i:Nat)=>V.int (i:Int)))) ?_
  intro σ2 xP eP
  have x2:=x1.ext xP
  have G2:=G1.ext xP
  clear xP G1 x1 G
  have q:=fun σ' e b' (m':List (Nat×V))=>q σ' e b'
  conv=>whnf
  refine ifB_intro (fun h3=>?_) (fun h3=>?_)
  ·refine len_l eP ((Ja2 (as:=spotsN fl) _).symm▸Ja1 hsl (Ja0 rfl)) ?_
   refine ifB_intro (fun h4=>?_) (fun h4=>?_)
   ·have h4:0<(spotsN fl).length:=Jc1.mp (Ja2 (as:=spotsN fl) (fun (i:Nat)=>V.int (i:Int))▸of_decide_eq_true h4)
    refine .t rfl ?_
    show wpSs _ _ (gvE B SL F g P) σ2 _
    exact given_frame L N G2 W eP hPB hsl h4 x2 q
   ·refine .f rfl ?_
    show wpSs (wpS Γ (k+2) [] 10) _ (gvE B SL F g P) σ2 (retQ Q)
    exact given_tail L N G2 W x2 q
  ·refine .f rfl ?_
   show wpSs (wpS Γ (k+2) [] 10) _ (gvE B SL F g P) σ2 (retQ Q)
   exact given_tail L N G2 W x2 q
end
end
section
section
variable {Γ:Gl} {k:Nat} {σ Z:St} {SL F B:Nat} {sl:List Nat} {fl:List (Option Nat)} {s:Wd} {b:List Int} {Q:V→St→Prop}
seal itemV attrV setAV setIV biV listM methL sliceV iterV inV newV
theorem tot_snoc (ps:List Pt) (p:Pt):tot (ps++[p])=tot ps+p.w:=by
 induction ps with
 | nil=>exact Nat.add_comm ..
 | cons a ps ih=>exact (congrArg (a.w+·) ih).trans (Nat.add_assoc ..).symm
structure TgF (B SL:Nat) (sl:List Nat) (F:Nat) (fl:List (Option Nat)) (s:Wd) (PL:Nat) (σ1:St) (ps:List Pt) (b:List Int) (σ':St):Prop where
 e:σ' PL=some (.list (ps.map Pt.v))
 bb:ButS [B,PL] σ1 σ'
 G:Bg σ' B SL sl F fl s b
 ne:PL≠B
theorem TgF.pull (L:Lib Γ) (N:Bn B SL sl F fl) {PL:Nat} {σ1:St} {ps:List Pt} (T:TgF B SL sl F fl s PL σ1 ps b σ) {many:Int} (hm:0<many∧many<1000000) (q:∀ (g:Nat) b' σ',(g:Int)<many→ButS [B] σ σ'→TgF B SL sl F fl s PL σ1 ps b' σ'→Q (.int g) σ'):WC Γ (k+1) (.glob 20) [.loc B,.int many] σ Q:=
 pullG L N T.G hm fun g b' σ' h y G'=>q g b' σ' h y ⟨y _ _ (nm1 T.ne) T.e,T.bb.trans (y.wider fun x hx=>Ja4.mp hx▸.head _),G',T.ne⟩
noncomputable def tgE (B SL F PL:Nat) (b:List Pt×List Int):List (Nat×V):=[(42,.loc B),(150,.loc SL),(76,.loc F),(119,.loc PL),(170,.int (tot b.1:Nat))]
noncomputable def tgE1 (B SL F PL:Nat) (n:Int) (i P:Nat) (loc:Bool) (ref:Nat):List (Nat×V):=[(42,.loc B),(150,.loc SL),(76,.loc F),(119,.loc PL),(170,.int n),(171,.int i),(154,.loc P),(95,kindV loc),(127,.int ref)]
theorem sub_tgE {PL:Nat} {ps:List Pt} {bs:List Int} {nn:Int} {t:List (Nat×V)} (hn:nn=(tot ps:Nat)):SubE (tgE B SL F PL (ps,bs)) ([(42,.loc B),(150,.loc SL),(76,.loc F),(119,.loc PL),(170,.int nn)]++t):=by subst hn;exact SubE.app _ _
inductive TgI (B SL:Nat) (sl:List Nat) (F:Nat) (fl:List (Option Nat)) (s:Wd) (PL:Nat) (σ1:St) (i:Nat) (b:List Pt×List Int) (σ':St):Prop
 | mk (hp:∀ p∈b.1,PtOk s.1.length (shp s.2) p) (n:b.1.length=i) (t1:i≤tot b.1) (t2:tot b.1≤4 * i) (T:TgF B SL sl F fl s PL σ1 b.1 b.2 σ')
theorem tg_fin (L:Lib Γ) {PL i P:Nat} {σ1:St} {ps:List Pt} {p:Pt} {t:List (Nat×V)} {Q:SPost} (T:TgF B SL sl F fl s PL σ1 ps b σ) (hPL:∀ l∈B::SL::F::rls sl fl,l∉[PL]) (hp0:PtOk s.1.length (shp s.2) p) (hw:1≤p.w∧p.w≤4) (hi:i≤100) (hps:∀ p∈ps,PtOk s.1.length (shp s.2) p) (n:ps.length=i) (t1:i≤tot ps) (t2:tot ps≤4 * i) {Q9:SPost} (q9:Le (invQ (EnvI (tgE B SL F PL) (TgI B SL sl F fl s PL σ1 (i+1))) Q) Q9) :
  wpSs (wpS Γ (k+2) [] 9) [.expr (.meth (.var 119) 37 [(.tup [(.var 95),(.var 177),(.var 127),.none,(.var 179)])]),.aug 170 .Add (.var 177)] (put (put (tgE1 B SL F PL (tot ps:Nat) i P p.loc p.ref) 177 (.int p.w)) 179 p.wh.v++t) σ Q9:=by
 refine meth_l T.e ?_
 refine ⟨rfl,?_⟩
 refine append_l T.e ((Ja2 (as:=ps) Pt.v).symm▸n.symm▸Ja1 hi (Ja0 rfl)) ?_
 refine okZ ⟨rfl,?_⟩
 have et:=tot_snoc ps p
 have ea:ps.map Pt.v++[p.v]=(ps++[p]).map Pt.v:=by rw [Jb5];rfl
 refine (q9 _ _ _ ⟨(ps++[p],b),sub_tgE (congrArg Nat.cast et).symm,Jb8.mpr ⟨hps,fun x hx=>Ja4.mp hx▸hp0⟩,(Jb2 ..).trans (congrArg (· + 1) n),et▸Jg1 t1 hw.1,et▸Jg1 t2 hw.2,?_,T.bb.set _ (.inl (.tail _ (.head _))),T.G.but ((ButS.refl _ _).set (L:=[PL]) _ (.inl (.head _))) (hPL _ (.head _)) (hPL _ (.tail _ (.head _))) (hPL _ (.tail _ (.tail _ (.head _)))) fun l hl=>hPL l (.tail _ (.tail _ (.tail _ hl))),T.ne⟩)
 exact ea▸upd_self ..
theorem tg_rest (L:Lib Γ) (N:Bn B SL sl F fl) (W:Wok s) {PL i P ref:Nat} {loc:Bool} {σ1:St} {ps:List Pt} {Q:SPost} (T:TgF B SL sl F fl s PL σ1 ps b σ) (hPL:∀ l∈B::SL::F::rls sl fl,l∉[PL]) (hr0:ref≤10000) (hr1:loc=true→∃ w,(shp s.2)[ref]?=some (some w)) (hr2:loc=false→ref<s.1.length) (hi:i≤100) (hps:∀ p∈ps,PtOk s.1.length (shp s.2) p) (n:ps.length=i) (t1:i≤tot ps) (t2:tot ps≤4 * i) {Q9:SPost} (q9:Le (invQ (EnvI (tgE B SL F PL) (TgI B SL sl F fl s PL σ1 (i+1))) Q) Q9) :
  wpSs (wpS Γ (k+2) [] 9) [.asg 177 (.bin .Add (.int 1) (.call 20 [(.var 42),(.int 4)])),
  .asg 179 (.tup [(.str 39),(.int 0)]),
  .ifs (.cmp .eq (.call 20 [(.var 42),(.int 2)]) (.int 0)) [.asg 94 (.call 20 [(.var 42),(.bi 199 [(.var 150)])]),
   .asg 87 (.tup [(.str 146),(.bi 199 [(.item (.var 150) (.var 94))]),(.var 94)]),
   .asg 179 (.tup [(.str 122),(.var 87),(.cmp .eq (.call 20 [(.var 42),(.int 2)]) (.int 0)),(.call 20 [(.var 42),(.int 3)]),(.bin .Sub (.int 1) (.bin .Mult (.int 2) (.call 20 [(.var 42),(.int 2)])))])] [],
  .expr (.meth (.var 119) 37 [(.tup [(.var 95),(.var 177),(.var 127),.none,(.var 179)])]),
  .aug 170 .Add (.var 177)] (tgE1 B SL F PL (tot ps:Nat) i P loc ref) σ Q9:=by
 refine T.pull (k:=k+1) L N (by decide) fun g4 b4 σ4 hg4 y4 T4=>?_
 have hw:1≤1+g4∧1+g4≤4:=⟨Jc6 ..,Je4 (Jg6 (Jc1.mp hg4)) 1⟩
 refine T4.pull (k:=k+1) L N (by decide) fun g5 b5 σ5 hg5 y5 T5=>?_
 refine ifB_intro (fun h=>?_) (fun h=>?_)
 ·have hsz:((sl.map some).map optV).length=s.1.length:=(Ja2 _).trans ((Ja2 _).trans T5.G.w.slen)
  refine len_l T5.G.w.sg.at_ (hsz.symm▸Ja1 W.hn.2 (Ja0 rfl)) ?_
  refine T5.pull (k:=k+1) L N ⟨Jc1.mpr (hsz.symm▸W.hn.1),Jc1.mpr (hsz.symm▸Jc9 W.hn.2 (Ja0 rfl))⟩ fun j b6 σ6 hj y6 T6=>?_
  have hj:j<s.1.length:=hsz▸Jc1.mp hj
  refine gabs fun gG gK=>?_
  obtain ⟨l,w1,w2,w3⟩:=T6.G.w.sat hj
  refine gK ?_
  have hj4:j≤100:=Ja1 (Jc4 hj) W.hn.2
  have hrk:=W.h1 _ (Jc7 hj)
  refine item_l T6.G.w.sg.at_ (Jb0 _) w3 ?_ (c62' hj4)
  refine len_l w2 ((Ja2 (as:=s.1[j]) V.int).symm▸Ja1 hrk.2.2 (Ja0 rfl)) ?_
  refine T6.pull (k:=k+1) L N (by decide) fun g7 b7 σ7 hg7 y7 T7=>?_
  refine T7.pull (k:=k+1) L N (by decide) fun g8 b8 σ8 hg8 y8 T8=>?_
  refine T8.pull (k:=k+1) L N (by decide) fun g9 b9 σ9 hg9 y9 T9=>?_
  refine ⟨.inl (by decide),?_⟩
  exact tg_fin (k:=k) (p:=⟨loc,1+g4,ref,.pick (s.1[j].map V.int).length j (cmpI .eq (g7:Nat) 0) (g8:Nat) (1 - 2 * (g9:Nat))⟩) (t:=[(94,.int j),(87,.tup [.str 146,.int (s.1[j].map V.int).length,.int j])]) L T9 hPL ⟨⟨hj,by lia⟩,hr0,hr1,hr2⟩ hw hi hps n t1 t2 q9
 ·exact tg_fin (k:=k) (p:=⟨loc,1+g4,ref,.at 0⟩) (t:=[]) L T5 hPL ⟨trivial,hr0,hr1,hr2⟩ hw hi hps n t1 t2 q9
theorem spec_target (L:Lib Γ) (N:Bn B SL sl F fl) (G:Bg σ B SL sl F fl s b) (W:Wok s)
  (q:∀ σ' ps b',(∀ p∈ps,PtOk s.1.length (shp s.2) p)→ps.length≤20→1≤tot ps→tot ps≤40→ButS [B] σ σ'→Bg σ' B SL sl F fl s b'→Q (lvV (tot ps) ps) σ'):WC Γ (k+3) (.glob 26) [.loc B,.loc SL,.loc F] σ Q:=by
 refine WC_def (n:=10) (L.fns 40 _ _ _ _ rfl) rfl ?_
 have hfl:=G.w.flen
 intro PL hPL
 have x0:Ext σ (upd σ PL (.list [])):=(Ext.refl _).upd hPL _
 have eP0:upd σ PL (.list ([]:List V)) PL=some (.list []):=upd_self ..
 have G0:=G.ext x0
 have hPLn:∀ l∈B::SL::F::rls sl fl,l∉[PL]:=Ja7.mpr ⟨nm1 (live_ne G.e hPL),Ja7.mpr ⟨nm1 (live_ne G.w.sg.at_ hPL),Ja7.mpr ⟨nm1 (live_ne G.w.fr.at_ hPL),fun l hl=>(rls_live G.w hl).elim fun r e=>nm1 (live_ne e hPL)⟩⟩⟩
 show wpSs _ _ _ (upd σ PL (.list ([]:List V))) _
 revert x0 eP0 G0
 refine gen (upd σ PL (.list ([]:List V))) ?_
 intro σ0
 intros
 have nPB:PL≠B:=Ne.symm (live_ne G.e hPL)
 refine ⟨rfl,?_⟩
 refine (TgF.mk (σ1:=σ0) (ps:=[]) eP0 (ButS.refl _ _) G0 nPB).pull (k:=k+1) L N (by decide) fun g0 b1 σ1 hg0 y1 T1=>?_
 have hg:g0≤1:=Jg6 (Jc1.mp hg0)
 refine iter_r (Int.add_nonneg (by decide) (Jb0 _)) (by lia) ?_
 refine wpFor_map (xs:=Je1 (1+g0)) (tgE B SL F PL) (TgI B SL sl F fl s PL σ0) ([],b1) ⟨(fun p hp=>(by cases hp)),rfl,Jd7 _,Jd7 _,T1⟩ (fun i j b' σ' hx I=>?_) (fun b' σ' I=>?_)
 ·have hj:=range_some hx
  have hi:i≤1:=Ja1 (Jg6 (Jc8 hj.2 (Je5 (Nat.add_comm ..)))) hg
  have hji:=hj.1.symm
  subst hji
  cases I with
  | mk hps n t1 t2 T=>
  refine ⟨trivial,_,rfl,fun Q9 q9=>?_⟩
  refine wpS_spots (F:=F) rfl T.G.w.fr.at_ (hfl.symm▸Ja1 W.hf (Ja0 rfl)) fun P hP=>?_
  have xP:Ext σ' (upd σ' P (.list ((spotsN fl).map fun (i:Nat)=>V.int (i:Int)))):=(Ext.refl _).upd hP _
  have eS:upd σ' P (.list ((spotsN fl).map fun (i:Nat)=>V.int (i:Int))) P=some (.list ((spotsN fl).map fun (i:Nat)=>V.int (i:Int))):=upd_self ..
  have hPB:P≠B:=Ne.symm (live_ne T.G.e hP)
  revert xP eS
  refine gen (upd σ' P (.list ((spotsN fl).map fun (i:Nat)=>V.int (i:Int)))) ?_
  intro σ2
  intros
  have T2:TgF B SL sl F fl s PL σ0 b'.1 b'.2 σ2:=⟨xP _ _ T.e,T.bb.ext xP,T.G.ext xP,nPB⟩
  have hsl:((spotsN fl).map fun (i:Nat)=>V.int (i:Int)).length≤100:=(Ja2 (as:=spotsN fl) _).symm▸Ja1 (Jf8 ..) (Ja1 (Je5 Jd4) (Ja1 (Je5 hfl) W.hf))
  have hsz:((sl.map some).map optV).length=s.1.length:=(Ja2 _).trans ((Ja2 _).trans G.w.slen)
  refine len_l T2.G.w.sg.at_ (hsz.symm▸Ja1 W.hn.2 (Ja0 rfl)) ?_
  refine T2.pull (k:=k+1) L N ⟨Jc1.mpr (hsz.symm▸W.hn.1),Jc1.mpr (hsz.symm▸Jc9 W.hn.2 (Ja0 rfl))⟩ fun j b3 σ3 hj y3 T3=>?_
  have hj:j<s.1.length:=hsz▸Jc1.mp hj
  have hj4:j≤10000:=Ja1 (Jc4 hj) (Ja1 W.hn.2 (Ja0 rfl))
  have eS3:=y3 _ _ (nm1 hPB) eS
  let Jq:List (Nat×V)→St→Prop:=fun m4 σ4=>∃ loc ref b4,And5 (tgE1 B SL F PL (tot b'.1:Nat) i P loc ref=m4) (TgF B SL sl F fl s PL σ0 b'.1 b4 σ4) (ref≤10000) (loc=true→∃ w,(shp s.2)[ref]?=some (some w)) (loc=false→ref<s.1.length)
  refine wpSs_join Jq (fun Q9 q9=>?_) (fun m4 σ4 hJ=>?_)
  ·refine len_l eS3 (Ja1 hsl (Ja0 rfl)) ?_
   refine ifB_intro (fun h4=>?_) (fun h4=>?_)
   ·have h4:=of_decide_eq_true h4
    refine T3.pull (k:=k+1) L N (by decide) fun g4 b4 σ4 hg4 y4 T4=>?_
    have eS4:=y4 _ _ (nm1 hPB) eS3
    refine ifB_intro (fun h5=>?_) (fun h5=>?_)
    ·refine ifB.t rfl ?_
     refine len_l eS4 (Ja1 hsl (Ja0 rfl)) ?_
     refine T4.pull (k:=k+1) L N ⟨h4,Jc1.mpr (Jc9 hsl (Ja0 rfl))⟩ fun g5 b5 σ5 hg5 y5 T5=>?_
     have hg5:g5<((spotsN fl).map fun (i:Nat)=>V.int (i:Int)).length:=Jc1.mp hg5
     have hg5':g5<(spotsN fl).length:=Ja2 (as:=spotsN fl) (fun (i:Nat)=>V.int (i:Int))▸hg5
     have hje:=Ja5 hg5'
     refine gabs fun gG gK=>?_
     obtain ⟨l,hl⟩:=spots_mem (Jc7 hg5')
     refine gK ?_
     revert hl hje
     refine gen ((spotsN fl)[g5]) ?_
     intro sp
     intros
     have hil:=(Ja3.mp hl).1
     have hshp:∃ w,(shp s.2)[sp]?=some (some w):=by
      have hi2:=Ja5 (hfl▸hil:sp<s.2.length)
      have hrow:=T5.G.w.fr.row sp _ _ hl hi2
      cases hr:s.2[sp]'(hfl▸hil) with
      | none=>rw [hr] at hrow;exact hrow.elim
      | some r=>rw [hr] at hi2;exact ⟨_,shp_of hi2⟩
     refine item_l (y5 _ _ (nm1 hPB) eS4) (Jb0 _) ((Ja8 ..).trans (congrArg (Je7 _) hje)) ?_ (c62 (Jc8 hg5 hsl))
     exact (q9 _ _ _ ⟨true,sp,b5,rfl,T5,Ja1 (Jc4 hil) (hfl.symm▸Ja1 W.hf (Ja0 rfl)),fun _=>hshp,(fun q=>(by cases q))⟩)
    ·refine ifB.f rfl ?_
     exact (q9 _ _ _ ⟨false,j,b4,rfl,T4,hj4,(fun q=>(by cases q)),fun _=>hj⟩)
   ·refine ifB.f rfl ?_
    exact (q9 _ _ _ ⟨false,j,b3,rfl,T3,hj4,(fun q=>(by cases q)),fun _=>hj⟩)
  ·refine gabs fun gG gK=>?_
   obtain ⟨loc,ref,b4,rfl,T4,hr0,hr1,hr2⟩:=hJ
   refine gK ?_
   exact tg_rest (k:=k) L N W T4 hPLn hr0 hr1 hr2 (Ja1 hi (Ja0 rfl)) hps n t1 t2 q9
 ·cases I with
  | mk hps n t1 t2 T=>
  rw [Jd4] at n t1 t2
  have hn2:1+g0≤2:=Je4 hg 1
  refine ⟨trivial,?_⟩
  refine tuple_l T.e ((Ja2 (as:=b'.1) Pt.v).symm▸n.symm▸Ja1 hn2 (Ja0 rfl)) ?_
  exact q σ' b'.1 b'.2 hps (n.symm▸Ja1 hn2 (Ja0 rfl)) (Ja1 (Jc6 ..) t1) (Ja1 t2 (Ja1 (Nat.mul_le_mul_left 4 hn2) (Ja0 rfl))) (fun l c hl e=>T.bb l c (nmc (fun q=>hl (q▸.head _)) (nm1 (live_ne e hPL))) (x0 _ _ e)) T.G
end
end
section
section
variable {Γ:Gl} {k:Nat} {σ Z:St} {SL F B:Nat} {sl:List Nat} {fl:List (Option Nat)} {s:Wd} {b:List Int} {Q:V→St→Prop}
theorem nin_snoc (ps:List Port) (p:Port):nin (ps++[p])=nin ps+(if isOut p.dir then 0 else 1):=by
 unfold nin
 rw [List.filter_append,Jb2,List.filter_cons]
 cases isOut p.dir <;> rfl
theorem targetG (L:Lib Γ) (N:Bn B SL sl F fl) (G:Bg σ B SL sl F fl s b) (W:Wok s) {t:Task} {i:Nat} (hi:i<t.ports.length)
  (q:∀ σ' o b',OutOk t s.1.length (shp s.2) o→o.i=i→ButS [B] σ σ'→Bg σ' B SL sl F fl s b'→Q (lvV (tot o.ps) o.ps) σ'):WC Γ (k+3) (.glob 26) [.loc B,.loc SL,.loc F] σ Q:=
 spec_target L N G W fun σ' ps b' h1 h2 h3 h4 h5 h6=>q σ' ⟨ps,i⟩ b' ⟨hi,h2,⟨h3,h4⟩,h1⟩ rfl h5 h6
seal itemV attrV setAV setIV biV listM methL sliceV iterV inV newV
theorem reverse_l {l:Nat} {xs:List V} (e:σ l=some (.list xs)) (hl:xs.length≤10000) (q:Q .none (upd σ l (.list xs.reverse))):listM l .reverse [] σ Q:=by unfold listM;exact ⟨xs,e,hl,q⟩
structure Apart (B SL F i:Nat) (r:List Nat):Prop where
 b:B∉[i]
 s:SL∉[i]
 f:F∉[i]
 r:∀ l∈r,l∉[i]
theorem Bg.new {i:Nat} (G:Bg σ B SL sl F fl s b) (h:σ i=none):Apart B SL F i (rls sl fl):=⟨nm1 (live_ne G.e h),nm1 (live_ne G.w.sg.at_ h),nm1 (live_ne G.w.fr.at_ h),fun l hl=>(rls_live G.w hl).elim fun r e=>nm1 (live_ne e h)⟩
theorem Bg.put {i:Nat} (G:Bg σ B SL sl F fl s b) (n:Apart B SL F i (rls sl fl)) (c:Cell):Bg (upd σ i c) B SL sl F fl s b:=G.but ((ButS.refl _ _).set (L:=[i]) _ (.inl (.head _))) n.b n.s n.f n.r
noncomputable def caE (u1 u2 u3 u4:V) (IL OL:Nat) (_:List Ie×List Out×List Int):List (Nat×V):=[(42,u1),(163,u2),(150,u3),(76,u4),(91,.loc IL),(116,.loc OL)]
inductive CaF (B SL:Nat) (sl:List Nat) (F:Nat) (fl:List (Option Nat)) (s:Wd) (t:Task) (IL OL:Nat) (σ0:St) (ins:List Ie) (outs:List Out) (b:List Int) (σ':St):Prop
 | mk (hi:∀ e∈ins,Ie.ok e s.1.length (shp s.2)) (ho:∀ o∈outs,OutOk t s.1.length (shp s.2) o) (eI:σ' IL=some (.list (ins.map Ie.v))) (eO:σ' OL=some (.list (outs.map Out.v))) (bb:ButS [B,IL,OL] σ0 σ') (G:Bg σ' B SL sl F fl s b)
inductive CaI (B SL:Nat) (sl:List Nat) (F:Nat) (fl:List (Option Nat)) (s:Wd) (t:Task) (IL OL:Nat) (σ0:St) (i:Nat) (b:List Ie×List Out×List Int) (σ':St):Prop
 | mk (f:CaF B SL sl F fl s t IL OL σ0 b.1 b.2.1 b.2.2 σ') (n:b.1.length=nin (t.ports.take i)) (m:b.2.1.length≤i)
theorem CaF.inn {t:Task} {IL OL:Nat} {σ0 σ' σ3:St} {ins:List Ie} {outs:List Out} {b b3:List Int} {e:Ie} (h:CaF B SL sl F fl s t IL OL σ0 ins outs b σ') (nd:[B,IL,OL].Nodup) (nI:Apart B SL F IL (rls sl fl)) (he:Ie.ok e s.1.length (shp s.2)) (y:ButS [B] σ' σ3) (G3:Bg σ3 B SL sl F fl s b3):σ3 IL=some (.list (ins.map Ie.v))∧CaF B SL sl F fl s t IL OL σ0 (ins++[e]) outs b3 (upd σ3 IL (.list (ins.map Ie.v++[e.v]))):=by
 cases h with
 | mk hi ho eI eO bb G=>
 have g:[[B],[IL],[OL]].flatten.Nodup:=nd
 have e1:=kp g [0] y 1 (.head _) rfl eI
 exact ⟨e1,Jb8.mpr ⟨hi,fun x hx=>Ja4.mp hx▸he⟩,ho,(upd_self ..).trans (congrArg (fun x=>some (Cell.list x)) (by rw [Jb5];rfl)),(upd_ne _ _ (nine g 2 1 (.head _) (.head _) rfl)).trans (kp g [0] y 2 (.head _) rfl eO),(bb.trans (kpB g [0] [0,1,2] y rfl)).set _ (.inl (.tail _ (.head _))),G3.put nI _⟩
theorem CaF.out {t:Task} {IL OL:Nat} {σ0 σ' σ3:St} {ins:List Ie} {outs:List Out} {b b3:List Int} {o:Out} (h:CaF B SL sl F fl s t IL OL σ0 ins outs b σ') (nd:[B,IL,OL].Nodup) (nO:Apart B SL F OL (rls sl fl)) (ho1:OutOk t s.1.length (shp s.2) o) (y:ButS [B] σ' σ3) (G3:Bg σ3 B SL sl F fl s b3):σ3 OL=some (.list (outs.map Out.v))∧CaF B SL sl F fl s t IL OL σ0 ins (outs++[o]) b3 (upd σ3 OL (.list (outs.map Out.v++[o.v]))):=by
 cases h with
 | mk hi ho eI eO bb G=>
 have g:[[B],[IL],[OL]].flatten.Nodup:=nd
 have e1:=kp g [0] y 2 (.head _) rfl eO
 exact ⟨e1,hi,Jb8.mpr ⟨ho,fun x hx=>Ja4.mp hx▸ho1⟩,(upd_ne _ _ (nine g 1 2 (.head _) (.head _) rfl)).trans (kp g [0] y 1 (.head _) rfl eI),(upd_self ..).trans (congrArg (fun x=>some (Cell.list x)) (by rw [Jb5];rfl)),(bb.trans (kpB g [0] [0,1,2] y rfl)).set _ (.inl (.tail _ (.tail _ (.head _)))),G3.put nO _⟩
theorem ca_step (L:Lib Γ) (N:Bn B SL sl F fl) (W:Wok s) {t:Task} {tl IL OL i:Nat} {σ0 σ':St} {p:Port} {bs:List Ie×List Out×List Int} {Q:SPost} (nd:[B,IL,OL].Nodup) (nI:Apart B SL F IL (rls sl fl)) (nO:Apart B SL F OL (rls sl fl)) (hz:∀ {σ':St},ButS [B,IL,OL] σ0 σ'→Ext Z σ') (htz:TaskAt Z tl t) (hp:t.ports[i]?=some p) (hi20:i<20) (I:CaI B SL sl F fl s t IL OL σ0 i bs σ') {Q9:SPost} (q9:Le (invQ (EnvI (caE (.loc B) (.loc tl) (.loc SL) (.loc F) IL OL) (CaI B SL sl F fl s t IL OL σ0 (i+1))) Q) Q9) :
  wpSs (wpS Γ (k+3) [] 9) [.ifs (.cmp .ne (.item (.item (.attr (.var 163) 126) (.var 86)) (.int 0)) (.str 115)) [.expr (.meth (.var 91) 37 [(.call 14 [(.var 42),(.var 150),(.var 76)])])] [],
  .ifs (.cmp .ne (.item (.item (.attr (.var 163) 126) (.var 86)) (.int 0)) (.str 90)) [.expr (.meth (.var 116) 37 [(.tup [(.call 26 [(.var 42),(.var 150),(.var 76)]),(.var 86)])])] []]
   (put (caE (.loc B) (.loc tl) (.loc SL) (.loc F) IL OL bs) 86 (.int i)) σ' Q9:=by
 cases I with
 | mk f n m=>
 have hv:(t.ports.map Port.v)[i]?=some p.v:=(Ja8 ..).trans (congrArg (Je7 Port.v) hp)
 have t1:nin (t.ports.take (i+1))=nin (t.ports.take i)+(if isOut p.dir then 0 else 1):=by rw [take_snoc hp];exact nin_snoc _ _
 have hin:bs.1.length≤i:=n▸Ja1 (Jf8 ..) (List.length_take_le ..)
 let Jq:List (Nat×V)→St→Prop:=fun m2 σ2=>∃ ins b2,put (caE (.loc B) (.loc tl) (.loc SL) (.loc F) IL OL bs) 86 (.int i)=m2∧CaF B SL sl F fl s t IL OL σ0 ins bs.2.1 b2 σ2∧ins.length=nin (t.ports.take (i+1))
 refine wpSs_join Jq (fun Q9 q9=>?_) (fun m2 σ2 hJ=>?_)
 ·have x1:=hz (f.rec fun _ _ _ _ bb _=>bb)
  refine attr_j (htz.a126x x1 fun pl hpl=>?_)
  refine item_l (x1 _ _ hpl) (Jb0 _) hv ?_ (c62 hi20)
  refine item_t (by decide) rfl ?_ (by decide)
  refine ifB_intro (fun h=>?_) (fun h=>?_)
  ·have h:isOut p.dir=false:=(isOut_beq p.dir).symm.trans ((Jg2 _).mp h)
   refine meth_l (f.rec fun _ _ eI _ _ _=>eI) ?_
   refine ⟨rfl,?_⟩
   refine givenG (k:=k) L N (f.rec fun _ _ _ _ _ G=>G) W fun σ3 e b3 he y3 G3=>?_
   have g:=f.inn nd nI he y3 G3
   refine append_l g.1 ((Ja2 (as:=bs.1) Ie.v).symm▸Ja1 hin (Ja1 (Jc4 hi20) (Ja0 rfl))) ?_
   exact okZ (q9 _ _ _ ⟨_,b3,rfl,g.2,by rw [Jb2,n,t1,h];rfl⟩)
  ·have h:isOut p.dir=true:=(isOut_beq p.dir).symm.trans ((Jh5 _).mp h)
   exact (q9 _ _ _ ⟨_,_,rfl,f,by rw [n,t1,h];rfl⟩)
 ·refine gabs fun gG gK=>?_
  obtain ⟨ins,b2,rfl,f2,n2⟩:=hJ
  refine gK ?_
  have x1:=hz (f2.rec fun _ _ _ _ bb _=>bb)
  refine attr_j (htz.a126x x1 fun pl hpl=>?_)
  refine item_l (x1 _ _ hpl) (Jb0 _) hv ?_ (c62 hi20)
  refine item_t (by decide) rfl ?_ (by decide)
  refine ifB_intro (fun h=>?_) (fun h=>?_)
  ·refine meth_l (f2.rec fun _ _ _ eO _ _=>eO) ?_
   refine ⟨rfl,?_⟩
   refine targetG (k:=k) L N (f2.rec fun _ _ _ _ _ G=>G) W (Ja3.mp hp).1 fun σ3 o b3 ho hoi y3 G3=>?_
   subst hoi
   have g:=f2.out nd nO ho y3 G3
   refine append_l g.1 ((Ja2 (as:=bs.2.1) Out.v).symm▸Ja1 m (Ja1 (Jc4 hi20) (Ja0 rfl))) ?_
   exact okZ (q9 _ _ _ ⟨(ins,bs.2.1++[o],b3),SubE.app _ _,g.2,n2,(Jb2 (as:=bs.2.1) (bs:=[o])).symm▸Je9 m⟩)
  ·exact q9 _ _ _ ⟨(ins,bs.2.1,b2),SubE.app _ _,f2,n2,Jg3 m⟩
theorem spec_call (L:Lib Γ) (N:Bn B SL sl F fl) (G:Bg σ B SL sl F fl s b) (W:Wok s) {t:Task} {tl:Nat} (htl:TaskAt σ tl t) (hBt:∀ {l:Nat} {c:Cell},Z l=some c→l≠B) (hZ:Ext Z σ) (htz:TaskAt Z tl t) (htk:t.ports.length≤20)
  (q:∀ σ' (ins:List Ie) (outs:List Out) b',(∀ e∈ins,Ie.ok e s.1.length (shp s.2))→ins.length=nin t.ports→(∀ o∈outs,OutOk t s.1.length (shp s.2) o)→outs.length≤20→ButS [B] σ σ'→Bg σ' B SL sl F fl s b'→Q (.tup [.tup (ins.map Ie.v),.tup (outs.map Out.v)]) σ'):WC Γ (k+4) (.glob 6) [.loc B,.loc tl,.loc SL,.loc F] σ Q:=by
 refine WC_def (n:=10) (L.fns 41 _ _ _ _ rfl) rfl ?_
 intro IL hIL
 have xI:Ext σ (upd σ IL (.list [])):=(Ext.refl _).upd hIL _
 have eI:upd σ IL (.list []) IL=some (.list ([]:List V)):=upd_self ..
 have nI:=G.new hIL
 show wpSs _ _ _ (upd σ IL (.list ([]:List V))) _
 revert xI eI
 refine gen (upd σ IL (.list ([]:List V))) ?_
 intro σI
 intros
 intro OL hOL
 have xO:Ext σI (upd σI OL (.list [])):=(Ext.refl _).upd hOL _
 have eO:upd σI OL (.list []) OL=some (.list ([]:List V)):=upd_self ..
 have nO:=(G.ext xI).new hOL
 have hOL0:=xI.new hOL
 show wpSs _ _ _ (upd σI OL (.list ([]:List V))) _
 revert xO eO
 refine gen (upd σI OL (.list ([]:List V))) ?_
 intro σ0
 intros
 have x0:=xI.trans xO
 have nd:[B,IL,OL].Nodup:=nd_snoc (nd_snoc (List.pairwise_singleton _ B) fun q=>nI.b (Ja4.mp q▸.head _)) (not_live (lvc (xI _ _ G.e) (lvc eI lv0)) hOL)
 have g:[[B],[IL],[OL]].flatten.Nodup:=nd
 have hz:∀ {σ':St},ButS [B,IL,OL] σ0 σ'→Ext Z σ':=fun y l c e=>y l c (nmc (hBt e) (nmc (live_ne (hZ _ _ e) hIL) (nm1 (live_ne (hZ _ _ e) hOL0)))) (x0 _ _ (hZ _ _ e))
 have x1:=hz (ButS.refl _ _)
 refine ⟨rfl,?_⟩
 refine attr_j (htz.a126x x1 fun pl hpl=>?_)
 have hl20:(t.ports.map Port.v).length≤20:=(Ja2 (as:=t.ports) _).symm▸htk
 refine len_l (x1 _ _ hpl) (Ja1 hl20 (Ja0 rfl)) ?_
 refine iter_r (Jb0 _) (Jf6.mpr (Ja1 hl20 (Ja0 rfl))) ?_
 refine wpFor_map (xs:=Je1 (t.ports.map Port.v).length) (caE (.loc B) (.loc tl) (.loc SL) (.loc F) IL OL) (CaI B SL sl F fl s t IL OL σ0) ([],[],b) ⟨⟨(fun e h=>(by cases h)),(fun o h=>(by cases h)),xO _ _ eI,eO,ButS.refl _ _,G.ext x0⟩,rfl,Jd7 _⟩ (fun i j bs σ' hx I=>?_) (fun bs σ' I=>?_)
 ·have hj:=range_some hx
  have hi:i<t.ports.length:=Ja2 (as:=t.ports) Port.v▸hj.2
  refine ⟨trivial,_,rfl,fun Q9 q9=>?_⟩
  have hji:=hj.1
  subst hji
  exact ca_step (k:=k) L N W nd nI nO hz htz (Ja5 hi) (Jc8 hi htk) I q9
 cases I with
 | mk f n m=>
 cases f with
 | mk hi ho fI fO bb G'=>
 rw [Jd4,Ja2] at m n
 rw [Je2] at n
 have hm:bs.2.1.length≤20:=Ja1 m htk
 have hn:bs.1.length≤20:=n.symm▸Ja1 (Jf8 ..) htk
 refine ⟨trivial,?_⟩
 refine pullG (k:=k+2) L N G' (by decide) fun g0 b3 σ3 hg y3 G3=>?_
 have f1:=kp g [0] y3 1 (.head _) rfl fI
 have f2:=kp g [0] y3 2 (.head _) rfl fO
 have f3:=bb.trans (kpB g [0] [0,1,2] y3 rfl)
 have hm':(bs.2.1.map Out.v).length≤10000:=(Ja2 (as:=bs.2.1) Out.v).symm▸Ja1 hm (Ja0 rfl)
 have hn':(bs.1.map Ie.v).length≤10000:=(Ja2 (as:=bs.1) Ie.v).symm▸Ja1 hn (Ja0 rfl)
 have fin:∀ {σ2:St},ButS [B,IL,OL] σ0 σ2→ButS [B] σ σ2:=fun y l c hl e=>y l c (nmc (fun q=>hl (q▸.head _)) (nmc (live_ne e hIL) (nm1 (live_ne e hOL0)))) (x0 _ _ e)
 refine ifB_intro (fun h=>?_) (fun h=>?_)
 ·refine meth_l f2 ?_
  refine ⟨rfl,?_⟩
  refine reverse_l f2 hm' ?_
  refine okZ ?_
  rw [← List.map_reverse]
  refine tuple_l ((upd_ne _ _ (nine g 1 2 (.head _) (.head _) rfl)).trans f1) hn' ?_
  refine tuple_l (upd_self ..) ((Ja2 (as:=bs.2.1.reverse) Out.v).symm▸Ji3 (as:=bs.2.1)▸Ja1 hm (Ja0 rfl)) ?_
  exact q _ bs.1 bs.2.1.reverse b3 hi n (fun o h=>ho o (List.mem_reverse.mp h)) (Ji3 (as:=bs.2.1)▸hm) (fin (f3.set _ (.inl (.tail _ (.tail _ (.head _)))))) (G3.put nO _)
 ·refine tuple_l f1 hn' ?_
  refine tuple_l f2 hm' ?_
  exact q _ bs.1 bs.2.1 b3 hi n ho hm (fin f3) G3
end
end
section
noncomputable def grow (Z σ σ':St) (L:List Nat):St:=fun i=>match σ i with
 | none=>if i∈L then none else σ' i
 | some _=>Z i
theorem grow_new {Z σ σ':St} {L:List Nat} {i:Nat} {c:Cell} (h0:σ i=none) (h1:σ' i=some c) (h:i∉L):grow Z σ σ' L i=some c:=by
 unfold grow;rw [h0];exact (if_neg h).trans h1
structure Bs (σ:St) (B SL:Nat) (sl:List Nat) (sv:List (List Int)) (b:List Int):Prop where
 w:RowsAt σ SL (sl.map some) (sv.map some)
 e:σ B=some (rowC b)
 hb:BagOk b
 n1:B≠SL
 n3:B∉sl
 nd:sl.Nodup
 sn:SL∉sl
 ok:SOk sv
theorem PoOk.more {ws ws' slots slots':List Nat} {p:Port} (h:PoOk ws slots p) (h1:ws <+: ws') (h2:slots <+: slots'):PoOk ws' slots' p:=by
 refine gabs fun gG gK=>?_
 obtain ⟨x,rfl⟩:=h1
 obtain ⟨y,rfl⟩:=h2
 refine gK ?_
 exact ⟨h.w,h.ref,fun e=>by have:=h.frm e;rw [Jb4 (Ja3.mp this).1];exact this,fun e=>by have:=h.sig e;rw [Jb4 (Ja3.mp this).1];exact this⟩
section
variable {Γ:Gl} {k:Nat} {σ Z:St} {SL B:Nat} {sl:List Nat} {sv:List (List Int)} {b:List Int} {Q:V→St→Prop}
theorem Bs.but {σ':St} {L:List Nat} (S:Bs σ B SL sl sv b) (x:ButS L σ σ') (h0:B∉L) (h1:SL∉L) (h3:∀ l∈sl,l∉L):Bs σ' B SL sl sv b:=
 ⟨S.w.buts x h1 fun l hl=>h3 l (by rw [fm_map] at hl;exact hl),x _ _ h0 S.e,S.hb,S.n1,S.n3,S.nd,S.sn,S.ok⟩
theorem Bs.ext {σ':St} (S:Bs σ B SL sl sv b) (x:Ext σ σ'):Bs σ' B SL sl sv b:=S.but (L:=[]) x.buts (by simp) (by simp) (by simp)
theorem Bs.bag {σ':St} {b':List Int} (S:Bs σ B SL sl sv b) (x:ButS [B] σ σ') (e:σ' B=some (rowC b')) (hb:BagOk b'):Bs σ' B SL sl sv b':=
 ⟨S.w.buts x (by simp;exact Ne.symm S.n1) fun l hl=>by rw [fm_map] at hl;simp;exact fun q=>S.n3 (by rw [← q];exact hl),e,hb,S.n1,S.n3,S.nd,S.sn,S.ok⟩
theorem Bs.len (S:Bs σ B SL sl sv b):sl.length=sv.length:=by have:=S.w.len;simpa using this
theorem Bs.live (S:Bs σ B SL sl sv b) {l:Nat} (h:l∈sl):∃ r,σ l=some (rowC r):=S.w.live (by rw [fm_map];exact h)
theorem Bs.snoc {l:Nat} {r:List Int} (S:Bs σ B SL sl sv b) (e:σ l=some (rowC r)) (hl:l∉sl) (h1:l≠SL) (h2:l≠B) (hr:Rok r):Bs (upd σ SL (.list (((sl++[l]).map some).map optV))) B SL (sl++[l]) (sv++[r]) b:=by
 refine ⟨⟨upd_self ..,by simp [S.len],fun i a r' ha hr'=>?_⟩,by rw [upd_ne _ _ S.n1];exact S.e,S.hb,S.n1,?_,?_,?_,fun r' h=>?_⟩
 ·have hlen:=S.len
  rw [Ja8] at ha hr'
  by_cases hi:i<sl.length
  ·rw [Jb4 hi] at ha
   rw [Jb4 (by lia)] at hr'
   have:=S.w.row i a r' (by rw [Ja8];exact ha) (by rw [Ja8];exact hr')
   rw [Ja5 hi] at ha
   cases ha
   cases r' with
   | none=>exact this.elim
   | some r'=>
    show upd σ SL _ sl[i]=_
    rw [upd_ne _ _ (fun q=>S.sn (by rw [← q];exact Jc7 hi))];exact this
  ·rw [Jd8 (by lia)] at ha
   rw [Jd8 (by lia),← hlen] at hr'
   by_cases q:i - sl.length=0
   ·rw [q] at ha hr';simp at ha hr';subst ha;subst hr'
    show upd σ SL _ l=_
    rw [upd_ne _ _ h1];exact e
   ·obtain ⟨n,hn⟩:=Nat.exists_eq_succ_of_ne_zero q
    rw [hn] at ha;simp at ha
 ·simp;exact ⟨S.n3,Ne.symm h2⟩
 ·rw [Jc2];exact ⟨S.nd,by simp,fun a ha c hc q=>by simp at hc;subst hc;subst q;exact hl ha⟩
 ·simp;exact ⟨S.sn,Ne.symm h1⟩
 ·rcases Jd0.mp h with h | h
  ·exact S.ok r' h
  ·simp at h;subst h;exact hr
theorem pullS (L:Lib Γ) (G:Bs σ B SL sl sv b) {many:Int} (hm:0<many∧many<1000000) (q:∀ (g:Nat) b' σ',(g:Int)<many→ButS [B] σ σ'→Bs σ' B SL sl sv b'→Q (.int g) σ'):WC Γ (k+1) (.glob 20) [.loc B,.int many] σ Q:=by
 refine spec_pull (k:=k) L G.hb G.e hm fun g b' h0 h1 hb=>?_
 obtain ⟨i,rfl⟩:∃ i:Nat,g=i:=⟨g.toNat,by lia⟩
 have x:ButS [B] σ (upd σ B (rowC b')):=(ButS.refl _ _).set _ (.inl (by simp))
 exact q i b' _ (by lia) x (G.bag x (upd_self ..) hb)
theorem drawnS (L:Lib Γ) (G:Bs σ B SL sl sv b) {w:Nat} (hw:1≤w∧w≤50) (q:∀ r b' l' σ',Rok r→r.length=w→l'≠B→σ l'=none→σ' l'=some (rowC r)→ButS [B] σ σ'→Bs σ' B SL sl sv b'→Q (.loc l') σ'):WC Γ (k+2) (.glob 10) [.loc B,.int w] σ Q:=by
 refine spec_drawn (k:=k) L G.hb G.e (by lia) fun r b' l' σ' hr hrl hb hn hl e1 e2 x=>?_
 exact q r b' l' σ' ⟨hr,fun e=>by rw [e] at hrl;simp at hrl;lia,by lia⟩ hrl hn hl e1 x.buts (G.bag x.buts e2 hb)
seal itemV attrV setAV setIV biV listM methL sliceV iterV inV newV
structure SeF (B SL SLO PL:Nat) (sl:List Nat) (sv:List (List Int)) (σ σ0:St) (slots:List Nat) (ports:List Port) (sx:List Nat) (sy:List (List Int)) (b:List Int) (σ':St):Prop where
 eS:σ' SLO=some (.list (intsV slots))
 eP:σ' PL=some (.list (ports.map Port.v))
 bb:ButS [B,SL,SLO,PL] σ0 σ'
 S:Bs σ' B SL (sl++sx) (sv++sy) b
 x:∀ l∈sx,σ l=none
 nS:∀ l∈B::SL::(sl++sx),l∉[SLO]
 nP:∀ l∈B::SL::(sl++sx),l∉[PL]
 ne:PL≠SLO
section
variable {SLO PL:Nat} {σ0 σ':St} {slots:List Nat} {ports:List Port} {sx:List Nat} {sy:List (List Int)}
theorem SeF.pull (L:Lib Γ) (h:SeF B SL SLO PL sl sv σ σ0 slots ports sx sy b σ') {many:Int} (hm:0<many∧many<1000000) (q:∀ (g:Nat) b' σ2,(g:Int)<many→ButS [B] σ' σ2→SeF B SL SLO PL sl sv σ σ0 slots ports sx sy b' σ2→Q (.int g) σ2):WC Γ (k+1) (.glob 20) [.loc B,.int many] σ' Q:=
 pullS L h.S hm fun g b' σ2 hg y S2=>q g b' σ2 hg y ⟨y _ _ (nm1 fun q=>h.nS B (.head _) (q▸.head _)) h.eS,y _ _ (nm1 fun q=>h.nP B (.head _) (q▸.head _)) h.eP,h.bb.trans (y.wider fun x hx=>Ja4.mp hx▸.head _),S2,h.x,h.nS,h.nP,h.ne⟩
theorem SeF.putS (h:SeF B SL SLO PL sl sv σ σ0 slots ports sx sy b σ') (w:Nat):SeF B SL SLO PL sl sv σ σ0 (slots++[w]) ports sx sy b (upd σ' SLO (.list (intsV slots++[.int w]))):=
 ⟨(upd_self ..).trans (congrArg (fun x=>some (Cell.list x)) (by rw [intsV,intsV,Jb5];rfl)),(upd_ne _ _ h.ne).trans h.eP,h.bb.set _ (.inl (.tail _ (.tail _ (.head _)))),h.S.but ((ButS.refl _ _).set (L:=[SLO]) _ (.inl (.head _))) (h.nS _ (.head _)) (h.nS _ (.tail _ (.head _))) fun l hl=>h.nS l (.tail _ (.tail _ hl)),h.x,h.nS,h.nP,h.ne⟩
theorem SeF.putP (h:SeF B SL SLO PL sl sv σ σ0 slots ports sx sy b σ') (p:Port):SeF B SL SLO PL sl sv σ σ0 slots (ports++[p]) sx sy b (upd σ' PL (.list (ports.map Port.v++[p.v]))):=
 ⟨(upd_ne _ _ (Ne.symm h.ne)).trans h.eS,(upd_self ..).trans (congrArg (fun x=>some (Cell.list x)) (by rw [Jb5];rfl)),h.bb.set _ (.inl (.tail _ (.tail _ (.tail _ (.head _))))),h.S.but ((ButS.refl _ _).set (L:=[PL]) _ (.inl (.head _))) (h.nP _ (.head _)) (h.nP _ (.tail _ (.head _))) fun l hl=>h.nP l (.tail _ (.tail _ hl)),h.x,h.nS,h.nP,h.ne⟩
inductive SeI (B SL SLO PL:Nat) (sl:List Nat) (sv:List (List Int)) (σ σ0:St) (i:Nat) (b:List Nat×List Port×List Nat×List (List Int)×List Int) (σ':St):Prop
 | mk (w:∀ w∈b.1,1≤w∧w≤20) (n1:b.1.length≤i) (n2:b.2.1.length≤i) (n3:b.2.2.2.1.length≤i) (po:∀ p∈b.2.1,PoOk (wid (sv++b.2.2.2.1)) b.1 p) (F:SeF B SL SLO PL sl sv σ σ0 b.1 b.2.1 b.2.2.1 b.2.2.2.1 b.2.2.2.2 σ')
noncomputable def seE (B SL SLO PL:Nat) {β:Type} (_:β):List (Nat×V):=[(42,.loc B),(150,.loc SL),(152,.loc SLO),(126,.loc PL)]
theorem dir3 {g:Nat} (h:(g:Int)<3):∃ dir:Dir,[V.str 90,.str 115,.str 89][((g:Nat):Int).toNat]?=some (.str dir.id):=by
 match g,h with
 | 0,_=>exact ⟨.inp,rfl⟩
 | 1,_=>exact ⟨.outp,rfl⟩
 | 2,_=>exact ⟨.inout,rfl⟩
 | n+3,h=>exact absurd (Jc1.mp h) (Nat.not_lt.mpr (Jf3 ..))
theorem se_step (L:Lib Γ) (hsv:sv.length≤100) {i:Nat} {bs:List Nat×List Port×List Nat×List (List Int)×List Int} {Q:SPost} (x0:Ext σ σ0) (hi:i<10) (I:SeI B SL SLO PL sl sv σ σ0 i bs σ') {Q9:SPost} (q9:Le (invQ (EnvI (seE B SL SLO PL) (SeI B SL SLO PL sl sv σ σ0 (i+1))) Q) Q9) :
  wpSs (wpS Γ (k+2) [] 9) [.asg 62 (.item (.tup [(.str 90),(.str 115),(.str 89)]) (.call 20 [(.var 42),(.int 3)])),
  .asg 177 (.bin .Add (.int 1) (.call 20 [(.var 42),(.int 4)])),
  .asg 149 (.cmp .eq (.call 20 [(.var 42),(.int 2)]) (.int 1)),
  .ifs (.cmp .eq (.call 20 [(.var 42),(.int 2)]) (.int 0)) [.expr (.meth (.var 126) 37 [(.tup [(.var 62),(.var 177),(.var 149),(.str 101),(.bi 199 [(.var 152)])])]),
   .expr (.meth (.var 152) 37 [(.var 177)])] [.expr (.meth (.var 126) 37 [(.tup [(.var 62),(.var 177),(.var 149),(.str 146),(.bi 199 [(.var 150)])])]),
   .expr (.meth (.var 150) 37 [(.call 10 [(.var 42),(.var 177)])])]] (put (seE B SL SLO PL bs) 171 (.int i)) σ' Q9:=by
 cases I with
 | mk hw n1 n2 n3 po F=>
 refine F.pull (k:=k+1) L (by decide) fun g2 b2 σ2 hg2 y2 F2=>?_
 refine (dir3 hg2).elim fun dir hdir=>?_
 refine item_t (Jb0 _) hdir ?_ (c62 (Jc1.mp hg2))
 refine F2.pull (k:=k+1) L (by decide) fun g3 b3 σ3 hg3 y3 F3=>?_
 have hw3:1≤1+g3∧1+g3≤20:=⟨Jc6 ..,Ja1 (Je4 (Jg6 (Jc1.mp hg3)) 1) (Ja0 rfl)⟩
 refine F3.pull (k:=k+1) L (by decide) fun g4 b4 σ4 hg4 y4 F4=>?_
 refine F4.pull (k:=k+1) L (by decide) fun g5 b5 σ5 hg5 y5 F5=>?_
 have hl1:(intsV bs.1).length=bs.1.length:=Ja2 _
 have i9:i≤10000:=Ja1 (Jc4 hi) (Ja0 rfl)
 have hpl:(bs.2.1.map Port.v).length≤10000:=(Ja2 (as:=bs.2.1) Port.v).symm▸Ja1 n2 i9
 refine ifB_intro (fun h=>?_) (fun h=>?_)
 ·have hlz:(intsV bs.1).length≤10000:=hl1.symm▸Ja1 n1 i9
  refine meth_l F5.eP ?_
  refine ⟨rfl,?_⟩
  refine len_l F5.eS hlz ?_
  refine append_l F5.eP hpl ?_
  have F6:=F5.putP ⟨dir,1+g3,cmpI .eq (g4:Nat) 1,true,(intsV bs.1).length⟩
  refine okZ ?_
  refine meth_l F6.eS ?_
  refine ⟨rfl,?_⟩
  refine append_l F6.eS hlz ?_
  have F7:=F6.putS (1+g3)
  refine okZ (q9 _ _ _ ⟨(bs.1++[1+g3],bs.2.1++[⟨dir,1+g3,cmpI .eq (g4:Nat) 1,true,(intsV bs.1).length⟩],bs.2.2.1,bs.2.2.2.1,b5),SubE.app _ _,Jb8.mpr ⟨hw,fun w h=>Ja4.mp h▸hw3⟩,(Jb2 ..).symm▸Je9 n1,(Jb2 ..).symm▸Je9 n2,Jg3 n3,Jb8.mpr ⟨fun p h=>(po p h).more (List.prefix_refl _) (List.prefix_append ..),fun p h=>(Ja4.mp h).symm▸(show PoOk _ (bs.1++[1+g3]) (⟨dir,1+g3,cmpI .eq (g4:Nat) 1,true,(intsV bs.1).length⟩:Port) from ⟨hw3,hlz,fun _=>?_,(fun q=>(by cases q))⟩)⟩,F7⟩)
  show (bs.1++[1+g3])[(intsV bs.1).length]?=some (1+g3)
  rw [hl1,Jd8 (Jd7 _),Nat.sub_self];rfl
 ·have hsz:(((sl++bs.2.2.1).map some).map optV).length=(sv++bs.2.2.2.1).length:=(Ja2 _).trans ((Ja2 _).trans F5.S.len)
  have hsz2:(sv++bs.2.2.2.1).length≤110:=(Jb2 ..).symm▸Jg1 hsv (Ja1 n3 (Jc4 hi))
  have hlz:(((sl++bs.2.2.1).map some).map optV).length≤9000:=hsz.symm▸Ja1 hsz2 (Ja0 rfl)
  refine meth_l F5.eP ?_
  refine ⟨rfl,?_⟩
  refine len_l F5.S.w.at_ (Ja1 hlz (Ja0 rfl)) ?_
  refine append_l F5.eP hpl ?_
  have F6:=F5.putP ⟨dir,1+g3,cmpI .eq (g4:Nat) 1,false,(((sl++bs.2.2.1).map some).map optV).length⟩
  generalize hp:(⟨dir,1+g3,cmpI .eq (g4:Nat) 1,false,(((sl++bs.2.2.1).map some).map optV).length⟩:Port)=p at F6
  refine okZ ?_
  have ev:V.tup [.str dir.id,.int ((1:Int)+g3),.bool (cmpI .eq (g4:Nat) 1),.str 146,.int ((((sl++bs.2.2.1).map some).map optV).length:Nat)]=p.v:=hp▸rfl
  show wpSs _ _ _ (upd σ5 PL (.list (bs.2.1.map Port.v++[V.tup [.str dir.id,.int ((1:Int)+g3),.bool (cmpI .eq (g4:Nat) 1),.str 146,.int ((((sl++bs.2.2.1).map some).map optV).length:Nat)]]))) _
  rw [ev]
  revert F6
  refine gen (upd σ5 PL (.list (bs.2.1.map Port.v++[p.v]))) ?_
  intro σ6
  intros
  refine meth_l F6.S.w.at_ ?_
  refine ⟨rfl,?_⟩
  refine drawnS (k:=k) L F6.S (w:=1+g3) ⟨hw3.1,Ja1 hw3.2 (Ja0 rfl)⟩ fun r b7 l' σ7 hr hrl hlB hl' el' y7 S7=>?_
  refine append_l S7.w.at_ (Ja1 hlz (Ja0 rfl)) ?_
  have lsl:l'∉sl++bs.2.2.1:=fun q=>(F6.S.live q).elim fun r e=>some_ne e hl'
  have lSL:l'≠SL:=Ne.symm (live_ne F6.S.w.at_ hl')
  have lS:l'≠SLO:=Ne.symm (live_ne F6.eS hl')
  have lP:l'≠PL:=Ne.symm (live_ne F6.eP hl')
  have l0:σ l'=none:=x0.new (F6.bb.none (nmc hlB (nmc lSL (nmc lS (nm1 lP)))) hl')
  have S8:=S7.snoc el' lsl lSL hlB hr
  have e1:=y7 _ _ (nm1 fun q=>F6.nS B (.head _) (q▸.head _)) F6.eS
  have e2:=y7 _ _ (nm1 fun q=>F6.nP B (.head _) (q▸.head _)) F6.eP
  have ea:((sl++bs.2.2.1).map some).map optV++[V.loc l']=(((sl++bs.2.2.1)++[l']).map some).map optV:=by rw [Jb5 (l₁:=sl++bs.2.2.1),Jb5 (l₁:=(sl++bs.2.2.1).map some)];rfl
  refine okZ (q9 _ _ _ ⟨(bs.1,bs.2.1++[p],bs.2.2.1++[l'],bs.2.2.2.1++[r],b7),SubE.app _ _,hw,Jg3 n1,(Jb2 ..).symm▸Je9 n2,(Jb2 ..).symm▸Je9 n3,Jb8.mpr ⟨fun q h=>(po q h).more ?_ (List.prefix_refl _),fun q h=>(Ja4.mp h).symm▸(?_:PoOk (wid (sv++(bs.2.2.2.1++[r]))) bs.1 p)⟩,?_⟩)
  ·rw [← Jd9,wid,wid,Jb5 (l₁:=sv++bs.2.2.2.1)];exact List.prefix_append ..
  ·subst hp
   refine ⟨hw3,Ja1 hlz (Ja0 rfl),(fun q=>(by cases q)),fun _=>?_⟩
   have:(sv++(bs.2.2.2.1++[r]))[(((sl++bs.2.2.1).map some).map optV).length]?=some r:=by rw [hsz,← Jd9,Jd8 (Jd7 _),Nat.sub_self];rfl
   exact (wid_of this).trans (congrArg some hrl)
  ·show SeF _ _ _ _ _ _ _ _ _ _ _ _ _ (upd σ7 SL (.list (((sl++bs.2.2.1).map some).map optV++[V.loc l'])))
   rw [ea]
   have hn:∀ j:Nat,l'≠j→(∀ l∈B::SL::(sl++bs.2.2.1),l∉[j])→∀ l∈B::SL::(sl++(bs.2.2.1++[l'])),l∉[j]:=fun j h1 h2=>(Jd9 sl bs.2.2.1 [l'])▸Ja7.mpr ⟨h2 _ (.head _),Ja7.mpr ⟨h2 _ (.tail _ (.head _)),Jb8.mpr ⟨fun l hl=>h2 l (.tail _ (.tail _ hl)),fun l hl=>Ja4.mp hl▸nm1 h1⟩⟩⟩
   have nSS:SLO≠SL:=fun q=>F6.nS SL (.tail _ (.head _)) (q▸.head _)
   have nPS:PL≠SL:=fun q=>F6.nP SL (.tail _ (.head _)) (q▸.head _)
   exact ⟨(upd_ne _ _ nSS).trans e1,(upd_ne _ _ nPS).trans e2,(F6.bb.trans (y7.wider fun x hx=>Ja4.mp hx▸.head _)).set _ (.inl (.tail _ (.head _))),by rw [← Jd9,← Jd9];exact S8,Jb8.mpr ⟨F6.x,fun l hl=>Ja4.mp hl▸l0⟩,hn _ lS F6.nS,hn _ lP F6.nP,F6.ne⟩
end
inductive S2I (SLO:Nat) (slots:List Nat) (σ5:St) (i:Nat) (_:Unit) (σ':St):Prop
 | mk (e:σ' SLO=some (.list (intsV (slots++Jb1 i 2)))) (b:ButS [SLO] σ5 σ')
theorem spec_second (L:Lib Γ) (S:Bs σ B SL sl sv b) (hsv:sv.length≤100)
  (q:∀ σ' l t sx sy b',TaskAt (grow (fun _=>none) σ σ' sx) l t→t.num=1→TaskOk (wid (sv++sy)) t→sy.length≤10→ButS [B,SL] σ σ'→Bs σ' B SL (sl++sx) (sv++sy) b'→(∀ l∈sx,σ l=none)→Q (.loc l) σ'):WC Γ (k+3) (.glob 24) [.loc B,.loc SL] σ Q:=by
 refine WC_def (n:=10) (L.fns 38 _ _ _ _ rfl) rfl ?_
 intro SLO hSLO
 have xS:Ext σ (upd σ SLO (.list [])):=(Ext.refl _).upd hSLO _
 have eS:upd σ SLO (.list []) SLO=some (.list ([]:List V)):=upd_self ..
 show wpSs _ _ _ (upd σ SLO (.list ([]:List V))) _
 revert xS eS
 refine gen (upd σ SLO (.list ([]:List V))) ?_
 intro σS
 intros
 intro PL hPL
 have xP:Ext σS (upd σS PL (.list [])):=(Ext.refl _).upd hPL _
 have eP:upd σS PL (.list []) PL=some (.list ([]:List V)):=upd_self ..
 show wpSs _ _ _ (upd σS PL (.list ([]:List V))) _
 revert xP eP
 refine gen (upd σS PL (.list ([]:List V))) ?_
 intro σ0
 intros
 have x0:=xS.trans xP
 have hPL0:=xS.new hPL
 have nn:∀ {j:Nat},σ j=none→∀ l∈B::SL::(sl++[]),l∉[j]:=fun h=>Ja7.mpr ⟨nm1 (live_ne S.e h),Ja7.mpr ⟨nm1 (live_ne S.w.at_ h),fun l hl=>(S.live (Jd3 sl▸hl)).elim fun r e=>nm1 (live_ne e h)⟩⟩
 refine ⟨rfl,?_⟩
 refine (SeF.mk (σ:=σ) (σ0:=σ0) (slots:=[]) (ports:=[]) (sx:=[]) (sy:=[]) (xP _ _ eS) eP (ButS.refl _ _) (by rw [Jd3,Jd3];exact S.ext x0) (fun l h=>(by cases h)) (nn hSLO) (nn hPL0) (Ne.symm (live_ne eS hPL))).pull (k:=k+1) L (by decide) fun g b1 σ1 hg y1 F1=>?_
 have hg3:g≤2:=Jg6 (Jc1.mp hg)
 have hg4:1+g≤3:=Je4 hg3 1
 refine iter_r (Int.add_nonneg (by decide) (Jb0 _)) (by lia) ?_
 refine wpFor_map (xs:=Je1 (1+g)) (seE B SL SLO PL) (SeI B SL SLO PL sl sv σ σ0) ([],[],[],[],b1) ⟨(fun w h=>(by cases h)),Jd7 _,Jd7 _,Jd7 _,(fun p h=>(by cases h)),F1⟩ (fun i j bs σ' hx I=>?_) (fun bs σ' I=>?_)
 ·have hj:=range_some hx
  have hi:i<10:=Jc8 hj.2 (Ja1 hg4 (Ja0 rfl))
  have hji:=hj.1.symm
  subst hji
  exact ⟨trivial,_,rfl,fun Q9 q9=>se_step (k:=k) L hsv x0 hi I q9⟩
 cases I with
 | mk hw n1 n2 n3 po F=>
 rw [Jd4] at n1 n2 n3
 refine ⟨trivial,rfl,?_⟩
 refine F.pull (k:=k+1) L (by decide) fun g5 b5 σ5 hg5 y5 F5=>?_
 have hg5:g5≤1:=Jg6 (Jc1.mp hg5)
 refine iter_r (Jb0 _) (Jf6.mpr (Ja1 hg5 (Ja0 rfl))) ?_
 refine wpFor_map (xs:=Je1 g5) (seE B SL SLO PL) (S2I SLO bs.1 σ5) () ⟨by rw [List.replicate_zero,Jd3];exact F5.eS,ButS.refl _ _⟩ (fun i j u σ6 hx I=>?_) (fun u σ6 I=>?_)
 ·have hj:=range_some hx
  cases I with
  | mk e6 b6=>
  refine ⟨trivial,_,rfl,fun Q9 q9=>?_⟩
  refine meth_l e6 ?_
  refine ⟨rfl,?_⟩
  refine append_l e6 ?_ ?_
  ·rw [intsV,Ja2,Jb2,Jd6];exact Ja1 (Jg1 (Ja1 n1 hg4) (Ja1 (Jc4 hj.2) hg5)) (Ja0 rfl)
  refine okZ (q9 _ _ _ ⟨(),SubE.app _ _,?_,b6.set _ (.inl (.head _))⟩)
  exact (upd_self ..).trans (congrArg (fun x=>some (Cell.list x)) (by rw [List.replicate_succ',← Jd9,intsV,intsV,Jb5 (l₁:=bs.1++Jb1 i 2)];rfl))
 cases I with
 | mk e6 b6=>
 rw [Jd4] at e6
 have F6:SeF B SL SLO PL sl sv σ σ0 (bs.1++Jb1 g5 2) bs.2.1 bs.2.2.1 bs.2.2.2.1 b5 σ6:=⟨e6,b6 _ _ (nm1 F5.ne) F5.eP,F5.bb.trans (b6.wider fun x hx=>Ja4.mp hx▸.tail _ (.tail _ (.head _))),F5.S.but b6 (F5.nS _ (.head _)) (F5.nS _ (.tail _ (.head _))) fun l hl=>F5.nS l (.tail _ (.tail _ hl)),F5.x,F5.nS,F5.nP,F5.ne⟩
 have hw6:∀ w∈bs.1++Jb1 g5 2,1≤w∧w≤20:=Jb8.mpr ⟨hw,fun w h=>(Ji8.mp h).2▸⟨Ja0 rfl,Ja0 rfl⟩⟩
 have hl6:(bs.1++Jb1 g5 2).length≤4:=(Jb2 ..).symm▸Jg1 (Ja1 n1 hg4) (Jd6 (n:=g5) (a:=2)▸hg5)
 refine ⟨trivial,?_⟩
 refine F6.pull (k:=k+1) L (by decide) fun g6 b6 σ6 hg6 y6 F6=>?_
 refine F6.pull (k:=k+1) L (by decide) fun g7 b7 σ7 hg7 y7 F7=>?_
 have hg6:g6≤2:=Jg6 (Jc1.mp hg6)
 refine spec_task (k:=k) (num:=1) (turns:=g6) (slots:=bs.1++Jb1 g5 2) (ports:=bs.2.1) L F7.eS F7.eP (Ja1 hg6 (Ja0 rfl)) fun σ8 l as x8 hl8 e8 ht=>?_
 have l0:σ l=none:=x0.new (F7.bb.none (not_live (lvc F7.S.e (lvc F7.S.w.at_ (lvc F7.eS (lvc F7.eP lv0)))) hl8) hl8)
 have lsx:l∉bs.2.2.1:=fun h=>(F7.S.live (Je8 _ h)).elim fun r e=>some_ne e hl8
 have ta:=ht.at (σ:=grow (fun _=>none) σ σ8 bs.2.2.1) (grow_new l0 e8 lsx) (grow_new hSLO (x8 _ _ F7.eS) fun h=>F7.nS SLO (.tail _ (.tail _ (Je8 _ h))) (.head _)) (grow_new hPL0 (x8 _ _ F7.eP) fun h=>F7.nP PL (.tail _ (.tail _ (Je8 _ h))) (.head _))
 exact q σ8 l _ bs.2.2.1 bs.2.2.2.1 b7 ta rfl ⟨⟨Ja1 n2 (Ja1 hg4 (Ja0 rfl)),Ja1 hl6 (Ja0 rfl),Ja1 hg6 (Ja0 rfl),Ja0 rfl⟩,hw6,fun p hp=>(po p hp).more (List.prefix_refl _) (List.prefix_append ..)⟩ (Ja1 n3 (Ja1 hg4 (Ja0 rfl))) (fun l c hl e=>x8 _ _ (F7.bb l c (nmc (fun q=>hl (q▸.head _)) (nmc (fun q=>hl (q▸.tail _ (.head _))) (nmc (live_ne e hSLO) (nm1 (live_ne e hPL0))))) (x0 _ _ e))) (F7.S.ext x8) F7.x
end
end
section
section
variable {Γ:Gl} {k:Nat} {σ Z:St} {SL F B:Nat} {sl:List Nat} {fl:List (Option Nat)} {s:Wd} {b:List Int} {Q:V→St→Prop}
seal itemV attrV setAV setIV biV listM methL sliceV iterV inV newV
theorem ext_of_but {l:Nat} {σ σ':St} {c:Cell} (b:But l σ σ') (e:σ' l=some c):Ext (upd σ l c) σ':=fun i d h=>by
 by_cases q:i=l
 ·subst q;exact e.trans ((upd_self ..).symm.trans h)
 ·exact b i d q ((upd_ne _ _ q).symm.trans h)
theorem nd_put {a R R':List Nat} {l':Nat} (h:(a++R).Nodup) (nd':R'.Nodup) (mem:∀ l∈R',l=l'∨l∈R) (hl:l'∉a):(a++R').Nodup:=
 have y:=Jc2.mp h
 Jc2.mpr ⟨y.1,nd',fun x hx z hz e=>(mem z hz).elim (fun q=>hl (q▸e▸hx)) fun q=>y.2.2 x hx z q e⟩
structure PkI (B SL F ST FT T cc:Nat) (as:List (Nat×V)) (σ0:St) (R0:List Nat) (s0 s:Wd) (sl:List Nat) (fl:List (Option Nat)) (b:List Int) (σ:St):Prop where
 G:Bg σ B SL sl F fl s b
 W:Wok s
 ws:wid s.1=wid s0.1
 ss:shp s.2=shp s0.2
 bb:ButS [B,SL,F,ST,FT] σ0 σ
 nd:([B,SL,F,ST,FT]++rls sl fl).Nodup
 mem:∀ l∈rls sl fl,l∈R0∨σ0 l=none
 es:σ ST=some (vecsC s.1)
 ef:σ FT=some (.list (s.2.map optVec))
 et:σ T=some (.inst cc as)
section
variable {σ0 σ' σ3 σ4:St} {R0:List Nat} {s0:Wd} {ST T FT cc l' i j:Nat} {as:List (Nat×V)} {b':List Int} {r:List Int}
theorem PkI.g (I:PkI B SL F ST FT T cc as σ0 R0 s0 s sl fl b σ):[[B],[SL],[F],[ST],[FT],rls sl fl].flatten.Nodup:=by
 show (B::SL::F::ST::FT::(rls sl fl++[])).Nodup
 rw [Jd3];exact I.nd
theorem PkI.bn (I:PkI B SL F ST FT T cc as σ0 R0 s0 s sl fl b σ):Bn B SL sl F fl:=⟨nine I.g 0 1 (.head _) (.head _) rfl,nine I.g 0 2 (.head _) (.head _) rfl,nig I.g [5] 0 (.head _) rfl⟩
theorem PkI.bag (I:PkI B SL F ST FT T cc as σ0 R0 s0 s sl fl b σ) (y:ButS [B] σ σ') (G:Bg σ' B SL sl F fl s b'):PkI B SL F ST FT T cc as σ0 R0 s0 s sl fl b' σ':=
 { I with G:=G,bb:=I.bb.trans (y.wider fun x hx=>Ja4.mp hx▸.head _),es:=y _ _ (nine I.g 3 0 (.head _) (.head _) rfl |> nm1) I.es,ef:=y _ _ (nine I.g 4 0 (.head _) (.head _) rfl |> nm1) I.ef,et:=y _ _ (nm1 (st_ne I.et I.G.e)) I.et }
theorem PkI.ext (I:PkI B SL F ST FT T cc as σ0 R0 s0 s sl fl b σ) (x:Ext σ σ'):PkI B SL F ST FT T cc as σ0 R0 s0 s sl fl b σ':=
 { I with G:=I.G.ext x,bb:=I.bb.ext x,es:=x _ _ I.es,ef:=x _ _ I.ef,et:=x _ _ I.et }
theorem PkI.fresh (I:PkI B SL F ST FT T cc as σ0 R0 s0 s sl fl b σ) (h:σ l'=none):l'∉[B,SL,F,ST,FT]∧l'∉rls sl fl∧σ0 l'=none:=
 have n:l'∉[B,SL,F,ST,FT]:=not_live (lvc I.G.e (lvc I.G.w.sg.at_ (lvc I.G.w.fr.at_ (lvc I.es (lvc I.ef lv0))))) h
 ⟨n,fun q=>(rls_live I.G.w q).elim fun _ e=>some_ne e h,I.bb.none n h⟩
theorem nmem {a x:Nat} {l:List Nat} (h:a∉l) (m:x∈l):a≠x:=fun q=>h (q▸m)
theorem PkI.sig (I:PkI B SL F ST FT T cc as σ0 R0 s0 s sl fl b σ) {x:List Int} (hx:s.1[j]?=some x) (hr:Rok r) (hlen:r.length=x.length) (f:l'∉[B,SL,F,ST,FT]∧l'∉rls sl fl∧σ0 l'=none) (el:σ l'=some (rowC r)) (b3:But SL σ σ3) (e3:σ3 SL=some (.list (((sl.set j l').map some).map optV))) (b4:But ST σ3 σ4) (e4:σ4 ST=some (vecsC (s.1.set j r))) :
  PkI B SL F ST FT T cc as σ0 R0 s0 (s.1.set j r,s.2) (sl.set j l') fl b σ4:=by
 have hj:j<sl.length:=I.G.w.slen.symm▸(Ja3.mp hx).1
 have p:=rls_putS (l':=l') hj (Jc2.mp I.nd).2.1 f.2.1
 have w3:=(I.G.w.putS (r:=r) hj el (nig I.g [5] 1 (.head _) rfl) (nmem f.1 (.tail _ (.head _))) (nine I.g 2 1 (.head _) (.head _) rfl)).ext (ext_of_but b3 e3)
 have b4':=b4.buts
 have nd:=nd_put I.nd p.1 p.2 f.1
 have hw:wid (s.1.set j r)=wid s.1:=wid_set hx hlen
 exact {
  G:=⟨w3.but b4' (nm1 (nine I.g 1 3 (.head _) (.head _) rfl)) (nm1 (nine I.g 2 3 (.head _) (.head _) rfl)) fun l hl=>nm1 fun q=>(Jc2.mp nd).2.2 ST (.tail _ (.tail _ (.tail _ (.head _)))) l hl q.symm,b4 _ _ (nine I.g 0 3 (.head _) (.head _) rfl) (b3 _ _ (nine I.g 0 1 (.head _) (.head _) rfl) I.G.e),I.G.hb⟩
  W:=⟨I.W.h1.set _ hr,I.W.h2,(List.length_set (as:=s.1)).symm▸I.W.hn,I.W.hf⟩
  ws:=hw.trans I.ws
  ss:=I.ss
  bb:=(I.bb.trans (b3.buts.wider fun x hx=>Ja4.mp hx▸.tail _ (.head _))).trans (b4'.wider fun x hx=>Ja4.mp hx▸.tail _ (.tail _ (.tail _ (.head _))))
  nd:=nd
  mem:=fun l hl=>(p.2 l hl).elim (fun q=>.inr (q▸f.2.2)) (I.mem l)
  es:=e4
  ef:=b4 _ _ (nine I.g 4 3 (.head _) (.head _) rfl) (b3 _ _ (nine I.g 4 1 (.head _) (.head _) rfl) I.ef)
  et:=b4 _ _ (st_ne I.et I.es) (b3 _ _ (st_ne I.et I.G.w.sg.at_) I.et) }
theorem PkI.frm (I:PkI B SL F ST FT T cc as σ0 R0 s0 s sl fl b σ) {x:List Int} (hx:s.2[j]?=some (some x)) (hr:Rok r) (hlen:r.length=x.length) (f:l'∉[B,SL,F,ST,FT]∧l'∉rls sl fl∧σ0 l'=none) (el:σ l'=some (rowC r)) (b3:But F σ σ3) (e3:σ3 F=some (.list ((fl.set j (some l')).map optV))) (b4:But FT σ3 σ4) (e4:σ4 FT=some (.list ((s.2.set j (some r)).map optVec))) :
  PkI B SL F ST FT T cc as σ0 R0 s0 (s.1,s.2.set j (some r)) sl (fl.set j (some l')) b σ4:=by
 have p:=rls_putF (j:=j) (l':=l') (Jc2.mp I.nd).2.1 f.2.1
 have w3:=(I.G.w.putF (r:=r) (j:=j) el (nig I.g [5] 2 (.head _) rfl) (nmem f.1 (.tail _ (.tail _ (.head _)))) (nine I.g 2 1 (.head _) (.head _) rfl)).ext (ext_of_but b3 e3)
 have b4':=b4.buts
 have nd:=nd_put I.nd p.1 p.2 f.1
 exact {
  G:=⟨w3.but b4' (nm1 (nine I.g 1 4 (.head _) (.head _) rfl)) (nm1 (nine I.g 2 4 (.head _) (.head _) rfl)) fun l hl=>nm1 fun q=>(Jc2.mp nd).2.2 FT (.tail _ (.tail _ (.tail _ (.tail _ (.head _))))) l hl q.symm,b4 _ _ (nine I.g 0 4 (.head _) (.head _) rfl) (b3 _ _ (nine I.g 0 2 (.head _) (.head _) rfl) I.G.e),I.G.hb⟩
  W:=⟨I.W.h1,I.W.h2.set _ hr,I.W.hn,(List.length_set (as:=s.2)).symm▸I.W.hf⟩
  ws:=I.ws
  ss:=(shp_set hx hlen).trans I.ss
  bb:=(I.bb.trans (b3.buts.wider fun x hx=>Ja4.mp hx▸.tail _ (.tail _ (.head _)))).trans (b4'.wider fun x hx=>Ja4.mp hx▸.tail _ (.tail _ (.tail _ (.tail _ (.head _)))))
  nd:=nd
  mem:=fun l hl=>(p.2 l hl).elim (fun q=>.inr (q▸f.2.2)) (I.mem l)
  es:=b4 _ _ (nine I.g 3 4 (.head _) (.head _) rfl) (b3 _ _ (nine I.g 3 2 (.head _) (.head _) rfl) I.es)
  ef:=e4
  et:=b4 _ _ (st_ne I.et I.ef) (b3 _ _ (st_ne I.et I.G.w.fr.at_) I.et) }
end
theorem set_some (sl:List Nat) (j l:Nat):((sl.map some).map optV).set j (.loc l)=((sl.set j l).map some).map optV:=by rw [Je0,Je0];rfl
theorem set_opt (fl:List (Option Nat)) (j l:Nat):(fl.map optV).set j (.loc l)=(fl.set j (some l)).map optV:=by rw [Je0];rfl
theorem map_at {α β:Type} {f:α→β} {xs:List α} {i:Nat} {y:α} (h:xs[i]?=some y):(xs.map f)[i]?=some (f y):=by rw [Ja8,h];rfl
theorem lt_nat {g n:Nat} (h:(g:Int)<(n:Int)):g<n:=Jc1.mp h
theorem many_ok {n:Nat} (h0:0<n) (h:n≤1000):0<(n:Int)∧(n:Int)<1000000:=by lia
theorem spec_poke (L:Lib Γ) (N:Bn B SL sl F fl) (G:Bg σ B SL sl F fl s b) (W:Wok s) {ST T FT cc:Nat} {as:List (Nat×V)} (nd:(rls sl fl).Nodup) (es:σ ST=some (vecsC s.1)) (et:σ T=some (.inst cc as)) (ea:look as 76=some (.loc FT)) (ef:σ FT=some (.list (s.2.map optVec)))
  (hn:[B,SL,F,ST,FT].Nodup) (ho:∀ l∈[B,SL,F,ST,FT],l∉rls sl fl)
  (q:∀ σ' s' sl' fl' b',Wok s'→wid s'.1=wid s.1→shp s'.2=shp s.2→ButS [B,SL,F,ST,FT] σ σ'→Bg σ' B SL sl' F fl' s' b'→(rls sl' fl').Nodup→(∀ l∈rls sl' fl',l∈rls sl fl∨σ l=none)→σ' ST=some (vecsC s'.1)→σ' FT=some (.list (s'.2.map optVec))→Q .none σ') :
  WC Γ (k+3) (.glob 19) [.loc B,.loc SL,.loc F,.loc ST,.loc T] σ Q:=by
 have I0:PkI B SL F ST FT T cc as σ (rls sl fl) s s sl fl b σ:=⟨G,W,rfl,rfl,ButS.refl _ _,Jc2.mpr ⟨hn,nd,fun a ha b hb e=>ho a ha (e▸hb)⟩,fun _ h=>.inl h,es,ef,et⟩
 have q:∀ {σ' s' sl' fl' b'},PkI B SL F ST FT T cc as σ (rls sl fl) s s' sl' fl' b' σ'→Q .none σ':=fun I=>q _ _ _ _ _ I.W I.ws I.ss I.bb I.G (Jc2.mp I.nd).2.1 I.mem I.es I.ef
 clear nd es et ef hn ho N W
 refine WC_def (n:=10) (L.fns 44 _ _ _ _ rfl) rfl ?_
 have hsl:((sl.map some).map optV).length=s.1.length:=(Ja2 _).trans ((Ja2 _).trans G.w.slen)
 have z1:=I0.W.hn
 refine len_l G.w.sg.at_ (hsl.symm▸Ja1 z1.2 (Ja0 rfl)) ?_
 refine (pullG (k:=0) L I0.bn G (hsl.symm▸many_ok z1.1 (Ja1 z1.2 (Ja0 rfl))) fun j b1 σ1 hj y1 G1=>?_).more (Jf3 ..)
 have hj:j<s.1.length:=hsl▸lt_nat hj
 have j6:j≤1000000:=Ja1 (Jc4 hj) (Ja1 z1.2 (Ja0 rfl))
 have I1:=I0.bag y1 G1
 refine (G1.w.sat hj).elim fun l0 w=>?_
 have hjs:=Ja5 hj
 have hrk:=I0.W.h1.at hjs
 clear I0 G y1
 refine item_k G1.w.sg.at_ w.2.2 ?_ j6
 have hl:=Ja2 (as:=s.1[j]) V.int
 have hlw:1≤(s.1[j].map V.int).length∧(s.1[j].map V.int).length≤50:=hl.symm▸⟨Jh3.mpr hrk.2.1,hrk.2.2⟩
 refine len_l w.2.1 (hl.symm▸Ja1 hrk.2.2 (Ja0 rfl)) ?_
 refine (drawnG (k:=0) L I1.bn G1 (w:=(s.1[j].map V.int).length) hlw fun r b2 l' σ2 hr hrlen hlB hl' el' y2 G2=>?_).more (Jf3 ..)
 have I2:=I1.bag y2 G2
 have f:=I1.fresh hl'
 clear I1 G1 y2 w
 have hjl:j<sl.length:=G2.w.slen.symm▸hj
 refine setI_g G2.w.sg.at_ (hsl.symm▸hj) j6 fun σ3 b3 e3=>?_
 have e3:=(set_some sl j l')▸e3
 have el3:=b3 _ _ (nmem f.1 (.tail _ (.head _))) el'
 refine item_m e3 (map_at (List.getElem?_set_self hjl)) ?_ j6
 refine (spec_vector (k:=0) L el3 (Ja1 hr.2.2 (Ja0 rfl)) hr.1 ?_).more (Jf3 ..)
 refine setI_g (b3 _ _ (nine I2.g 3 1 (.head _) (.head _) rfl) I2.es) ((Ja2 (as:=s.1) vecOf).symm▸hj) j6 fun σ4 b4 e4=>?_
 have I4:=I2.sig hjs hr (hrlen.trans hl) f el' b3 e3 b4 (e4.trans (congrArg (fun x=>some (Cell.list x)) (Je0 (f:=vecOf)).symm))
 clear I2 G2 b3 e3 el3 b4 e4
 try dsimp only
 have hfl:fl.length≤100:=I4.G.w.flen.symm▸I4.W.hf
 refine wpS_spots (F:=F) rfl I4.G.w.fr.at_ (Ja1 hfl (Ja0 rfl)) fun P hP=>?_
 have xP:Ext σ4 (upd σ4 P (.list ((spotsN fl).map fun (i:Nat)=>V.int (i:Int)))):=(Ext.refl _).upd hP _
 have eP:upd σ4 P (.list ((spotsN fl).map fun (i:Nat)=>V.int (i:Int))) P=some (.list ((spotsN fl).map fun (i:Nat)=>V.int (i:Int))):=upd_self ..
 have I5:=I4.ext xP
 have hPB:P≠B:=fun q=>live_ne I4.G.e hP q.symm
 clear I4
 revert eP I5
 refine gen (upd σ4 P (.list ((spotsN fl).map fun (i:Nat)=>V.int (i:Int)))) ?_
 intro σ5 eP I5
 have hm:=Ja2 (as:=spotsN fl) fun (i:Nat)=>V.int (i:Int)
 have hsp:((spotsN fl).map fun (i:Nat)=>V.int (i:Int)).length≤100:=hm.symm▸Ja1 (Jf8 ..) (Ja1 (Je5 Jd4) hfl)
 refine len_l eP (Ja1 hsp (Ja0 rfl)) ?_
 refine ifB_intro (fun h=>?_) (fun _=>q I5)
 refine len_l eP (Ja1 hsp (Ja0 rfl)) ?_
 refine (pullG (k:=0) L I5.bn I5.G (many_ok (lt_nat (of_decide_eq_true h)) (Ja1 hsp (Ja0 rfl))) fun g b6 σ6 hg y6 G6=>?_).more (Jf3 ..)
 have I6:=I5.bag y6 G6
 have hg:g<(spotsN fl).length:=hm▸lt_nat hg
 have g6:g≤1000000:=Ja1 (Jc4 hg) (Ja1 (hm▸hsp) (Ja0 rfl))
 have hgi:=Ja5 hg
 have hsm:=spots_mem (Jc7 hg)
 revert hgi hsm
 refine gen ((spotsN fl)[g]'hg) ?_
 intro i hgi hsm
 refine hsm.elim fun l5 hl5=>?_
 have hi:i<fl.length:=(Ja3.mp hl5).1
 have i6:i≤1000000:=Ja1 (Jc4 hi) (Ja1 hfl (Ja0 rfl))
 have hi2:s.2[i]?=some (s.2[i]'(G6.w.flen▸hi)):=Ja5 _
 have hrow:=G6.w.fr.row i _ _ hl5 hi2
 revert hi2 hrow
 refine gen (s.2[i]'(G6.w.flen▸hi)) ?_
 intro o
 cases o with
 | none=>exact fun _ h=>h.elim
 | some r5=>
  intro hi2 hrow
  have hrow:σ6 l5=some (rowC r5):=hrow
  have hrk5:=I6.W.h2.at hi2
  have hl5':=Ja2 (as:=r5) V.int
  refine item_m (y6 _ _ (nm1 hPB) eP) hgi ?_ g6
  refine item_m G6.w.fr.at_ hl5 ?_ i6
  have hlw5:1≤(r5.map V.int).length∧(r5.map V.int).length≤50:=hl5'.symm▸⟨Jh3.mpr hrk5.2.1,hrk5.2.2⟩
  refine len_l hrow (hl5'.symm▸Ja1 hrk5.2.2 (Ja0 rfl)) ?_
  refine (drawnG (k:=0) L I6.bn G6 (w:=(r5.map V.int).length) hlw5 fun r7 b7 l7 σ7 hr7 hrlen7 hlB7 hl7 el7 y7 G7=>?_).more (Jf3 ..)
  have I7:=I6.bag y7 G7
  have f7:=I6.fresh hl7
  clear I6 G6 y7 I5
  refine setI_g G7.w.fr.at_ ((Ja2 (as:=fl) optV).symm▸hi) i6 fun σ8 b8 e8=>?_
  have e8:=(set_opt fl i l7)▸e8
  have el8:=b8 _ _ (nmem f7.1 (.tail _ (.tail _ (.head _)))) el7
  refine item_m e8 (List.getElem?_set_self hi) ?_ i6
  refine (spec_vector (k:=0) L el8 (Ja1 hr7.2.2 (Ja0 rfl)) hr7.1 ?_).more (Jf3 ..)
  refine attr_j (attr_i (b8 _ _ (st_ne I7.et I7.G.w.fr.at_) I7.et) ea ?_)
  refine setI_g (b8 _ _ (nine I7.g 4 2 (.head _) (.head _) rfl) I7.ef) ((Ja2 (as:=s.2) optVec).symm▸G7.w.flen▸hi) i6 fun σ9 b9 e9=>?_
  exact q (I7.frm hi2 hr7 (hrlen7.trans hl5') f7 el7 b8 e8 b9 (e9.trans (congrArg (fun x=>some (Cell.list x)) (Je0 (f:=optVec) (a:=some r7)).symm)))
end
end
section
theorem veqs_cons (a b:V) (xs ys:List V):veqs (a::xs) (b::ys)=(veq a b && veqs xs ys):=by
 unfold veqs veq;simp only [pds,PyData.eqvAll]
theorem veq_opt (o:Option (List Int)):veq (optVec o) (optVec o)=true:=by
 cases o with
 | none=>simp [optVec,veq,pd,PyData.eqv]
 | some r=>
  have h:=veqs_ints [(r.length:Int),lowN r,highN r] [(r.length:Int),lowN r,highN r]
  simp only [List.map_cons,List.map_nil,decide_true] at h
  show PyData.eqv (.tuple (pds _)) (.tuple (pds _))=true
  simp only [PyData.eqv]
  exact h
theorem veqs_opt:∀ (fv:List (Option (List Int))),veqs (fv.map optVec) (fv.map optVec)=true
 | []=>by simp [veqs,pds,PyData.eqvAll]
 | o::fv=>by rw [List.map_cons,veqs_cons,veq_opt,veqs_opt fv];rfl
theorem vec_opt (sv:List (List Int)):sv.map vecOf=(sv.map some).map optVec:=by rw [Jh9];rfl
theorem isD_opt (fv:List (Option (List Int))):(fv.map optVec).all (isD 6)=true:=by
 rw [List.all_map,Jb3]
 intro o _
 cases o with
 | none=>rfl
 | some r=>simp [optVec,vecOf,vec3,isD]
theorem veq_sys (n:Nat):veq (sysV n) (sysV n)=true:=by
 simp [sysV,veq,pd,pds,PyData.eqv,PyData.eqvAll]
section
variable {Γ:Gl} {k:Nat} {σ Z:St} {SL F FS ST OP:Nat} {tp:Tp} {sl:List Nat} {fl:List (Option Nat)} {s:Wd} {Q:V→St→Prop}
seal itemV attrV setAV setIV biV listM methL sliceV iterV inV newV
theorem vecs_it (L:Lib Γ) {n:Nat} {m:List (Nat×V)} {fv:List (Option (List Int))} {Q:List V→St→Prop} (w:RowsAt σ F fl fv) (h:FOk fv) (hl:fl.length≤1000) (q:Q (fv.map optVec) σ) :
  wpIt (fun σ'=>σ' F=some (.list (fl.map optV))) (condW (wpE Γ (k+1) [] (n+2) true) none m 136) (evP (wpE Γ (k+1) [] (n+2)) (.call 29 [.var 136]) m 136) (fl.map optV) [] σ Q:=by
 refine wpIt_imap (fun i acc σ'=>σ=σ'∧(fv.take i).map optVec=acc) ⟨rfl,rfl⟩ (fun i y acc σ' hy hI=>?_) (fun acc σ' hI=>?_)
 ·obtain ⟨rfl,rfl⟩:=hI
  have hi:i<fv.length:=w.len▸(Ja3.mp hy).1
  have hv:=Ja5 hi
  have hrow:=w.row i _ _ hy hv
  refine ⟨w.at_,fun R9 r9=>?_⟩
  have hR:kElt R9 ((fv.take i).map optVec) Q (optVec fv[i]) σ:=⟨(Ja2 _).symm▸Ja1 (List.length_take_le ..) (Ja1 (Jc4 (Jc8 (Ja3.mp hy).1 hl)) (Ja0 rfl)),r9 _ _ ⟨rfl,by rw [take_snoc hv,Jb5];rfl⟩⟩
  have e136:look (put m 136 (optV y)) 136=some (optV y):=(look_put ..).trans (if_pos rfl)
  revert e136
  refine gen (put m 136 (optV y)) ?_
  intro m2
  intros
  show (match look m2 136 with | some v=>_ | none=>_)
  rw [e136]
  show WC Γ (k+1) (.glob 29) [optV y] σ _
  revert hv hrow hR
  refine gen (fv[i]) ?_
  intro o
  intros
  cases y with
  | none=>cases o with
   | none=>exact spec_vectorN L hR
   | some r=>exact hrow.elim
  | some l=>cases o with
   | none=>exact hrow.elim
   | some r=>have hk:=h.at hv;exact spec_vector L hrow (Ja1 hk.2.2 (Ja0 rfl)) hk.1 hR
 ·obtain ⟨rfl,rfl⟩:=hI
  rw [w.len,Je2]
  exact ⟨w.at_,q⟩
theorem or_intro {A B:Prop} (h:A):A∨B:=.inl h
theorem in_l {l:Nat} {xs:List V} {n:Nat} {P:Bool→Prop} (e:σ l=some (.list xs)) (h2:xs.all (isD 6)=true) (h3:sysV n∈xs) (q:P true):inV (sysV n) (.loc l) σ P:=by
 unfold inV
 refine ⟨xs,e,sysV_data n,h2,?_⟩
 have h4:(xs.any fun x=>veq x (sysV n))=true:=Ji5.mpr ⟨_,h3,veq_sys n⟩
 rw [h4]
 exact q
theorem spec_fits (L:Lib Γ) (w:LW σ SL sl F fl s) (W:Wok s) {code FT num:Nat} {pc:Int} {ys cs ops rows:List V} (es:σ ST=some (vecsC s.1)) (et:σ tp.T=some (tp.cell code pc FT)) (ef:σ FT=some (.list (s.2.map optVec))) (eFS:σ FS=some (.list (ys++[.loc F])))
  (ec:σ tp.CL=some (.list cs)) (eo:σ OP=some (.list ops)) (hlen:ops.length=cs.length) (hcs:cs.length≤1000) (eco:σ code=some (.list rows)) (hro:Rows num rows)
  (hnum:(ops=[]∧num=7)∨∃ os tl a b as,ops=os++[.tup [.loc tl,a,b]]∧σ tl=some (.inst 4 as)∧look as 112=some (.int num))
  (q:∀ σ',Ext σ σ'→Q (.bool true) σ'):WC Γ (k+2) (.glob 12) [.loc tp.T,.loc ST,.loc SL,.loc FS,.loc OP,.int pc] σ Q:=by
 refine WC_def (n:=10) (L.fns 45 _ _ _ _ rfl) rfl ?_
 have hsl:=w.slen
 have hfl:=w.flen
 have Wn:=W.hn
 have Wf:=W.hf
 refine ⟨rfl,?_⟩
 refine iter_l w.sg.at_ (by simp;lia) ?_
 refine vecs_it L w.sg (fun r hr=>by simp at hr;exact W.h1 r hr) (by simp;lia) ?_
 intro P hP
 have x1:Ext σ (upd σ P (.list ((s.1.map some).map optVec))):=(Ext.refl _).upd hP _
 have eP:upd σ P (.list ((s.1.map some).map optVec)) P=some (.list ((s.1.map some).map optVec)):=upd_self ..
 revert x1 eP
 refine gen (upd σ P (.list ((s.1.map some).map optVec))) ?_
 intro σ1
 intros
 refine ⟨_,_,x1 _ _ es,eP,by rw [vec_opt];exact isD_opt _,isD_opt _,?_⟩
 rw [vec_opt,veqs_opt]
 refine .f rfl ?_
 refine ⟨rfl,attr_i (x1 _ _ et) rfl ?_⟩
 refine ⟨rfl,?_⟩
 refine item_last (x1 _ _ eFS) ?_
 conv=>whnf
 have w1:=w.ext x1
 refine iter_l w1.fr.at_ (by simp;lia) ?_
 refine vecs_it L w1.fr W.h2 (by lia) ?_
 intro P2 hP2
 have x2:Ext σ1 (upd σ1 P2 (.list (s.2.map optVec))):=(Ext.refl _).upd hP2 _
 have eP2:upd σ1 P2 (.list (s.2.map optVec)) P2=some (.list (s.2.map optVec)):=upd_self ..
 have x12:=x1.trans x2
 revert x2 eP2 x12
 refine gen (upd σ1 P2 (.list (s.2.map optVec))) ?_
 intro σ2
 intros
 refine ⟨_,_,x12 _ _ ef,eP2,isD_opt _,isD_opt _,?_⟩
 rw [veqs_opt]
 refine .f rfl ?_
 refine ⟨rfl,attr_i (x12 _ _ et) rfl ?_⟩
 refine .f (by simp [cmpI]) ?_
 refine ⟨rfl,attr_i (x12 _ _ et) rfl ?_⟩
 refine len_l (x12 _ _ ec) (by lia) ?_
 refine len_l (x12 _ _ eo) (by lia) ?_
 refine .f (by simp [cmpI,hlen]) ?_
 refine .f rfl ?_
 refine len_l (x12 _ _ eo) (by lia) ?_
 conv=>whnf
 rcases hnum with ⟨rfl,rfl⟩ | ⟨os,tl,a,b,as,rfl,e1,e2⟩
 ·refine .f rfl ?_
  refine ⟨rfl,attr_i (x12 _ _ et) rfl ?_⟩
  refine in_l (n:=7) (x12 _ _ eco) hro.data hro.mem ?_
  exact q σ2 x12
 ·refine .t (by simp [cmpI]) ?_
  refine item_last (x12 _ _ eo) ?_
  refine item_t (by decide) rfl ?_
  refine ⟨rfl,attr_i (x12 _ _ e1) e2 ?_⟩
  refine ⟨rfl,attr_i (x12 _ _ et) rfl ?_⟩
  refine in_l (n:=num) (x12 _ _ eco) hro.data hro.mem ?_
  exact q σ2 x12
end
end
section
structure Ent where
 tl:Nat
 t:Task
 ins:List Ie
 outs:List Out
 pc:Int
 code:Nat
 lf:Nat
 fl:List (Option Nat)
 fr:Nat
 fv:List (Option (List Int))
noncomputable def Ent.locs (e:Ent):List Nat:=e.lf::e.fr::e.fl.filterMap id
noncomputable def stkL (stk:List Ent):List Nat:=stk.flatMap Ent.locs
structure Cn where
 (B SL FS DU OP:Nat)
 M:Mp
 tp:Tp
 t1:Task
 (tl0 tl1:Nat)
 ws:List Nat
 Zk:St
noncomputable def Cn.km (C:Cn):List Nat:=[C.B,C.SL,C.FS,C.DU,C.OP,C.M.ST,C.M.TD,C.M.CP,C.tp.T,C.tp.CL]
noncomputable def task0:Task:=⟨0,[2,3],[⟨.inp,2,true,false,2⟩,⟨.inout,3,false,false,3⟩,⟨.outp,2,true,true,0⟩],1,5⟩
structure Dy where
 s:Wd
 sl:List Nat
 F:Nat
 fl:List (Option Nat)
 b:List Int
 FT:Nat
 code:Nat
 pc:Int
 es:List (Int×V)
 stk:List Ent
 td:List Nat
noncomputable def gD (C:Cn) (d:Dy):List (List Nat):=[[C.B],[C.SL],[C.FS],[C.DU],[C.OP],[C.M.ST],[C.M.TD],[C.M.CP],[C.tp.T],[C.tp.CL],[d.F],[d.FT],d.sl,d.fl.filterMap id,stkL d.stk]
noncomputable def muts (C:Cn) (d:Dy):List Nat:=C.B::C.SL::C.FS::C.DU::C.OP::C.M.ST::C.M.TD::C.M.CP::C.tp.T::C.tp.CL::d.F::d.FT::(d.sl++(d.fl.filterMap id++stkL d.stk))
theorem gD_flat (C:Cn) (d:Dy):(gD C d).flatten=muts C d:=congrArg (fun x=>C.B::C.SL::C.FS::C.DU::C.OP::C.M.ST::C.M.TD::C.M.CP::C.tp.T::C.tp.CL::d.F::d.FT::(d.sl++(d.fl.filterMap id++x))) (Jd3 (stkL d.stk))
noncomputable def gE (C:Cn) (d:Dy) (e:Ent) (r:List Ent):List (List Nat):=[[C.B],[C.SL],[C.FS],[C.DU],[C.OP],[C.M.ST],[C.M.TD],[C.M.CP],[C.tp.T],[C.tp.CL],[d.F],[d.FT],d.sl,d.fl.filterMap id,[e.lf],[e.fr],e.fl.filterMap id,stkL r]
theorem gE_flat {C:Cn} {d:Dy} {e:Ent} {r:List Ent} (hs:d.stk=e::r):(gE C d e r).flatten=muts C d:=by
 unfold muts
 rw [hs]
 exact congrArg (fun x=>C.B::C.SL::C.FS::C.DU::C.OP::C.M.ST::C.M.TD::C.M.CP::C.tp.T::C.tp.CL::d.F::d.FT::(d.sl++(d.fl.filterMap id++(e.lf::e.fr::(e.fl.filterMap id++x))))) (Jd3 (stkL r))
theorem inD (C:Cn) (d:Dy) (rs:List Nat):∀ x∈sel (gD C d) rs,x∈muts C d:=gD_flat C d▸sel_flat rs
theorem inE {C:Cn} {d:Dy} {e:Ent} {r:List Ent} (hs:d.stk=e::r) (rs:List Nat):∀ x∈sel (gE C d e r) rs,x∈muts C d:=gE_flat hs▸sel_flat rs
theorem muts_nd {C:Cn} {d:Dy} (h1:(d.F::d.FT::rls d.sl d.fl).Nodup) (h2:(C.km++stkL d.stk).Nodup) (h3:∀ x∈d.F::d.FT::rls d.sl d.fl,x∉C.km++stkL d.stk):(muts C d).Nodup:=by
 have e:muts C d=C.km++((d.F::d.FT::rls d.sl d.fl)++stkL d.stk):=congrArg (fun x=>C.km++(d.F::d.FT::x)) (Jd9 ..).symm
 rw [e]
 refine (List.perm_append_comm_assoc ..).nodup_iff.mpr (Jc2.mpr ⟨h1,h2,fun x hx y hy q=>h3 x hx (q▸hy)⟩)
structure EntOk (C:Cn) (σ:St) (e:Ent):Prop where
 rows:RowsAt σ e.lf e.fl e.fv
 fr:σ e.fr=some (.list (e.fv.map optVec))
 fok:FOk e.fv
 few:e.fv.length≤100
 outs:∀ o∈e.outs,OutOk e.t C.ws.length (shp e.fv) o
 nout:e.outs.length≤20
 task:(e.tl=C.tl0∧e.t=task0)∨(e.tl=C.tl1∧e.t=C.t1)
noncomputable def Stk (C:Cn) (Z σ:St):List Ent→List (Option Nat)→Nat→Prop
 | [],_,code=>CodeAt Z code 7
 | e::r,sh,code=>EntOk C σ e∧sh=fshape e.t∧CodeAt Z code e.t.num∧Stk C Z σ r (shp e.fv) e.code
theorem EntOk.keep {C:Cn} {σ σ':St} {e:Ent} (h:EntOk C σ e) (k:∀ l∈e.locs,∀ c,σ l=some c→σ' l=some c):EntOk C σ' e:=
 ⟨h.rows.keep (fun c=>k _ (.head _) c) fun l hl c=>k l (.tail _ (.tail _ hl)) c,k _ (.tail _ (.head _)) _ h.fr,h.fok,h.few,h.outs,h.nout,h.task⟩
theorem Stk.keep {C:Cn} {Z Z' σ σ':St} (x:Ext Z Z'):∀ {stk:List Ent} {sh:List (Option Nat)} {code:Nat},Stk C Z σ stk sh code→(∀ l∈stkL stk,∀ c,σ l=some c→σ' l=some c)→Stk C Z' σ' stk sh code
 | [],_,_,h,_=>CodeAt.ext h x
 | e::r,_,_,⟨h1,h2,h3,h4⟩,k=>⟨h1.keep fun l hl=>k l (Jd2 _ hl),h2,h3.ext x,h4.keep x fun l hl=>k l (Je8 _ hl)⟩
theorem Stk.code {C:Cn} {Z σ:St} {stk:List Ent} {sh:List (Option Nat)} {code:Nat} (h:Stk C Z σ stk sh code):CodeAt Z code (match stk with | []=>7 | e::_=>e.t.num):=by
 cases stk with
 | nil=>exact h
 | cons e r=>exact h.2.2.1
structure Fixed (C:Cn) (Z:St):Prop where
 m:C.M.At Z
 sg:SigsAt Z C.M.SG C.ws
 tk:Z C.M.TK=some (.list [.loc C.tl0,.loc C.tl1])
 ta0:TaskAt Z C.tl0 task0
 ta1:TaskAt Z C.tl1 C.t1
 ok0:TaskOk C.ws task0
 ok1:TaskOk C.ws C.t1
 n1:C.t1.num=1
 len:4≤C.ws.length∧C.ws.length≤100
 w3:C.ws[3]?=some 3
 zk:Ext C.Zk Z
theorem Fixed.ext {C:Cn} {Z Z':St} (h:Fixed C Z) (x:Ext Z Z'):Fixed C Z':=⟨h.m.ext x,h.sg.ext x,x _ _ h.tk,h.ta0.ext x,h.ta1.ext x,h.ok0,h.ok1,h.n1,h.len,h.w3,h.zk.trans x⟩
noncomputable def framesV (d:Dy):List V:=(d.stk.reverse.map fun e=>V.loc e.lf)++[.loc d.F]
noncomputable def callsV (stk:List Ent):List V:=stk.reverse.map fun e=>callV e.code e.pc e.fr e.t.num e.outs
noncomputable def openV (e:Ent):V:=.tup [.loc e.tl,.tup [.tup (e.ins.map Ie.v),.tup (e.outs.map Out.v)],.int e.pc]
noncomputable def opensV (stk:List Ent):List V:=stk.reverse.map openV
noncomputable def natsV (l:List Nat):List V:=l.map fun (i:Nat)=>V.int (i:Int)
structure J (C:Cn) (Z σ:St) (d:Dy):Prop where
 fx:Fixed C Z
 z:Fz Z (muts C d) σ
 nd:(muts C d).Nodup
 w:LW σ C.SL d.sl d.F d.fl d.s
 wok:Wok d.s
 ws:wid d.s.1=C.ws
 bag:σ C.B=some (rowC d.b)
 bok:BagOk d.b
 st:σ C.M.ST=some (vecsC d.s.1)
 th:σ C.tp.T=some (C.tp.cell d.code d.pc d.FT)
 ft:σ d.FT=some (.list (d.s.2.map optVec))
 cp:σ C.M.CP=some (.dict d.es)
 cpok:CpOk Z d.es [task0,C.t1]
 td:σ C.M.TD=some (.list (natsV d.td))
 du:σ C.DU=some (.list (natsV d.td))
 fs:σ C.FS=some (.list (framesV d))
 cl:σ C.tp.CL=some (.list (callsV d.stk))
 op:σ C.OP=some (.list (opensV d.stk))
 stk:Stk C Z σ d.stk (shp d.s.2) d.code
section
variable {Γ:Gl} {k:Nat} {σ Z:St} {C:Cn} {d:Dy} {Q:V→St→Prop}
theorem stk_live {σ:St} {Z:St} {stk:List Ent}:∀ {sh:List (Option Nat)} {code:Nat},Stk C Z σ stk sh code→∀ l∈stkL stk,∃ c,σ l=some c:=by
 induction stk with
 | nil=>exact fun _ l h=>(by cases h)
 | cons e r ih=>
  intro sh code h
  exact Jb8.mpr ⟨Ja7.mpr ⟨⟨_,h.1.rows.at_⟩,Ja7.mpr ⟨⟨_,h.1.fr⟩,fun l hl=>(h.1.rows.live hl).elim fun r e=>⟨_,e⟩⟩⟩,ih h.2.2.2⟩
theorem J.live (j:J C Z σ d):∀ l∈muts C d,∃ c,σ l=some c:=
 Ja7.mpr ⟨⟨_,j.bag⟩,Ja7.mpr ⟨⟨_,j.w.sg.at_⟩,Ja7.mpr ⟨⟨_,j.fs⟩,Ja7.mpr ⟨⟨_,j.du⟩,Ja7.mpr ⟨⟨_,j.op⟩,Ja7.mpr ⟨⟨_,j.st⟩,Ja7.mpr ⟨⟨_,j.td⟩,Ja7.mpr ⟨⟨_,j.cp⟩,Ja7.mpr ⟨⟨_,j.th⟩,Ja7.mpr ⟨⟨_,j.cl⟩,Ja7.mpr ⟨⟨_,j.w.fr.at_⟩,Ja7.mpr ⟨⟨_,j.ft⟩,
  Jb8.mpr ⟨fun l hl=>(rls_live j.w (Jd2 _ hl)).elim fun r e=>⟨_,e⟩,Jb8.mpr ⟨fun l hl=>(rls_live j.w (Je8 _ hl)).elim fun r e=>⟨_,e⟩,stk_live j.stk⟩⟩⟩⟩⟩⟩⟩⟩⟩⟩⟩⟩⟩⟩
theorem J.fresh (j:J C Z σ d) {l:Nat} (h:σ l=none) {x:Nat} (hx:x∈muts C d):x≠l:=(j.live x hx).elim fun _ e=>live_ne e h
theorem J.gnd (j:J C Z σ d):(gD C d).flatten.Nodup:=(gD_flat C d).symm▸j.nd
theorem J.gndE (j:J C Z σ d) {e:Ent} {r:List Ent} (hs:d.stk=e::r):(gE C d e r).flatten.Nodup:=(gE_flat hs).symm▸j.nd
theorem J.ext {σ':St} (j:J C Z σ d) (x:Ext σ σ'):J C Z σ' d where
 fx:=j.fx
 z:=⟨j.z.sub.trans x,j.z.out⟩
 nd:=j.nd
 w:=j.w.ext x
 wok:=j.wok
 ws:=j.ws
 bag:=x _ _ j.bag
 bok:=j.bok
 st:=x _ _ j.st
 th:=x _ _ j.th
 ft:=x _ _ j.ft
 cp:=x _ _ j.cp
 cpok:=j.cpok
 td:=x _ _ j.td
 du:=x _ _ j.du
 fs:=x _ _ j.fs
 cl:=x _ _ j.cl
 op:=x _ _ j.op
 stk:=j.stk.keep (Ext.refl _) fun l _ c e=>x _ _ e
theorem J.bg (j:J C Z σ d):Bg σ C.B C.SL d.sl d.F d.fl d.s d.b:=⟨j.w,j.bag,j.bok⟩
theorem J.bn (j:J C Z σ d):Bn C.B C.SL d.sl d.F d.fl:=⟨nine j.gnd 0 1 (.head _) (.head _) rfl,nine j.gnd 0 10 (.head _) (.head _) rfl,nig j.gnd [12,13] 0 (.head _) rfl⟩
theorem J.setBag {σ':St} {b':List Int} (j:J C Z σ d) (y:ButS [C.B] σ σ') (g:Bg σ' C.B C.SL d.sl d.F d.fl d.s b'):J C Z σ' { d with b:=b' }:=by
 have k:=@kp _ j.gnd _ _ [0] y
 exact { fx:=j.fx,z:=j.z.step (y.wider (inD C d [0])),nd:=j.nd,w:=g.w,wok:=j.wok,ws:=j.ws,bag:=g.e,bok:=g.hb,st:=k 5 (.head _) rfl j.st,th:=k 8 (.head _) rfl j.th,ft:=k 11 (.head _) rfl j.ft,cp:=k 7 (.head _) rfl j.cp,cpok:=j.cpok,td:=k 6 (.head _) rfl j.td,du:=k 3 (.head _) rfl j.du,fs:=k 2 (.head _) rfl j.fs,cl:=k 9 (.head _) rfl j.cl,op:=k 4 (.head _) rfl j.op,stk:=j.stk.keep (Ext.refl _) fun l hl c e=>k 14 hl rfl e }
theorem J.pull (L:Lib Γ) (j:J C Z σ d) {many:Int} (hm:0<many∧many<1000000) (q:∀ (g:Nat) b' σ',(g:Int)<many→ButS [C.B] σ σ'→J C Z σ' { d with b:=b' }→Q (.int g) σ'):WC Γ (k+1) (.glob 20) [.loc C.B,.int many] σ Q:=
 pullG L j.bn j.bg hm fun g b' σ' h y G=>q g b' σ' h y (j.setBag y G)
end
end
section
section
variable {Γ:Gl} {k:Nat} {σ Z:St} {C:Cn} {d:Dy} {Q:V→St→Prop}
theorem J.reset (j:J C Z σ d) {σ':St} {s':Wd} {sl':List Nat} {fl':List (Option Nat)} {b':List Int} (W':Wok s') (e1:wid s'.1=wid d.s.1) (e2:shp s'.2=shp d.s.2) (y:ButS [C.B,C.SL,d.F,C.M.ST,d.FT] σ σ') (G':Bg σ' C.B C.SL sl' d.F fl' s' b') (nd':(rls sl' fl').Nodup)
  (mem':∀ l∈rls sl' fl',l∈rls d.sl d.fl∨σ l=none) (st':σ' C.M.ST=some (vecsC s'.1)) (ft':σ' d.FT=some (.list (s'.2.map optVec))):J C Z σ' { d with s:=s',sl:=sl',fl:=fl',b:=b' }:=by
 have nd:=j.gnd
 have nl:∀ rs:List Nat,(rs.all fun x=>![12,13].contains x)=true→∀ l∈rls sl' fl',l∉sel (gD C d) rs:=fun rs h l hl q=>(mem' l hl).elim (fun p=>dsel nd rs [12,13] h l q p) fun p=>j.fresh p (inD C d rs l q) rfl
 have k:=@kp _ nd _ _ [0,1,10,5,11] y
 have z1:=j.z.step (y.wider (inD C d [0,1,10,5,11]))
 refine { fx:=j.fx,z:=⟨z1.sub,?_⟩,nd:=?_,w:=G'.w,wok:=W',ws:=e1.trans j.ws,bag:=G'.e,bok:=G'.hb,st:=st',th:=k 8 (.head _) rfl j.th,ft:=ft',cp:=k 7 (.head _) rfl j.cp,cpok:=j.cpok,td:=k 6 (.head _) rfl j.td,du:=k 3 (.head _) rfl j.du,fs:=k 2 (.head _) rfl j.fs,cl:=k 9 (.head _) rfl j.cl,op:=k 4 (.head _) rfl j.op,stk:=?_ }
 ·have ho:∀ l∈sel (gD C d) [0,1,2,3,4,5,6,7,8,9,10,11],Z l=none:=fun l hl=>j.z.out l (inD C d _ l hl)
  have hr:∀ l∈rls sl' fl',Z l=none:=fun l hl=>(mem' l hl).elim (fun h=>j.z.out l (inD C d [12,13] l h)) fun h=>j.z.sub.new h
  have hk:∀ l∈stkL d.stk,Z l=none:=fun l hl=>j.z.out l (inD C d [14] l hl)
  refine fun l hl=>?_
  have hl:l∈sel (gD C d) [0,1,2,3,4,5,6,7,8,9,10,11]++(sl'++(fl'.filterMap id++stkL d.stk)):=hl
  rw [← Jd9 sl'] at hl
  exact (Jd0.mp hl).elim (ho l) fun h=>(Jd0.mp h).elim (hr l) (hk l)
 ·refine muts_nd (Jb6.mpr ⟨fun h=>(Jc0.mp h).elim (nine nd 10 11 (.head _) (.head _) rfl) fun h=>nl [10] rfl _ h (.head _),Jb6.mpr ⟨fun h=>nl [11] rfl _ h (.head _),nd'⟩⟩) (nd_sel nd [0,1,2,3,4,5,6,7,8,9,14] rfl) ?_
  exact Ja7.mpr ⟨nig nd [0,1,2,3,4,5,6,7,8,9,14] 10 (.head _) rfl,Ja7.mpr ⟨nig nd [0,1,2,3,4,5,6,7,8,9,14] 11 (.head _) rfl,nl [0,1,2,3,4,5,6,7,8,9,14] rfl⟩⟩
 ·exact e2▸j.stk.keep (Ext.refl Z) fun l hl c e=>k 14 hl rfl e
theorem J.poke (L:Lib Γ) (j:J C Z σ d) (q:∀ σ' s' sl' fl' b',J C Z σ' { d with s:=s',sl:=sl',fl:=fl',b:=b' }→shp s'.2=shp d.s.2→Q .none σ') :
  WC Γ (k+3) (.glob 19) [.loc C.B,.loc C.SL,.loc d.F,.loc C.M.ST,.loc C.tp.T] σ Q:=
 spec_poke (k:=k) L j.bn j.bg j.wok (nd_sel j.gnd [12,13] rfl) j.st j.th rfl j.ft (nd_sel j.gnd [0,1,10,5,11] rfl) (dsel j.gnd [0,1,10,5,11] [12,13] rfl) fun σ' s' sl' fl' b' W' e1 e2 y G' nd' mem' st' ft'=>q σ' s' sl' fl' b' (j.reset W' e1 e2 y G' nd' mem' st' ft') e2
end
end
section
section
variable {Γ:Gl} {k:Nat} {σ Z:St} {C:Cn} {d:Dy} {Q:V→St→Prop} {e:Ent} {r:List Ent}
theorem J.wlen (j:J C Z σ d):d.s.1.length=C.ws.length:=by rw [← j.ws];simp [wid]
structure K (C:Cn) (Z σ σ2:St) (d:Dy) (e:Ent) (r:List Ent):Prop where
 b:ButS (C.OP::C.FS::rls d.sl e.fl) σ σ2
 w:LW σ2 C.SL d.sl e.lf e.fl (leaveP e.t.ports d.s.1 d.s.2 e.outs (d.s.1,e.fv))
 fs:σ2 C.FS=some (.list ((r.reverse.map fun e=>V.loc e.lf)++[.loc e.lf]))
 op:σ2 C.OP=some (.list (opensV r))
theorem EntOk.fixed {Z:St} (h:EntOk C σ e) (fx:Fixed C Z):TaskAt Z e.tl e.t∧TaskOk C.ws e.t∧([V.loc C.tl0,.loc C.tl1]:List V)[e.t.num]?=some (.loc e.tl)∧([task0,C.t1]:List Task)[e.t.num]?=some e.t:=by
 rcases h.task with ⟨h1,h2⟩ | ⟨h1,h2⟩
 ·rw [h1,h2];exact ⟨fx.ta0,fx.ok0,rfl,rfl⟩
 ·rw [h1,h2,fx.n1];exact ⟨fx.ta1,fx.ok1,rfl,rfl⟩
theorem leave_J (j:J C Z σ d) (hs:d.stk=e::r):EntOk C σ e∧shp d.s.2=fshape e.t∧CodeAt Z d.code e.t.num∧Stk C Z σ r (shp e.fv) e.code:=by
 have:=j.stk;rw [hs] at this;exact this
theorem J.leave (L:Lib Γ) (j:J C Z σ d) (hs:d.stk=e::r) (hr:r.length≤900) (q:∀ σ2,K C Z σ σ2 d e r→Q .none σ2) :
  WC Γ (k+4) (.glob 16) [.loc e.tl,.tup [.tup (e.ins.map Ie.v),.tup (e.outs.map Out.v)],.loc C.SL,.loc C.FS] (upd σ C.OP (.list (opensV r))) Q:=by
 have nd:=j.gndE hs
 have b1:ButS [C.OP] σ (upd σ C.OP (.list (opensV r))):=(ButS.refl _ _).set _ (.inl (.head _))
 have eop:upd σ C.OP (.list (opensV r)) C.OP=some (.list (opensV r)):=upd_self ..
 refine gabs fun gG gK=>?_
 obtain ⟨eo,hsh,_,_⟩:=leave_J j hs
 obtain ⟨ta,tok,_,_⟩:=eo.fixed j.fx
 refine gK ?_
 revert b1 eop
 refine gen (upd σ C.OP (.list (opensV r))) ?_
 intro σ1
 intros
 have w1:LW σ1 C.SL d.sl e.lf e.fl (d.s.1,e.fv):=⟨j.w.sg.buts b1 (nig nd [4] 1 (.head _) rfl) ((fm_map d.sl).symm▸fun l hl=>nig nd [4] 12 hl rfl),eo.rows.buts b1 (nig nd [4] 14 (.head _) rfl) fun l hl=>nig nd [4] 16 hl rfl⟩
 have efs:=j.fs
 have hfv:framesV d=(r.reverse.map fun e=>V.loc e.lf)++[.loc e.lf]++[.loc d.F]:=by unfold framesV;rw [hs,Jh1,Jb5];rfl
 rw [hfv] at efs
 refine spec_leave (k:=k) L (FT:=d.F) (flT:=d.fl) (ML:=muts C d) (j.z.step (b1.wider (inE hs [4]))) (inE hs [2] _ (.head _)) (inE hs [12,16]) ta (j.ws.symm▸tok) w1 (nd_sel nd [12,16] rfl) (j.w.fr.buts b1 (nig nd [4] 10 (.head _) rfl) fun l hl=>nig nd [4] 13 hl rfl) hsh j.wok.h2
  (nig nd [12,16] 1 (.head _) rfl) (nig nd [12,16] 14 (.head _) rfl) (nig nd [12,16] 2 (.head _) rfl) (nine nd 2 1 (.head _) (.head _) rfl) (nine nd 2 14 (.head _) (.head _) rfl) (nine nd 2 10 (.head _) (.head _) rfl) (nig nd [13] 2 (.head _) rfl) (kp nd [4] b1 2 (.head _) rfl efs) ?_ j.wok.h1 eo.fok (fun o ho=>j.wlen.symm▸eo.outs o ho) (Ja1 eo.nout (Ja0 rfl)) (Ja1 j.wok.hn.2 (Ja0 rfl)) fun σ2 b2 w2 fs2=>?_
 ·rw [Ja2,Ji3];exact Ja1 hr (Ja0 rfl)
 ·exact q σ2 ⟨(kpB nd [4] [4,2,12,16] b1 rfl).trans (kpB nd [2,12,16] [4,2,12,16] b2 rfl),w2,fs2,b2 _ _ (nig nd [2,12,16] 4 (.head _) rfl) eop⟩
end
end
section
section
variable {Γ:Gl} {k:Nat} {σ Z:St} {C:Cn} {d:Dy} {Q:V→St→Prop} {e:Ent} {r:List Ent}
noncomputable def Dy.back (d:Dy) (e:Ent) (r:List Ent):Dy:={ d with s:=leaveP e.t.ports d.s.1 d.s.2 e.outs (d.s.1,e.fv),F:=e.lf,fl:=e.fl,FT:=e.fr,code:=e.code,pc:=e.pc,stk:=r }
theorem shp_len {fv fv':List (Option (List Int))} (h:shp fv'=shp fv):fv'.length=fv.length:=(Ja2 _).symm.trans ((congrArg List.length h).trans (Ja2 _))
theorem J.ret (L:Lib Γ) (j:J C Z σ d) (hs:d.stk=e::r) (hr:r.length≤900) {σ2:St} (K2:K C Z σ σ2 d e r) (q:∀ σ3,J C Z σ3 (d.back e r)→Q .none σ3) :
  WC Γ (k+7) (.glob 132) [.loc C.M.H,.loc C.tp.T] σ2 Q:=by
 have nd:=j.gndE hs
 have k2:=@kp _ nd _ _ [4,2,12,16] K2.b
 have z2:=j.z.step (K2.b.wider (inE hs [4,2,12,16]))
 have ecl:=j.cl
 have hcl:callsV d.stk=callsV r++[callV e.code e.pc e.fr e.t.num e.outs]:=by rw [hs,callsV,Jh1,Jb5];rfl
 rw [hcl] at ecl
 refine gabs fun gG gK=>?_
 obtain ⟨eo,hsh,_,hr'⟩:=leave_J j hs
 obtain ⟨ta,tok,ht1,_⟩:=eo.fixed j.fx
 have ho:∀ o∈e.outs,OutOk e.t d.s.1.length (shp e.fv) o:=fun o ho=>j.wlen.symm▸eo.outs o ho
 obtain ⟨v1,v2,v3,v4⟩:=leave_shape (t:=e.t) (sv:=d.s.1) (ft:=d.s.2) (j.ws.symm▸tok) j.wok.h1 j.wok.h2 hsh e.outs (d.s.1,e.fv) j.wok.h1 eo.fok ho
 refine gK ?_
 refine spec_return (k:=k) (sv:=d.s.1) (fv:=e.fv) (ft:=d.s.2) (outs:=e.outs) (cs:=callsV r) (code:=e.code) (pc:=e.pc) L (z2.less (inE hs [5,8,9,15])) j.fx.m (j.ws.symm▸j.fx.sg) j.fx.tk ht1 ta (j.ws.symm▸tok) (k2 5 (.head _) rfl j.st) (k2 11 (.head _) rfl j.ft) (k2 15 (.head _) rfl eo.fr) (k2 8 (.head _) rfl j.th) (k2 9 (.head _) rfl ecl)
  (nine nd 5 15 (.head _) (.head _) rfl) (nine nd 9 5 (.head _) (.head _) rfl) (nine nd 9 11 (.head _) (.head _) rfl) (nine nd 9 15 (.head _) (.head _) rfl) ?_ j.wok.h1 j.wok.h2 eo.fok hsh ho (Ja1 eo.nout (Ja0 rfl)) (Ja1 j.wok.hn.2 (Ja0 rfl)) fun σ3 b3 st3 fr3 th3 cl3=>?_
 ·rw [callsV,Ja2,Ji3];exact Ja1 hr (Ja0 rfl)
 have k3:=@kp _ nd _ _ [5,8,9,15] b3
 have k23:=@kp _ nd _ _ [4,2,12,16,5,8,9,15] ((kpB nd [4,2,12,16] [4,2,12,16,5,8,9,15] K2.b rfl).trans (kpB nd [5,8,9,15] [4,2,12,16,5,8,9,15] b3 rfl))
 have wsl:(leaveP e.t.ports d.s.1 d.s.2 e.outs (d.s.1,e.fv)).1.length=d.s.1.length:=wid_len v3
 have wfl:(leaveP e.t.ports d.s.1 d.s.2 e.outs (d.s.1,e.fv)).2.length=e.fv.length:=shp_len v4
 exact q σ3 { fx:=j.fx,z:=(z2.step (b3.wider (inE hs [5,8,9,15]))).less (inE hs [0,1,2,3,4,5,6,7,8,9,14,15,12,16,17]),nd:=nd_sel nd [0,1,2,3,4,5,6,7,8,9,14,15,12,16,17] rfl,w:=K2.w.but b3 (nig nd [5,8,9,15] 1 (.head _) rfl) (nig nd [5,8,9,15] 14 (.head _) rfl) (dsel nd [12,16] [5,8,9,15] rfl),wok:=⟨v1,v2,wsl.symm▸j.wok.hn,wfl.symm▸eo.few⟩,ws:=v3.trans j.ws,bag:=k23 0 (.head _) rfl j.bag,bok:=j.bok,st:=st3,th:=th3,ft:=fr3,cp:=k23 7 (.head _) rfl j.cp,cpok:=j.cpok,td:=k23 6 (.head _) rfl j.td,du:=k23 3 (.head _) rfl j.du,fs:=k3 2 (.head _) rfl K2.fs,cl:=cl3,op:=k3 4 (.head _) rfl K2.op,stk:=v4.symm▸hr'.keep (Ext.refl _) fun l hl c ec=>k23 17 hl rfl ec }
end
end
section
section
variable {Γ:Gl} {k:Nat} {σ Z:St} {C:Cn} {d:Dy} {Q:V→St→Prop}
noncomputable def Dy.ent (d:Dy) (tl:Nat) (t:Task) (ins:List Ie) (outs:List Out):Ent:=⟨tl,t,ins,outs,d.pc,d.code,d.F,d.fl,d.FT,d.s.2⟩
noncomputable abbrev Dy.en (d:Dy) (t:Task) (ins:List Ie):EnS:=enterP t (ins.map fun e=>e.row d.s.1 d.s.2) d.s.1
structure CallOk (C:Cn) (d:Dy) (tl:Nat) (t:Task) (ins:List Ie) (outs:List Out):Prop where
 task:(tl=C.tl0∧t=task0)∨(tl=C.tl1∧t=C.t1)
 oki:∀ e∈ins,Ie.ok e d.s.1.length (shp d.s.2)
 n:ins.length=nin t.ports
 oko:∀ o∈outs,OutOk t d.s.1.length (shp d.s.2) o
 few:outs.length≤20
structure N (C:Cn) (Z σ σ2:St) (d:Dy) (tl:Nat) (t:Task) (ins:List Ie) (outs:List Out) (FR:Nat) (sl':List Nat) (fl':List (Option Nat)):Prop where
 b:ButS [C.OP,C.SL,C.FS,C.DU] σ σ2
 fr0:σ FR=none
 w:LW σ2 C.SL sl' FR fl' ((d.en t ins).sv,(d.en t ins).fr)
 nd:(rls sl' fl').Nodup
 mem:∀ l∈rls sl' fl',l∈d.sl∨σ l=none
 frn:FR∉rls sl' fl'
 fs:σ2 C.FS=some (.list (framesV d++[.loc FR]))
 du:σ2 C.DU=some (.list (natsV (d.td++(d.en t ins).td)))
 op:σ2 C.OP=some (.list (opensV d.stk++[openV (d.ent tl t ins outs)]))
theorem CallOk.fixed {tl:Nat} {t:Task} {ins:List Ie} {outs:List Out} (h:CallOk C d tl t ins outs) (fx:Fixed C Z):TaskAt Z tl t∧TaskOk C.ws t∧([V.loc C.tl0,.loc C.tl1]:List V)[t.num]?=some (.loc tl)∧([task0,C.t1]:List Task)[t.num]?=some t:=by
 rcases h.task with ⟨h1,h2⟩ | ⟨h1,h2⟩
 ·rw [h1,h2];exact ⟨fx.ta0,fx.ok0,rfl,rfl⟩
 ·rw [h1,h2,fx.n1];exact ⟨fx.ta1,fx.ok1,rfl,rfl⟩
theorem fs_shape (d:Dy):framesV d=(d.stk.reverse.map fun e=>V.loc e.lf)++[.loc d.F]:=rfl
theorem J.enter (L:Lib Γ) (j:J C Z σ d) (hr:d.stk.length≤900) (htd:d.td.length≤2000) {tl:Nat} {t:Task} {ins:List Ie} {outs:List Out} (ok:CallOk C d tl t ins outs)
  (q:∀ σ2 FR sl' fl',N C Z σ σ2 d tl t ins outs FR sl' fl'→Q .none σ2) :
  WC Γ (k+3) (.glob 11) [.loc tl,.tup [.tup (ins.map Ie.v),.tup (outs.map Out.v)],.loc C.SL,.loc C.FS,.loc C.DU] (upd σ C.OP (.list (opensV d.stk++[openV (d.ent tl t ins outs)]))) Q:=by
 have nd:=j.gnd
 have b1:ButS [C.OP] σ (upd σ C.OP (.list (opensV d.stk++[openV (d.ent tl t ins outs)]))):=(ButS.refl _ _).set _ (.inl (.head _))
 have eop:upd σ C.OP (.list (opensV d.stk++[openV (d.ent tl t ins outs)])) C.OP=some (.list (opensV d.stk++[openV (d.ent tl t ins outs)])):=upd_self ..
 have hno:∀ l,upd σ C.OP (.list (opensV d.stk++[openV (d.ent tl t ins outs)])) l=none→σ l=none:=fun l h=>(upd_none h).1
 refine gabs fun gG gK=>?_
 obtain ⟨ta,tok,_,_⟩:=ok.fixed j.fx
 refine gK ?_
 revert b1 eop hno
 refine gen (upd σ C.OP (.list (opensV d.stk++[openV (d.ent tl t ins outs)]))) ?_
 intro σ1
 intros
 have w1:LW σ1 C.SL d.sl d.F d.fl d.s:=j.w.but b1 (nig nd [4] 1 (.head _) rfl) (nig nd [4] 10 (.head _) rfl) (dsel nd [12,13] [4] rfl)
 refine spec_enter (k:=k) (s:=d.s) (ins:=ins) (told:=natsV d.td) (ys:=d.stk.reverse.map fun e=>V.loc e.lf) L ((j.z.step (b1.wider (inD C d [4]))).less (inD C d [1,2,3])) ta (j.ws.symm▸tok) w1 (nd_sel nd [12,13] rfl) (nd_sel nd [1,2,3] rfl) (dsel nd [1,2,3] [12,13] rfl) (kp nd [4] b1 2 (.head _) rfl j.fs) (kp nd [4] b1 3 (.head _) rfl j.du) ?_ ?_ j.wok.h1 j.wok.h2 ok.oki ok.n fun σ2 FR sl' fl' b2 h0 w2 nd2 mem2 frn2 fs2 du2=>?_
 ·rw [Ja2,Ji3];exact Ja1 hr (Ja0 rfl)
 ·rw [natsV,Ja2];exact Ja1 htd (Ja0 rfl)
 ·exact q σ2 FR sl' fl' ⟨(kpB nd [4] [4,1,2,3] b1 rfl).trans (kpB nd [1,2,3] [4,1,2,3] b2 rfl),hno _ h0,w2,nd2,fun l hl=>(mem2 l hl).elim .inl fun h=>.inr (hno _ h),frn2,fs2,by rw [natsV,Jb5];exact du2,b2 _ _ (nig nd [1,2,3] 4 (.head _) rfl) eop⟩
end
end
section
section
variable {Γ:Gl} {k:Nat} {σ Z:St} {C:Cn} {d:Dy} {Q:V→St→Prop}
noncomputable def Dy.call (d:Dy) (tl:Nat) (t:Task) (ins:List Ie) (outs:List Out) (FR:Nat) (sl':List Nat) (fl':List (Option Nat)) (FH CD:Nat) (es':List (Int×V)):Dy:=
 ⟨((d.en t ins).sv,(d.en t ins).fr),sl',FR,fl',d.b,FH,CD,0,es',d.ent tl t ins outs::d.stk,d.td++(d.en t ins).td⟩
theorem enters_end {t:Task} {ins:List Ie} {outs:List Out} {tl:Nat} (j:J C Z σ d) (ok:CallOk C d tl t ins outs):EnOk t C.ws [] (d.en t ins):=by
 refine gabs fun gG gK=>?_
 obtain ⟨ta,tok,_⟩:=ok.fixed j.fx
 refine gK ?_
 have hs:=enter_start (t:=t) (sv:=d.s.1) (rs:=ins.map fun e=>e.row d.s.1 d.s.2) (by rw [j.ws];exact tok) j.wok.h1 (fun r hr=>by obtain ⟨e,he,rfl⟩:=Jf2.mp hr;exact (Ie.ok_val (ok.oki e he) j.wok.h1 j.wok.h2).2.1) (by rw [Ja2];exact ok.n)
 rw [j.ws] at hs
 refine enters_ok (ws:=C.ws) t.ports [] (fun p hp=>tok.po p hp) ?_
 rw [Jd3];exact hs
theorem wid_len' {sv:List (List Int)} {ws:List Nat} (h:wid sv=ws):sv.length=ws.length:=h▸(Ja2 _).symm
theorem shp_len' {fv:List (Option (List Int))} {t:Task} (h:shp fv=fshape t):fv.length=t.slots.length+t.turns:=by
 have h2:=congrArg List.length h
 rw [shp,fshape,Ja2,Jb2,Ja2,Jd6] at h2
 exact h2
theorem J.call (L:Lib Γ) (j:J C Z σ d) (hr:d.stk.length≤900) (htd:d.td.length≤2000) (hes:d.es.length≤50) {tl:Nat} {t:Task} {ins:List Ie} {outs:List Out} (ok:CallOk C d tl t ins outs) (hsh:d.s.2.length≤100)
  {σ2:St} {FR:Nat} {sl':List Nat} {fl':List (Option Nat)} (n:N C Z σ σ2 d tl t ins outs FR sl' fl')
  (q:∀ Z' σ3 FH CD es',J C Z' σ3 (d.call tl t ins outs FR sl' fl' FH CD es')→es'.length≤d.es.length+1→Q .none σ3) :
  WC Γ (k+10) (.glob 47) [.loc C.M.H,.loc C.tp.T,.int t.num,.tup (ins.map Ie.v),.tup (outs.map Out.v)] σ2 Q:=by
 have nd:=j.gnd
 have k2:=@kp _ nd _ _ [4,1,2,3] n.b
 have eE:=enters_end j ok
 have kz:∀ l∈FR::rls sl' fl',σ l=none∨l∈d.sl:=Ja7.mpr ⟨.inl n.fr0,fun l hl=>(n.mem l hl).symm⟩
 have nl:∀ (rs:List Nat),(rs.all fun x=>![12].contains x)=true→∀ l,σ l=none∨l∈d.sl→l∉sel (gD C d) rs:=fun rs h l hl q=>hl.elim (fun p=>j.fresh p (inD C d rs l q) rfl) fun p=>dsel nd rs [12] h l q p
 have z2:Fz Z (muts C d++(FR::rls sl' fl')) σ2:=⟨(j.z.step (n.b.wider (inD C d [4,1,2,3]))).sub,Jb8.mpr ⟨j.z.out,fun l hl=>(kz l hl).elim j.z.sub.new fun h=>j.z.out l (inD C d [12] l h)⟩⟩
 have hlive:∀ l∈muts C d++(FR::rls sl' fl'),σ2 l≠none:=by
  refine Jb8.mpr ⟨fun l hl=>?_,Ja7.mpr ⟨some_ne n.w.fr.at_,fun l hl=>(rls_live n.w hl).elim fun r e=>some_ne e⟩⟩
  have h4:∀ l∈[C.OP,C.SL,C.FS,C.DU],σ2 l≠none:=Ja7.mpr ⟨some_ne n.op,Ja7.mpr ⟨some_ne n.w.sg.at_,Ja7.mpr ⟨some_ne n.fs,Ja7.mpr ⟨some_ne n.du,fun _ h=>(by cases h)⟩⟩⟩⟩
  by_cases h2:l∈[C.OP,C.SL,C.FS,C.DU]
  ·exact h4 l h2
  ·exact (j.live l hl).elim fun c e=>some_ne (n.b _ _ h2 e)
 refine gabs fun gG gK=>?_
 obtain ⟨ta,tok,ht1,ht2⟩:=ok.fixed j.fx
 refine gK ?_
 refine spec_call_task (k:=k) (sv:=d.s.1) (fv:=d.s.2) (ts:=[task0,C.t1]) (outs:=outs) (es:=d.es) (cs:=callsV d.stk) (told:=natsV d.td) L z2 hlive (fun l hl=>Jd2 _ (inD C d [5,6,7,8,9] l hl)) j.fx.m j.fx.tk ht1 ta (j.ws.symm▸tok) ht2
  (k2 7 (.head _) rfl j.cp) hes j.cpok (k2 5 (.head _) rfl j.st) (k2 11 (.head _) rfl j.ft) (k2 8 (.head _) rfl j.th) (k2 9 (.head _) rfl j.cl) (k2 6 (.head _) rfl j.td) (nd_sel nd [5,6,7,8,9] rfl) (nig nd [5,6,7,8,9] 11 (.head _) rfl) ?_ ?_ j.wok.h1 j.wok.h2 ok.oki ok.n fun Z' σ3 es' CD FH xZ z3 b3 hFH fh3 st3 td3 th3 cl3 cp3 hes' cpok3 code3 hZFH=>?_
 ·rw [callsV,Ja2,Ji3];exact Ja1 hr (Ja0 rfl)
 ·rw [natsV,Ja2];exact Ja1 htd (Ja0 rfl)
 have hFHn:FH∉muts C d++(FR::rls sl' fl'):=fun h=>hlive _ h hFH
 have hFHσ:σ FH=none:=n.b.none (fun h=>hFHn (Jd2 _ (inD C d [4,1,2,3] _ h))) hFH
 have k3:=@kp _ nd _ _ [5,6,7,8,9] b3
 have k13:=@kp _ nd _ _ [4,1,2,3,5,6,7,8,9] ((kpB nd [4,1,2,3] [4,1,2,3,5,6,7,8,9] n.b rfl).trans (kpB nd [5,6,7,8,9] [4,1,2,3,5,6,7,8,9] b3 rfl))
 have hop:opensV (d.ent tl t ins outs::d.stk)=opensV d.stk++[openV (d.ent tl t ins outs)]:=by rw [opensV,Jh1,Jb5];rfl
 have hcl:callsV (d.ent tl t ins outs::d.stk)=callsV d.stk++[callV d.code d.pc d.FT t.num outs]:=by rw [callsV,Jh1,Jb5];rfl
 have hfs:framesV (d.call tl t ins outs FR sl' fl' FH CD es')=framesV d++[.loc FR]:=by
  show ((d.ent tl t ins outs::d.stk).reverse.map fun e=>V.loc e.lf)++[.loc FR]=_
  rw [Jh1,Jb5];rfl
 have ht:Stk C Z' σ3 (d.ent tl t ins outs::d.stk) (shp (d.en t ins).fr) CD:=
  ⟨⟨j.w.fr.keep (fun c e=>k13 10 (.head _) rfl e) fun l hl c e=>k13 13 hl rfl e,k13 11 (.head _) rfl j.ft,j.wok.h2,hsh,fun o ho=>j.wlen▸ok.oko o ho,ok.few,ok.task⟩,eE.shp,code3,j.stk.keep xZ fun l hl c e=>k13 14 hl rfl e⟩
 refine q Z' σ3 FH CD es' { fx:=j.fx.ext xZ,z:=⟨z3.sub,?_⟩,nd:=muts_nd ?_ (nd_sel nd [0,1,2,3,4,5,6,7,8,9,10,11,13,14] rfl) ?_,w:=n.w.but b3 (nig nd [5,6,7,8,9] 1 (.head _) rfl) (nl [5,6,7,8,9] rfl _ (.inl n.fr0)) fun l hl=>nl [5,6,7,8,9] rfl l (n.mem l hl).symm,wok:=⟨eE.sv,eE.fr,?_,?_⟩,ws:=eE.wid,bag:=k13 0 (.head _) rfl j.bag,bok:=j.bok,st:=st3,th:=th3,ft:=fh3,cp:=cp3,cpok:=cpok3,td:=by rw [Dy.call,natsV,Jb5];exact td3,du:=k3 3 (.head _) rfl n.du,fs:=hfs.symm▸k3 2 (.head _) rfl n.fs,cl:=hcl.symm▸cl3,op:=hop.symm▸k3 4 (.head _) rfl n.op,stk:=ht } hes'
 ·have hm:∀ rs,∀ l∈sel (gD C d) rs,Z' l=none:=fun rs l hl=>z3.out l (Jd2 _ (inD C d rs l hl))
  have hr:∀ l∈FR::rls sl' fl',Z' l=none:=fun l hl=>z3.out l (Je8 _ hl)
  intro l hl
  have hl:l∈sel (gD C d) [0,1,2,3,4,5,6,7,8,9]++(FR::FH::(sl'++(fl'.filterMap id++sel (gD C d) [10,11,13,14]))):=hl
  rw [← Jd9 sl'] at hl
  exact Jb8.mpr ⟨hm _,Ja7.mpr ⟨hr _ (.head _),Ja7.mpr ⟨hZFH,Jb8.mpr ⟨fun l h=>hr l (.tail _ h),hm _⟩⟩⟩⟩ l hl
 ·exact Jb6.mpr ⟨fun h=>(Jc0.mp h).elim (fun h=>hFHn (Je8 _ (Jc0.mpr (.inl (Eq.symm h))))) n.frn,Jb6.mpr ⟨fun h=>hFHn (Je8 _ (.tail _ h)),n.nd⟩⟩
 ·exact fun l hl=>nl [0,1,2,3,4,5,6,7,8,9,10,11,13,14] rfl l ((Jc0.mp hl).elim (fun h=>.inl (h▸n.fr0)) fun h=>(Jc0.mp h).elim (fun h=>.inl (h▸hFHσ)) fun h=>kz l (.tail _ h))
 ·have h:=wid_len' eE.wid;have:=j.fx.len;exact h.symm▸⟨Ja1 (Ja0 rfl) this.1,this.2⟩
 ·have h:=shp_len' eE.shp;have:=tok.few;have h2:(d.en t ins).fr.length=t.slots.length+t.turns:=h;show (d.en t ins).fr.length≤100;lia
end
end
section
noncomputable def firstV:V:=.tup [.tup [.str 146,.int 3,.int 3],.tup [.str 146,.int 2,.int 2]]
noncomputable def swapV:V:=.tup [.tup [.str 105,.int 3,.tup [.tup [.str 146,.int 3,.int 3,.none,.tup [.str 39,.int 0]]]],.int 2]
noncomputable def keepV:V:=.tup [.tup [.str 105,.int 4,.tup [.tup [.str 146,.int 4,.int 0,.none,.tup [.str 39,.int 0]]]],.int 1]
theorem Tp.l76 (t:Tp) (c:Nat) (p:Int) (f:Nat):look (t.as c p f) 76=some (.loc f):=rfl
theorem Tp.l121 (t:Tp) (c:Nat) (p:Int) (f:Nat):look (t.as c p f) 121=some (.int p):=rfl
theorem Tp.p121 (t:Tp) (c:Nat) (p p':Int) (f:Nat):put (t.as c p f) 121 (.int p')=t.as c p' f:=rfl
structure EnvL (C:Cn) (left:Int) (m:List (Nat×V)):Prop where
 k42:look m 42=some (.loc C.B)
 k150:look m 150=some (.loc C.SL)
 k158:look m 158=some (.loc C.M.ST)
 k77:look m 77=some (.loc C.FS)
 k165:look m 165=some (.loc C.tp.T)
 k114:look m 114=some (.loc C.OP)
 k85:look m 85=some (.loc C.M.H)
 k164:look m 164=some (.loc C.M.TK)
 k168:look m 168=some (.loc C.M.TD)
 k65:look m 65=some (.loc C.DU)
 k98:look m 98=some (.int left)
 k74:look m 74=some firstV
 k159:look m 159=some swapV
 k93:look m 93=some keepV
theorem EnvL.put {C:Cn} {left:Int} {m:List (Nat×V)} (E:EnvL C left m) (x:Nat) (v:V) (hx:([42,150,158,77,165,114,85,164,168,65,98,74,159,93].any fun y=>Jc5 y x)=false):EnvL C left (Mine.put m x v):=by
 have h:∀ y,y∈[42,150,158,77,165,114,85,164,168,65,98,74,159,93]→look (Mine.put m x v) y=look m y:=fun y hy=>by
  rw [look_put,if_neg]
  rintro rfl
  rw [List.any_eq_false] at hx
  exact hx y hy (Ji1 y)
 refine ⟨(h _ ?_).trans E.k42,(h _ ?_).trans E.k150,(h _ ?_).trans E.k158,(h _ ?_).trans E.k77,(h _ ?_).trans E.k165,(h _ ?_).trans E.k114,(h _ ?_).trans E.k85,(h _ ?_).trans E.k164,(h _ ?_).trans E.k168,(h _ ?_).trans E.k65,(h _ ?_).trans E.k98,(h _ ?_).trans E.k74,(h _ ?_).trans E.k159,(h _ ?_).trans E.k93⟩ <;> decide
theorem EnvL.put98 {C:Cn} {left l':Int} {m:List (Nat×V)} (E:EnvL C left m):EnvL C l' (Mine.put m 98 (.int l')):=by
 have h:∀ y,y≠98→look (Mine.put m 98 (.int l')) y=look m y:=fun y hy=>by rw [look_put,if_neg hy]
 refine ⟨(h _ (by decide)).trans E.k42,(h _ (by decide)).trans E.k150,(h _ (by decide)).trans E.k158,(h _ (by decide)).trans E.k77,(h _ (by decide)).trans E.k165,(h _ (by decide)).trans E.k114,(h _ (by decide)).trans E.k85,(h _ (by decide)).trans E.k164,(h _ (by decide)).trans E.k168,(h _ (by decide)).trans E.k65,by rw [look_put,if_pos rfl],(h _ (by decide)).trans E.k74,(h _ (by decide)).trans E.k159,(h _ (by decide)).trans E.k93⟩
section
variable {Γ:Gl} {k:Nat} {σ σ3 Z:St} {C:Cn} {d d3:Dy}
seal itemV attrV setAV setIV biV listM methL sliceV iterV inV newV look put
theorem rok_c {r:List Int} (h:r.all (fun c=>decide (0≤c∧c≤3))=true) (h1:1≤r.length∧r.length≤50):Rok r:=⟨fun c hc=>by have:=Jb3.mp h c hc;simpa using this,fun e=>by rw [e] at h1;simp at h1,h1.2⟩
theorem J.four2 (j3:J C Z σ3 d3) {left:Int} {m:List (Nat×V)} {Q:SPost} {r0:List Int} (E:EnvL C left m) (hr03:d3.s.2[0]?=some (some r0)) (hr0l:r0.length=2)
  (q:∀ σ' s' fl',J C Z σ' { d3 with s:=s',fl:=fl' }→shp s'.2=shp d3.s.2→Q .next m σ') :
  wpSs (wpS Γ k [] 7) [.setI (.item (.var 77) (.neg (.int 1))) (.int 0) (.list [(.int 1),(.int 1)]),.setI (.attr (.var 165) 76) (.int 0) (.tup [(.int 2),(.int 3),(.int 0)])] m σ3 Q:=by
 have nd3:=j3.gnd
 have hf0l3:=(Ja3.mp hr03).1
 have hfl3:=j3.w.flen
 intro l2 hl2
 have l2F:l2≠d3.F:=Ne.symm (live_ne j3.w.fr.at_ hl2)
 have l2FT:l2≠d3.FT:=Ne.symm (live_ne j3.ft hl2)
 have hl2r:l2∉rls d3.sl d3.fl:=fun h=>j3.fresh hl2 (inD C d3 [12,13] _ h) rfl
 have x1:Ext σ3 (upd σ3 l2 (rowC [1,1])):=(Ext.refl _).upd hl2 _
 have el2:upd σ3 l2 (rowC [1,1]) l2=some (rowC [1,1]):=upd_self ..
 have j4:=j3.ext x1
 conv=>whnf
 rw [E.k77]
 conv=>whnf
 show itemV _ _ (upd σ3 l2 (rowC [1,1])) _
 revert x1 el2 j4
 refine gen (upd σ3 l2 (rowC [1,1])) ?_
 intro σ4
 intros
 refine item_last (r:=.loc d3.F) j4.fs ?_
 refine setI_l j4.w.fr.at_ (by decide) (by simp;lia) (by decide) ?_
 have eset:(d3.fl.map optV).set ((0:Int)).toNat (.loc l2)=(d3.fl.set 0 (some l2)).map optV:=by rw [Je0];rfl
 rw [eset]
 have w5:=j4.w.putF (j:=0) el2 (nig nd3 [12,13] 10 (.head _) rfl) l2F (nine nd3 10 1 (.head _) (.head _) rfl)
 obtain ⟨nd5,mem5⟩:=rls_putF (j:=0) (nd_sel nd3 [12,13] rfl) hl2r
 have b5:ButS [d3.F] σ4 (upd σ4 d3.F (.list ((d3.fl.set 0 (some l2)).map optV))):=(ButS.refl _ _).set _ (.inl (.head _))
 revert w5 b5
 refine gen (upd σ4 d3.F (.list ((d3.fl.set 0 (some l2)).map optV))) ?_
 intro σ5
 intros
 conv=>whnf
 rw [E.k165]
 refine ⟨rfl,attr_i (kp nd3 [10] b5 8 (.head _) rfl j4.th) (Tp.l76 ..) ?_⟩
 refine setI_l (kp nd3 [10] b5 11 (.head _) rfl j4.ft) (by decide) (by simp;lia) (by decide) ?_
 have eft:(Cell.list ((d3.s.2.map optVec).set ((0:Int)).toNat (.tup [.int 2,.int 3,.int 0])))=.list ((d3.s.2.set 0 (some [1,1])).map optVec):=by rw [Je0];rfl
 rw [eft]
 have b6:ButS [d3.FT] σ5 (upd σ5 d3.FT (.list ((d3.s.2.set 0 (some [1,1])).map optVec))):=(ButS.refl _ _).set _ (.inl (.head _))
 have ft6:upd σ5 d3.FT (.list ((d3.s.2.set 0 (some [1,1])).map optVec)) d3.FT=some (.list ((d3.s.2.set 0 (some [1,1])).map optVec)):=upd_self ..
 have w6:LW (upd σ5 d3.FT (.list ((d3.s.2.set 0 (some [1,1])).map optVec))) C.SL d3.sl d3.F (d3.fl.set 0 (some l2)) (d3.s.1,d3.s.2.set 0 (some [1,1])):=w5.but b6 (nig nd3 [11] 1 (.head _) rfl) (nig nd3 [11] 10 (.head _) rfl) fun l hl=>(mem5 l hl).elim (fun h=>h▸fun q=>l2FT (Ja4.mp q)) fun h=>dsel nd3 [12,13] [11] rfl l h
 have bb6:ButS [C.B,C.SL,d3.F,C.M.ST,d3.FT] σ3 (upd σ5 d3.FT (.list ((d3.s.2.set 0 (some [1,1])).map optVec))):=((Ext.buts x1).trans (kpB nd3 [10] [0,1,10,5,11] b5 rfl)).trans (kpB nd3 [11] [0,1,10,5,11] b6 rfl)
 revert b6 ft6 w6 bb6
 refine gen (upd σ5 d3.FT (.list ((d3.s.2.set 0 (some [1,1])).map optVec))) ?_
 intro σ6
 intros
 have bag6:σ6 C.B=some (rowC d3.b):=kp nd3 [11] b6 0 (.head _) rfl (kp nd3 [10] b5 0 (.head _) rfl j4.bag)
 have st6:σ6 C.M.ST=some (vecsC d3.s.1):=kp nd3 [11] b6 5 (.head _) rfl (kp nd3 [10] b5 5 (.head _) rfl j4.st)
 have hsh2:shp (d3.s.2.set 0 (some [1,1]))=shp d3.s.2:=shp_set hr03 (by rw [hr0l];rfl)
 have j6:=j3.reset (b':=d3.b) (s':=(d3.s.1,d3.s.2.set 0 (some [1,1]))) ⟨j3.wok.h1,j3.wok.h2.set _ (rok_c (by decide) (by decide)),j3.wok.hn,by dsimp only;rw [List.length_set];exact j3.wok.hf⟩ rfl hsh2 bb6 ⟨w6,bag6,j3.bok⟩ nd5 (fun l hl=>by
  rcases mem5 l hl with h | h
  ·exact .inr (by rw [h];exact hl2)
  ·exact .inl h) st6 ft6
 exact q σ6 _ _ j6 hsh2
theorem J.four (j:J C Z σ d) {left:Int} {m:List (Nat×V)} {Q:SPost} (E:EnvL C left m) (hsh:shp d.s.2=fshape task0)
  (q:∀ σ' s' sl' fl',J C Z σ' { d with s:=s',sl:=sl',fl:=fl' }→shp s'.2=shp d.s.2→Q .next m σ') :
  wpSs (wpS Γ k [] 7) [.setI (.var 150) (.int 3) (.list [(.int 1),(.int 0),(.int 1)]),.setI (.var 158) (.int 3) (.tup [(.int 3),(.int 5),(.int 0)]),.setI (.item (.var 77) (.neg (.int 1))) (.int 0) (.list [(.int 1),(.int 1)]),.setI (.attr (.var 165) 76) (.int 0) (.tup [(.int 2),(.int 3),(.int 0)])] m σ Q:=by
 have nd:=j.gnd
 refine gabs fun gG gK=>?_
 have hlen:=j.fx.len
 have hs3:3<d.s.1.length:=by rw [j.wlen];lia
 have hsl:=j.w.slen
 have hw3:(wid d.s.1)[3]?=some 3:=by rw [j.ws];exact j.fx.w3
 obtain ⟨r3,hr3,hr3l⟩:=wid_some hw3
 have hf0:(shp d.s.2)[0]?=some (some 2):=by rw [hsh];rfl
 obtain ⟨r0,hr0,hr0l⟩:=shp_some hf0
 refine gK ?_
 have ok1:Rok [1,0,1]:=rok_c (by decide) (by decide)
 intro l1 hl1
 have l1S:l1≠C.SL:=Ne.symm (live_ne j.w.sg.at_ hl1)
 have l1ST:l1≠C.M.ST:=Ne.symm (live_ne j.st hl1)
 have x1:Ext σ (upd σ l1 (rowC [1,0,1])):=(Ext.refl _).upd hl1 _
 have el1:upd σ l1 (rowC [1,0,1]) l1=some (rowC [1,0,1]):=upd_self ..
 have hl1r:l1∉rls d.sl d.fl:=fun h=>j.fresh hl1 (inD C d [12,13] _ h) rfl
 conv=>whnf
 rw [E.k150]
 conv=>whnf
 have j1:=j.ext x1
 show setIV _ _ _ (upd σ l1 (rowC [1,0,1])) _
 revert x1 el1 j1
 refine gen (upd σ l1 (rowC [1,0,1])) ?_
 intro σ1
 intros
 refine setI_l j1.w.sg.at_ (by decide) (by simp;lia) (by decide) ?_
 have eset:((d.sl.map some).map optV).set ((3:Int)).toNat (.loc l1)=(((d.sl.set 3 l1).map some)).map optV:=by rw [Je0,Je0];rfl
 rw [eset]
 have w2:=j1.w.putS (j:=3) (by lia) el1 (nig nd [12,13] 1 (.head _) rfl) l1S (nine nd 10 1 (.head _) (.head _) rfl)
 obtain ⟨nd2,mem2⟩:=rls_putS (j:=3) (by lia:3<d.sl.length) (nd_sel nd [12,13] rfl) hl1r
 have b2:ButS [C.SL] σ1 (upd σ1 C.SL (.list (((d.sl.set 3 l1).map some).map optV))):=(ButS.refl _ _).set _ (.inl (.head _))
 revert w2 b2
 refine gen (upd σ1 C.SL (.list (((d.sl.set 3 l1).map some).map optV))) ?_
 intro σ2
 intros
 conv=>whnf
 rw [E.k158]
 refine setI_l (kp nd [1] b2 5 (.head _) rfl j1.st) (by decide) (by rw [Ja2];exact Jc1.mpr hs3) (by decide) ?_
 have est:(Cell.list ((d.s.1.map vecOf).set ((3:Int)).toNat (.tup [.int 3,.int 5,.int 0])))=vecsC (d.s.1.set 3 [1,0,1]):=by rw [vecsC,Je0];rfl
 rw [est]
 have b3:ButS [C.M.ST] σ2 (upd σ2 C.M.ST (vecsC (d.s.1.set 3 [1,0,1]))):=(ButS.refl _ _).set _ (.inl (.head _))
 have st3:upd σ2 C.M.ST (vecsC (d.s.1.set 3 [1,0,1])) C.M.ST=some (vecsC (d.s.1.set 3 [1,0,1])):=upd_self ..
 have w3:LW (upd σ2 C.M.ST (vecsC (d.s.1.set 3 [1,0,1]))) C.SL (d.sl.set 3 l1) d.F d.fl (d.s.1.set 3 [1,0,1],d.s.2):=w2.but b3 (nig nd [5] 1 (.head _) rfl) (nig nd [5] 10 (.head _) rfl) fun l hl=>(mem2 l hl).elim (fun h=>h▸fun q=>l1ST (Ja4.mp q)) fun h=>dsel nd [12,13] [5] rfl l h
 have bb3:ButS [C.B,C.SL,d.F,C.M.ST,d.FT] σ1 (upd σ2 C.M.ST (vecsC (d.s.1.set 3 [1,0,1]))):=(kpB nd [1] [0,1,10,5,11] b2 rfl).trans (kpB nd [5] [0,1,10,5,11] b3 rfl)
 revert w3 st3 b3 bb3
 refine gen (upd σ2 C.M.ST (vecsC (d.s.1.set 3 [1,0,1]))) ?_
 intro σ3
 intros
 have bag3:σ3 C.B=some (rowC d.b):=kp nd [5] b3 0 (.head _) rfl (kp nd [1] b2 0 (.head _) rfl j1.bag)
 have ft3:σ3 d.FT=some (.list (d.s.2.map optVec)):=kp nd [5] b3 11 (.head _) rfl (kp nd [1] b2 11 (.head _) rfl j1.ft)
 have j3:J C Z σ3 { d with s:=(d.s.1.set 3 [1,0,1],d.s.2),sl:=d.sl.set 3 l1,fl:=d.fl,b:=d.b }:=by
  refine j.reset (b':=d.b) ⟨j.wok.h1.set _ ok1,j.wok.h2,by dsimp only;rw [List.length_set];exact j.wok.hn,j.wok.hf⟩ (wid_set hr3 (by rw [hr3l];rfl)) rfl ((Ext.buts x1).trans bb3) ⟨w3,bag3,j.bok⟩ nd2 (fun l hl=>?_) st3 ft3
  rcases mem2 l hl with h | h
  ·exact .inr (by rw [h];exact hl1)
  ·exact .inl h
 exact j3.four2 E hr0 hr0l fun σ' s' fl' j' h=>q σ' s' _ fl' j' h
end
end
section
section
variable {Γ:Gl} {k:Nat} {σ Z:St} {C:Cn} {d:Dy} {Q:V→St→Prop}
theorem J.setPc (j:J C Z σ d) (pc:Int):J C Z (upd σ C.tp.T (C.tp.cell d.code pc d.FT)) { d with pc:=pc }:=by
 have y:ButS [C.tp.T] σ (upd σ C.tp.T (C.tp.cell d.code pc d.FT)):=(ButS.refl _ _).set _ (.inl (.head _))
 have th:upd σ C.tp.T (C.tp.cell d.code pc d.FT) C.tp.T=some (C.tp.cell d.code pc d.FT):=upd_self ..
 revert y th
 refine gen (upd σ C.tp.T (C.tp.cell d.code pc d.FT)) ?_
 intro σ'
 intros
 have nd:=j.gnd
 have k:=@kp _ nd _ _ [8] y
 exact { fx:=j.fx,z:=j.z.step (y.wider (inD C d [8])),nd:=j.nd,w:=j.w.but y (nig nd [8] 1 (.head _) rfl) (nig nd [8] 10 (.head _) rfl) (dsel nd [12,13] [8] rfl),wok:=j.wok,ws:=j.ws,bag:=k 0 (.head _) rfl j.bag,bok:=j.bok,st:=k 5 (.head _) rfl j.st,th:=th,ft:=k 11 (.head _) rfl j.ft,cp:=k 7 (.head _) rfl j.cp,cpok:=j.cpok,td:=k 6 (.head _) rfl j.td,du:=k 3 (.head _) rfl j.du,fs:=k 2 (.head _) rfl j.fs,cl:=k 9 (.head _) rfl j.cl,op:=k 4 (.head _) rfl j.op,stk:=j.stk.keep (Ext.refl _) fun l hl c e=>k 14 hl rfl e }
noncomputable def topNum:List Ent→Nat
 | []=>7
 | e::_=>e.t.num
theorem stk_num {stk:List Ent} {sh:List (Option Nat)} {code:Nat} (h:Stk C Z σ stk sh code):CodeAt Z code (topNum stk):=by
 cases stk with
 | nil=>exact h
 | cons e r=>exact h.2.2.1
theorem natsV_row (l:List Nat):Cell.list (natsV l)=rowC (l.map fun (i:Nat)=>(i:Int)):=by
 rw [rowC,natsV,Jh9];rfl
theorem J.fits (L:Lib Γ) (j:J C Z σ d) (hs:d.stk.length≤900) (q:∀ σ',Ext σ σ'→Q (.bool true) σ'):WC Γ (k+2) (.glob 12) [.loc C.tp.T,.loc C.M.ST,.loc C.SL,.loc C.FS,.loc C.OP,.int d.pc] σ Q:=by
 refine gabs fun gG gK=>?_
 obtain ⟨rows,h1,h2,h3⟩:=(stk_num j.stk).ext j.z.sub
 refine gK ?_
 refine spec_fits (k:=k) L j.w j.wok j.st j.th j.ft j.fs j.cl j.op (by simp [opensV,callsV]) (by simp [callsV];lia) h1 h2 ?_ q
 cases hst:d.stk with
 | nil=>exact .inl ⟨rfl,rfl⟩
 | cons e r=>
  refine gabs fun gG gK=>?_
  obtain ⟨eo,_⟩:=leave_J j hst
  obtain ⟨ta,_⟩:=eo.fixed j.fx
  obtain ⟨as,sl,pl,g1,g2,_⟩:=ta.ex
  refine gK ?_
  exact .inr ⟨opensV r,e.tl,.tup [.tup (e.ins.map Ie.v),.tup (e.outs.map Out.v)],.int e.pc,as,by simp [opensV,openV],j.z.sub _ _ g1,g2⟩
end
section
variable {Γ:Gl} {k:Nat} {σ Z:St} {C:Cn} {d:Dy}
seal itemV attrV setAV setIV biV listM methL sliceV iterV inV newV look put
theorem turn_tail (L:Lib Γ) (j:J C Z σ d) (hs:d.stk.length≤900) {left:Int} {m:List (Nat×V)} {Q:SPost} (E:EnvL C left m) (h121:look m 121=some (.int d.pc))
  (q:∀ σ' b' pc',J C Z σ' { d with b:=b',pc:=pc' }→Q .next m σ') :
  wpSs (wpS Γ (k+10) [] 9) [.ifs (.ors [(.cmp .ne (.var 168) (.var 65)),(.not (.call 12 [(.var 165),(.var 158),(.var 150),(.var 77),(.var 114),(.var 121)]))]) [.ret (.bool false)] [],.setA (.var 165) 121 (.call 20 [(.var 42),(.int 9)])] m σ Q:=by
 have td:=j.td
 have du:=j.du
 rw [natsV_row] at td du
 conv=>whnf
 rw [E.k168]
 conv=>whnf
 rw [E.k65]
 refine ⟨_,_,td,du,isD_ints _,isD_ints _,?_⟩
 rw [veqs_ints,decide_eq_true rfl]
 refine .f rfl ?_
 conv=>whnf
 rw [E.k165]
 conv=>whnf
 rw [E.k158]
 conv=>whnf
 rw [E.k150]
 conv=>whnf
 rw [E.k77]
 conv=>whnf
 rw [E.k114]
 conv=>whnf
 rw [h121]
 refine (j.fits (k:=0) L hs fun σ1 x1=>?_).more (by lia)
 refine .f rfl ?_
 refine .f rfl ?_
 conv=>whnf
 rw [E.k42]
 conv=>whnf
 have j1:=j.ext x1
 refine (j1.pull (k:=0) L (by decide) fun g b' σ2 hg y j2=>?_).more (by lia)
 conv=>whnf
 rw [E.k165]
 refine ⟨rfl,setA_i j2.th (by show 14≤100;decide) ?_⟩
 rw [Tp.p121]
 exact q _ b' g (j2.setPc g)
end
end
section
section
variable {Γ:Gl} {k:Nat} {σ Z:St} {C:Cn} {d:Dy}
theorem tk_get (C:Cn) (g:Nat) (h:g<2):∃ tl t,([V.loc C.tl0,.loc C.tl1]:List V)[((g:Nat):Int).toNat]?=some (.loc tl)∧((tl=C.tl0∧t=task0)∨(tl=C.tl1∧t=C.t1)):=by
 match g,h with
 | 0,_=>exact ⟨C.tl0,task0,rfl,.inl ⟨rfl,rfl⟩⟩
 | 1,_=>exact ⟨C.tl1,C.t1,rfl,.inr ⟨rfl,rfl⟩⟩
 | n+2,h=>lia
noncomputable def ins0:List Ie:=[.sig 3 3,.sig 2 2]
noncomputable def outs0:List Out:=[⟨[⟨false,3,3,.at 0⟩],2⟩,⟨[⟨false,4,0,.at 0⟩],1⟩]
theorem call0:V.tup [firstV,.tup [swapV,keepV]]=.tup [.tup (ins0.map Ie.v),.tup (outs0.map Out.v)]:=rfl
theorem call0_ok (hn:4≤d.s.1.length∧d.s.1.length≤100):CallOk C d C.tl0 task0 ins0 outs0:=by
 refine ⟨.inl ⟨rfl,rfl⟩,fun e he=>?_,rfl,fun o ho=>?_,by decide⟩
 ·simp only [ins0,Jc0,Jc3,or_false] at he
  rcases he with rfl | rfl
  ·exact ⟨by lia,by lia⟩
  ·exact ⟨by lia,by lia⟩
 ·simp only [outs0,Jc0,Jc3,or_false] at ho
  rcases ho with rfl | rfl
  ·refine ⟨by decide,by decide,by decide,fun p hp=>?_⟩
   simp only [Jc0,Jc3,or_false] at hp
   subst hp
   exact ⟨trivial,by decide,(fun h=>by cases h),fun _=>by dsimp only;lia⟩
  ·refine ⟨by decide,by decide,by decide,fun p hp=>?_⟩
   simp only [Jc0,Jc3,or_false] at hp
   subst hp
   exact ⟨trivial,by decide,(fun h=>by cases h),fun _=>by dsimp only;lia⟩
seal itemV attrV setAV setIV biV listM methL sliceV iterV inV newV look put
theorem turn_back2 (L:Lib Γ) (j:J C Z σ d) {e:Ent} {r:List Ent} (hs:d.stk=e::r) (hr:r.length≤900) {left:Int} {m:List (Nat×V)} {Q:SPost} (E:EnvL C left m)
  (q:∀ σ' m',J C Z σ' (d.back e r)→EnvL C left m'→look m' 121=some (.int e.pc)→Q .next m' σ') :
  wpSs (wpS Γ (k+10) [] 8) [.unp [163,46,121] (.meth (.var 114) 125 []),.expr (.call 16 [(.var 163),(.var 46),(.var 150),(.var 77)]),.expr (.call 132 [(.var 85),(.var 165)])] m σ Q:=by
 have hop:=j.op
 rw [hs,show opensV (e::r)=opensV r++[openV e] by simp [opensV]] at hop
 have E2:=((E.put 163 (.loc e.tl) rfl).put 46 (.tup [.tup (e.ins.map Ie.v),.tup (e.outs.map Out.v)]) rfl).put 121 (.int e.pc) rfl
 have f163:look (put (put (put m 163 (.loc e.tl)) 46 (.tup [.tup (e.ins.map Ie.v),.tup (e.outs.map Out.v)])) 121 (.int e.pc)) 163=some (.loc e.tl):=by rw [look_put,if_neg (by decide),look_put,if_neg (by decide),look_put,if_pos rfl]
 have f46:look (put (put (put m 163 (.loc e.tl)) 46 (.tup [.tup (e.ins.map Ie.v),.tup (e.outs.map Out.v)])) 121 (.int e.pc)) 46=some (.tup [.tup (e.ins.map Ie.v),.tup (e.outs.map Out.v)]):=by rw [look_put,if_neg (by decide),look_put,if_pos rfl]
 have f121:look (put (put (put m 163 (.loc e.tl)) 46 (.tup [.tup (e.ins.map Ie.v),.tup (e.outs.map Out.v)])) 121 (.int e.pc)) 121=some (.int e.pc):=by rw [look_put,if_pos rfl]
 conv=>whnf
 rw [E.k114]
 refine meth_l hop ?_
 refine ⟨Ji4 _,?_⟩
 refine pop_l hop (by simp [opensV];lia) ?_
 refine ⟨rfl,?_⟩
 show wpSs (wpS Γ (k+10) [] 8) _ (put (put (put m 163 (.loc e.tl)) 46 (.tup [.tup (e.ins.map Ie.v),.tup (e.outs.map Out.v)])) 121 (.int e.pc)) _ _
 revert E2 f163 f46 f121
 refine gen (put (put (put m 163 (.loc e.tl)) 46 (.tup [.tup (e.ins.map Ie.v),.tup (e.outs.map Out.v)])) 121 (.int e.pc)) ?_
 intro m2
 intros
 conv=>whnf
 rw [f163]
 conv=>whnf
 rw [f46]
 conv=>whnf
 rw [E2.k150]
 conv=>whnf
 rw [E2.k77]
 refine (j.leave (k:=0) L hs hr fun σ2 K2=>?_).more (by lia)
 refine ⟨trivial,?_⟩
 conv=>whnf
 rw [E2.k85]
 conv=>whnf
 rw [E2.k165]
 refine (j.ret (k:=0) L hs hr K2 fun σ3 j3=>?_).more (by lia)
 refine ⟨trivial,?_⟩
 exact q σ3 m2 j3 E2 f121
theorem turn_back (L:Lib Γ) (j:J C Z σ d) {e:Ent} {r:List Ent} (hs:d.stk=e::r) (hr:r.length≤900) {left:Int} {m:List (Nat×V)} {Q:SPost} (E:EnvL C left m) (h2:left=2→shp d.s.2=fshape task0)
  (q:∀ σ' d' m',J C Z σ' d'→d'.stk=r→d'.td=d.td→d'.es=d.es→EnvL C left m'→look m' 121=some (.int d'.pc)→Q .next m' σ') :
  wpSs (wpS Γ (k+10) [] 8) [.ifs (.cmp .eq (.var 98) (.int 2)) [.setI (.var 150) (.int 3) (.list [(.int 1),(.int 0),(.int 1)]),.setI (.var 158) (.int 3) (.tup [(.int 3),(.int 5),(.int 0)]),.setI (.item (.var 77) (.neg (.int 1))) (.int 0) (.list [(.int 1),(.int 1)]),.setI (.attr (.var 165) 76) (.int 0) (.tup [(.int 2),(.int 3),(.int 0)])] [],
   .unp [163,46,121] (.meth (.var 114) 125 []),.expr (.call 16 [(.var 163),(.var 46),(.var 150),(.var 77)]),.expr (.call 132 [(.var 85),(.var 165)])] m σ Q:=by
 conv=>whnf
 rw [E.k98]
 refine ifB_intro (fun h=>?_) (fun h=>?_)
 ·have h:left=2:=by simpa [cmpI] using h
  refine j.four E (h2 h) fun σ' s' sl' fl' j' _=>?_
  exact turn_back2 L j' hs hr E fun σ3 m' j3 E3 f=>q σ3 _ m' j3 rfl rfl rfl E3 f
 ·refine wpSs_nil (fr:=[]) ?_
  exact turn_back2 L j hs hr E fun σ3 m' j3 E3 f=>q σ3 _ m' j3 rfl rfl rfl E3 f
end
end
section
section
variable {Γ:Gl} {k:Nat} {σ Z:St} {C:Cn} {d:Dy}
theorem CallOk.setBag {tl:Nat} {t:Task} {ins:List Ie} {outs:List Out} {b':List Int} (h:CallOk C d tl t ins outs):CallOk C { d with b:=b' } tl t ins outs:=⟨h.task,h.oki,h.n,h.oko,h.few⟩
seal itemV attrV setAV setIV biV listM methL sliceV iterV inV newV look put
theorem turn_call2 (L:Lib Γ) (j:J C Z σ d) {tl:Nat} {t:Task} {ins:List Ie} {outs:List Out} (ok:CallOk C d tl t ins outs) (hr:d.stk.length≤900) (htd:d.td.length≤2000) (hes:d.es.length≤50) {left:Int} {m:List (Nat×V)} {Q:SPost} (E:EnvL C left m) (f163:look m 163=some (.loc tl)) (f46:look m 46=some (.tup [.tup (ins.map Ie.v),.tup (outs.map Out.v)]))
  (q:∀ Z' σ' d' m',J C Z' σ' d'→d'.stk=d.ent tl t ins outs::d.stk→d'.td.length≤d.td.length+20→d'.es.length≤d.es.length+1→EnvL C left m'→look m' 121=some (.int d'.pc)→Q .next m' σ') :
  wpSs (wpS Γ (k+10) [] 8) [.expr (.meth (.var 114) 37 [(.tup [(.var 163),(.var 46),(.attr (.var 165) 121)])]),
   .asg 121 (.int 0),
   .expr (.call 11 [(.var 163),(.var 46),(.var 150),(.var 77),(.var 65)]),
   .expr (.call 47 [(.var 85),(.var 165),(.attr (.var 163) 112),(.item (.var 46) (.int 0)),(.item (.var 46) (.int 1))])] m σ Q:=by
 refine gabs fun gG gK=>?_
 obtain ⟨ta,tok,_⟩:=ok.fixed j.fx
 obtain ⟨as,slo,pl,g1,g2,_⟩:=ta.ex
 refine gK ?_
 have hfew:=tok.few
 let Jq1:List (Nat×V)→St→Prop:=fun m1 σ1=>m1=m∧σ1=upd σ C.OP (.list (opensV d.stk++[openV (d.ent tl t ins outs)]))
 refine wpSs_join Jq1 (fun Q9 q9=>?_) (fun m1 σ1 h=>?_)
 ·conv=>whnf
  rw [E.k114]
  refine meth_l j.op ?_
  refine ⟨rfl,?_⟩
  conv=>whnf
  rw [f163]
  conv=>whnf
  rw [f46]
  conv=>whnf
  rw [E.k165]
  refine ⟨rfl,attr_i j.th (Tp.l121 ..) ?_⟩
  refine append_l j.op (by simp [opensV];lia) ?_
  exact okZ (q9 _ _ _ ⟨rfl,rfl⟩)
 obtain ⟨rfl,rfl⟩:=h
 have E2:=E.put 121 (.int 0) rfl
 have f1632:look (put m1 121 (.int 0)) 163=some (.loc tl):=by rw [look_put,if_neg (by decide),f163]
 have f462:look (put m1 121 (.int 0)) 46=some (.tup [.tup (ins.map Ie.v),.tup (outs.map Out.v)]):=by rw [look_put,if_neg (by decide),f46]
 have f121:look (put m1 121 (.int 0)) 121=some (.int 0):=by rw [look_put,if_pos rfl]
 let Jq2:List (Nat×V)→St→Prop:=fun m2 σ2=>m2=put m1 121 (.int 0)∧σ2=upd σ C.OP (.list (opensV d.stk++[openV (d.ent tl t ins outs)]))
 refine wpSs_join Jq2 (fun Q9 q9=>q9 _ _ _ ⟨rfl,rfl⟩) (fun m2 σ2 h=>?_)
 obtain ⟨rfl,rfl⟩:=h
 revert E2 f1632 f462 f121
 refine gen (put m1 121 (.int 0)) ?_
 intro m2
 intros
 conv=>whnf
 rw [f1632]
 conv=>whnf
 rw [f462]
 conv=>whnf
 rw [E2.k150]
 conv=>whnf
 rw [E2.k77]
 conv=>whnf
 rw [E2.k65]
 refine (j.enter (k:=0) L hr htd ok fun σ2 FR sl' fl' n=>?_).more (by lia)
 have z2:=j.z.step (n.b.wider (inD C d [4,1,2,3]))
 refine ⟨trivial,?_⟩
 conv=>whnf
 rw [E2.k85]
 conv=>whnf
 rw [E2.k165]
 conv=>whnf
 rw [f1632]
 refine ⟨rfl,attr_i (z2.sub _ _ g1) g2 ?_⟩
 conv=>whnf
 rw [f462]
 refine item_t (by decide) rfl ?_
 conv=>whnf
 rw [f462]
 refine item_t (by decide) rfl ?_
 refine (j.call (k:=k) L hr htd hes ok j.wok.hf n fun Z' σ3 FH CD es' j3 hes'=>?_)
 refine ⟨trivial,?_⟩
 have htd2:(d.td++(d.en t ins).td).length≤d.td.length+20:=by
  have:=enters_td t.ports ⟨ins.map fun e=>e.row d.s.1 d.s.2,frame0 t,d.s.1,[]⟩
  have h2:(d.en t ins).td.length≤0+t.ports.length:=this
  simp;lia
 exact q Z' σ3 _ m2 j3 rfl htd2 hes' E2 f121
theorem turn_call (L:Lib Γ) (j:J C Z σ d) (hr:d.stk.length≤900) (htd:d.td.length≤2000) (hes:d.es.length≤50) {left:Int} {m:List (Nat×V)} {Q:SPost} (E:EnvL C left m)
  (q:∀ Z' σ' d' m',J C Z' σ' d'→(∃ e,d'.stk=e::d.stk∧(left=3→e.t=task0))→d'.td.length≤d.td.length+20→d'.es.length≤d.es.length+1→EnvL C left m'→look m' 121=some (.int d'.pc)→Q .next m' σ') :
  wpSs (wpS Γ (k+10) [] 8) [.asg 163 (.item (.var 164) (.call 20 [(.var 42),(.int 2)])),
   .ifs (.cmp .eq (.var 98) (.int 3)) [.asg 163 (.item (.var 164) (.int 0)),.asg 46 (.tup [(.var 74),(.tup [(.var 159),(.var 93)])])] [.asg 46 (.call 6 [(.var 42),(.var 163),(.var 150),(.item (.var 77) (.neg (.int 1)))])],
   .expr (.meth (.var 114) 37 [(.tup [(.var 163),(.var 46),(.attr (.var 165) 121)])]),
   .asg 121 (.int 0),
   .expr (.call 11 [(.var 163),(.var 46),(.var 150),(.var 77),(.var 65)]),
   .expr (.call 47 [(.var 85),(.var 165),(.attr (.var 163) 112),(.item (.var 46) (.int 0)),(.item (.var 46) (.int 1))])] m σ Q:=by
 have hlen:=j.fx.len
 let Jq3:List (Nat×V)→St→Prop:=fun m1 σ1=>Ex3 fun b' tl t=>And4 (J C Z σ1 { d with b:=b' }) (EnvL C left m1) (look m1 163=some (.loc tl)) ((tl=C.tl0∧t=task0)∨(tl=C.tl1∧t=C.t1))
 refine wpSs_join Jq3 (fun Q9 q9=>?_) (fun m1 σ1 h=>?_)
 ·conv=>whnf
  rw [E.k164]
  conv=>whnf
  rw [E.k42]
  refine (j.pull (k:=0) L (by decide) fun g b' σ1 hg y1 j1=>?_).more (by lia)
  refine gabs fun gG gK=>?_
  obtain ⟨tl,t,ht1,ht2⟩:=tk_get C g (by lia)
  refine gK ?_
  refine item_l (j1.z.sub _ _ j1.fx.tk) (by lia) ht1 ?_ (by lia)
  exact (q9 _ _ _ ⟨b',tl,t,j1,E.put 163 (.loc tl) rfl,by rw [look_put,if_pos rfl],ht2⟩)
 refine gabs fun gG gK=>?_
 obtain ⟨b',tl,t,j1,E2,f163,ht2⟩:=h
 refine gK ?_
 let Jq4:List (Nat×V)→St→Prop:=fun m2 σ2=>Ex5 fun b2 tl t ins outs=>And6 (J C Z σ2 { d with b:=b2 }) (EnvL C left m2) (look m2 163=some (.loc tl)) (look m2 46=some (.tup [.tup (ins.map Ie.v),.tup (outs.map Out.v)])) (CallOk C { d with b:=b2 } tl t ins outs) (left=3→t=task0)
 refine wpSs_join Jq4 (fun Q9 q9=>?_) (fun m2 σ2 h=>?_)
 ·conv=>whnf
  rw [E2.k98]
  refine ifB_intro (fun h=>?_) (fun h=>?_)
  ·have h:left=3:=by simpa [cmpI] using h
   conv=>whnf
   rw [E2.k164]
   refine item_l (r:=.loc C.tl0) (j1.z.sub _ _ j1.fx.tk) (by decide) rfl ?_ (by decide)
   conv=>whnf
   have E3:=E2.put 163 (.loc C.tl0) rfl
   have f1633:look (put m1 163 (.loc C.tl0)) 163=some (.loc C.tl0):=by rw [look_put,if_pos rfl]
   revert E3 f1633
   refine gen (put m1 163 (.loc C.tl0)) ?_
   intro m3
   intros
   rw [E3.k74]
   conv=>whnf
   rw [E3.k159]
   conv=>whnf
   rw [E3.k93]
   exact (q9 _ _ _ ⟨b',C.tl0,task0,ins0,outs0,j1,E3.put 46 _ rfl,by rw [look_put,if_neg (by decide),f1633],by rw [look_put,if_pos rfl,call0],call0_ok (by rw [j1.wlen];exact hlen),fun _=>rfl⟩)
  ·have h:left≠3:=by simpa [cmpI] using h
   have ta:TaskAt Z tl t:=by
    rcases ht2 with ⟨h1,h2⟩ | ⟨h1,h2⟩
    ·rw [h1,h2];exact j1.fx.ta0
    ·rw [h1,h2];exact j1.fx.ta1
   have tok:TaskOk C.ws t:=by
    rcases ht2 with ⟨h1,h2⟩ | ⟨h1,h2⟩
    ·rw [h2];exact j1.fx.ok0
    ·rw [h2];exact j1.fx.ok1
   have hfew:=tok.few
   conv=>whnf
   rw [E2.k42]
   conv=>whnf
   rw [f163]
   conv=>whnf
   rw [E2.k150]
   conv=>whnf
   rw [E2.k77]
   refine item_last (r:=.loc d.F) j1.fs ?_
   refine (spec_call (k:=0) (t:=t) L j1.bn j1.bg j1.wok (ta.ext j1.z.sub) (fun {l c} e q=>by subst q;rw [j1.z.out _ (.head _)] at e;cases e) j1.z.sub ta (by lia) fun σ2 ins outs b2 h1 h2 h3 h4 y2 G2=>?_).more (by lia)
   have j2:=j1.setBag y2 G2
   exact (q9 _ _ _ ⟨b2,tl,t,ins,outs,j2,E2.put 46 _ rfl,by rw [look_put,if_neg (by decide),f163],by rw [look_put,if_pos rfl],⟨ht2,h1,h2,h3,h4⟩,fun h'=>absurd h' h⟩)
 refine gabs fun gG gK=>?_
 obtain ⟨b2,tl,t,ins,outs,j2,E4,f1,f2,ok,h3⟩:=h
 refine gK ?_
 exact turn_call2 L j2 ok hr htd hes E4 f1 f2 fun Z' σ' d' m' j' hst h5 h6 E5 f=>q Z' σ' d' m' j' ⟨_,hst,h3⟩ h5 h6 E5 f
end
end
section
structure Inv (left:Int) (d:Dy):Prop where
 n:∃ n:Nat,n+left.toNat≤4∧d.stk.length≤n∧d.td.length≤20 * n∧d.es.length≤n
 h4:left=4→d.stk=[]
 h3:left=3→∃ e,d.stk=[e]∧e.t=task0
 le:left≤4
theorem Inv.few {left:Int} {d:Dy} (I:Inv left d):d.stk.length≤4∧d.td.length≤80∧d.es.length≤4:=by
 obtain ⟨n,h1,h2,h3,h4⟩:=I.n
 have hn:n≤4:=Ja1 (Jc6 _ _) h1
 exact ⟨Ja1 h2 hn,Ja1 h3 (Nat.mul_le_mul_left 20 hn),Ja1 h4 hn⟩
theorem op_len (d:Dy):(opensV d.stk).length=d.stk.length:=by simp [opensV]
theorem Inv.op {left:Int} {d:Dy} (I:Inv left d):(opensV d.stk).length≤10000:=op_len d▸Ja1 I.few.1 (Ja0 rfl)
theorem stk_ne {d:Dy} (e:cmpI .gt ((opensV d.stk).length:Int) 0=true):d.stk≠[]:=fun q=>by
 rw [op_len,q] at e;cases e
theorem stk_nil {d:Dy} (e:cmpI .gt ((opensV d.stk).length:Int) 0=false):d.stk=[]:=by
 rw [op_len] at e
 cases q:d.stk with
 | nil=>rfl
 | cons b r=>rw [q] at e;exact absurd (Jc1.mpr (Ji0 r.length)) (of_decide_eq_false e)
theorem tle (left:Int):(left - 1).toNat≤left.toNat:=Int.toNat_le_toNat (Int.sub_le_self left (by decide))
theorem tsucc {left:Int} (h:0≤left - 1):left.toNat=(left - 1).toNat+1:=(congrArg Int.toNat (Int.sub_add_cancel left 1)).symm.trans (Int.toNat_add h (by decide))
theorem lt1 (left:Int):left - 1<left:=Int.sub_lt_self left (by decide)
theorem not4 {left:Int} {P:Prop} (h:left≤4) (e:left - 1=4):P:=absurd (Int.lt_of_lt_of_le (lt1 left) h) (e▸Int.lt_irrefl 4)
theorem is4 {left:Int} (e:left - 1=3):left=4:=Int.sub_eq_iff_eq_add.mp e
theorem Inv.back {left:Int} {d d':Dy} {e:Ent} {r:List Ent} (I:Inv left d) (hs:d.stk=e::r) (p1:d'.stk=r) (p2:d'.td=d.td) (p3:d'.es=d.es):Inv (left - 1) d':=by
 obtain ⟨n,h1,h2,h3,h4⟩:=I.n
 rw [hs] at h2
 exact ⟨⟨n,Ja1 (Je4 (tle left) n) h1,p1▸Nat.le_of_succ_le h2,p2▸h3,p3▸h4⟩,not4 I.le,(fun h=>(by have h:=hs.symm.trans (I.h4 (is4 h));cases h)),Int.le_trans (Int.le_of_lt (lt1 left)) I.le⟩
theorem Inv.call {left:Int} {d d':Dy} {e:Ent} (I:Inv left d) (hl:0≤left - 1) (p1:d'.stk=e::d.stk) (p2:d'.td.length≤d.td.length+20) (p3:d'.es.length≤d.es.length+1) (p6:left - 1=3→e.t=task0):Inv (left - 1) d':=by
 obtain ⟨n,h1,h2,h3,h4⟩:=I.n
 refine ⟨⟨n+1,?_,p1▸Je9 h2,Ja1 p2 (Jh0 h3 20),Ja1 p3 (Je9 h4)⟩,not4 I.le,fun h=>⟨e,I.h4 (is4 h)▸p1,p6 h⟩,Int.le_trans (Int.le_of_lt (lt1 left)) I.le⟩
 rw [tsucc hl] at h1
 exact Ja1 (Je5 (Jf4 n _)) h1
theorem mu_back {left:Int} {d d':Dy} {e:Ent} {r:List Ent} (hs:d.stk=e::r) (p1:d'.stk=r):2 * (left - 1).toNat+d'.stk.length<2 * left.toNat+d.stk.length:=by
 rw [hs,p1]
 exact Nat.add_lt_add_of_le_of_lt (Nat.mul_le_mul_left 2 (tle left)) (Jh4 _)
theorem mu_call {left:Int} {d d':Dy} {e:Ent} (hl:0≤left - 1) (p1:d'.stk=e::d.stk):2 * (left - 1).toNat+d'.stk.length<2 * left.toNat+d.stk.length:=by
 rw [p1,tsucc hl]
 exact Nat.lt_of_lt_of_eq (Nat.add_lt_add_left (Nat.add_lt_add_left (Jh4 1) d.stk.length) (2 * (left - 1).toNat)) ((Nat.add_assoc ..).symm.trans (Nat.add_right_comm (2 * (left - 1).toNat) d.stk.length 2))
theorem Inv.rest {left:Int} {d:Dy} {e:Ent} {r:List Ent} (I:Inv left d) (hs:d.stk=e::r):r.length≤900:=by
 have:=I.few.1
 rw [hs] at this
 exact Ja1 (Nat.le_of_succ_le this) (Ja0 rfl)
theorem hl_of {left:Int} {d:Dy} (go:0<left∨d.stk≠[]) (h:d.stk=[]∨(left - 1≠2∧0≤left - 1)):0≤left - 1:=
 h.elim (fun h'=>go.elim (fun g=>Int.sub_nonneg_of_le (Int.add_one_le_of_lt g)) fun g=>absurd h' g) (·.2)
noncomputable def backB:List S:=[.ifs (.cmp .eq (.var 98) (.int 2)) [.setI (.var 150) (.int 3) (.list [(.int 1),(.int 0),(.int 1)]),.setI (.var 158) (.int 3) (.tup [(.int 3),(.int 5),(.int 0)]),.setI (.item (.var 77) (.neg (.int 1))) (.int 0) (.list [(.int 1),(.int 1)]),.setI (.attr (.var 165) 76) (.int 0) (.tup [(.int 2),(.int 3),(.int 0)])] [],
   .unp [163,46,121] (.meth (.var 114) 125 []),.expr (.call 16 [(.var 163),(.var 46),(.var 150),(.var 77)]),.expr (.call 132 [(.var 85),(.var 165)])]
noncomputable def callB:List S:=[.asg 163 (.item (.var 164) (.call 20 [(.var 42),(.int 2)])),
   .ifs (.cmp .eq (.var 98) (.int 3)) [.asg 163 (.item (.var 164) (.int 0)),.asg 46 (.tup [(.var 74),(.tup [(.var 159),(.var 93)])])] [.asg 46 (.call 6 [(.var 42),(.var 163),(.var 150),(.item (.var 77) (.neg (.int 1)))])],
   .expr (.meth (.var 114) 37 [(.tup [(.var 163),(.var 46),(.attr (.var 165) 121)])]),
   .asg 121 (.int 0),
   .expr (.call 11 [(.var 163),(.var 46),(.var 150),(.var 77),(.var 65)]),
   .expr (.call 47 [(.var 85),(.var 165),(.attr (.var 163) 112),(.item (.var 46) (.int 0)),(.item (.var 46) (.int 1))])]
noncomputable def turnB:List S:=[.aug 98 .Sub (.int 1),
  .asg 41 (.ands [(.cmp .gt (.bi 199 [(.var 114)]) (.int 0)),(.ors [(.cmp .eq (.var 98) (.int 2)),(.cmp .lt (.var 98) (.int 0)),(.cmp .eq (.call 20 [(.var 42),(.int 2)]) (.int 0))])]),
  .expr (.call 19 [(.var 42),(.var 150),(.item (.var 77) (.neg (.int 1))),(.var 158),(.var 165)]),
  .ifs (.var 41) backB callB,
  .ifs (.ors [(.cmp .ne (.var 168) (.var 65)),(.not (.call 12 [(.var 165),(.var 158),(.var 150),(.var 77),(.var 114),(.var 121)]))]) [.ret (.bool false)] [],
  .setA (.var 165) 121 (.call 20 [(.var 42),(.int 9)])]
section
variable {Γ:Gl} {k:Nat} {σ Z:St} {C:Cn} {d:Dy}
seal itemV attrV setAV setIV biV listM methL sliceV iterV inV newV look put
theorem turn (L:Lib Γ) (j:J C Z σ d) {left:Int} {m:List (Nat×V)} {Q:SPost} (E:EnvL C left m) (I:Inv left d) (go:0<left∨d.stk≠[])
  (q:∀ Z' σ' d' m',J C Z' σ' d'→EnvL C (left - 1) m'→Inv (left - 1) d'→2 * (left - 1).toNat+d'.stk.length<2 * left.toNat+d.stk.length→Q .next m' σ') :
  wpSs (wpS Γ (k+10) [] 9) turnB m σ Q:=by
 let Jq1:List (Nat×V)→St→Prop:=fun m1 σ1=>EnvL C (left - 1) m1∧σ1=σ
 refine wpSs_join Jq1 (fun Q9 q9=>?_) (fun m1 σ1 h=>?_)
 ·conv=>whnf
  rw [E.k98]
  refine ⟨rfl,?_⟩
  exact (q9 _ _ _ ⟨E.put98,rfl⟩)
 obtain ⟨E1,rfl⟩:=h
 let Jq2:List (Nat×V)→St→Prop:=fun m2 σ2=>Ex2 fun b' bk=>And5 (J C Z σ2 { d with b:=b' }) (EnvL C (left - 1) m2) (look m2 41=some (.bool bk)) (bk=true→d.stk≠[]) (bk=false→d.stk=[]∨(left - 1≠2∧0≤left - 1))
 refine wpSs_join Jq2 (fun Q9 q9=>?_) (fun m2 σ2 h=>?_)
 ·have fin:∀ (σ2:St) b' bk,J C Z σ2 { d with b:=b' }→(bk=true→d.stk≠[])→(bk=false→d.stk=[]∨(left - 1≠2∧0≤left - 1))→Jq2 (put m1 41 (.bool bk)) σ2:=
   fun σ2 b' bk j' h1 h2=>⟨b',bk,j',E1.put 41 _ rfl,by rw [look_put,if_pos rfl],h1,h2⟩
  conv=>whnf
  rw [E1.k114]
  refine len_l j.op I.op ?_
  refine ifB_intro (fun h=>?_) (fun h=>?_)
  ·conv=>whnf
   rw [E1.k98]
   refine ifB_intro (fun h2=>?_) (fun h2=>?_)
   ·refine .t rfl ?_
    exact q9 _ _ _ <| fin σ1 d.b true j (fun _=>stk_ne h) (fun q=>(by cases q))
   ·conv=>whnf
    rw [E1.k98]
    refine ifB_intro (fun h3=>?_) (fun h3=>?_)
    ·refine .t rfl ?_
     exact q9 _ _ _ <| fin σ1 d.b true j (fun _=>stk_ne h) (fun q=>(by cases q))
    ·conv=>whnf
     rw [E1.k42]
     refine (j.pull (k:=0) L (by decide) fun g b' σ2 hg y1 j1=>?_).more (by lia)
     refine ifB_intro (fun h4=>?_) (fun h4=>?_)
     ·refine .t rfl ?_
      exact q9 _ _ _ <| fin σ2 b' true j1 (fun _=>stk_ne h) (fun q=>(by cases q))
     ·refine .f rfl ?_
      exact q9 _ _ _ <| fin σ2 b' false j1 (fun q=>(by cases q)) (fun _=>.inr ⟨of_decide_eq_false h2,Int.not_lt.mp (of_decide_eq_false h3)⟩)
  ·exact q9 _ _ _ <| fin σ1 d.b false j (fun q=>(by cases q)) (fun _=>.inl (stk_nil h))
 refine gabs fun gG gK=>?_
 obtain ⟨b',bk,j1,E2,f41,hb1,hb2⟩:=h
 refine gK ?_
 let Jq3:List (Nat×V)→St→Prop:=fun m3 σ3=>m3=m2∧Ex4 fun s' sl' fl' b'=>J C Z σ3 { d with s:=s',sl:=sl',fl:=fl',b:=b' }∧shp s'.2=shp d.s.2
 refine wpSs_join Jq3 (fun Q9 q9=>?_) (fun m3 σ3 h=>?_)
 ·conv=>whnf
  rw [E2.k42]
  conv=>whnf
  rw [E2.k150]
  conv=>whnf
  rw [E2.k77]
  refine item_last (r:=.loc d.F) j1.fs ?_
  conv=>whnf
  rw [E2.k158]
  conv=>whnf
  rw [E2.k165]
  refine (j1.poke (k:=0) L fun σ' s' sl' fl' b' j2 hs=>?_).more (by lia)
  exact okZ (q9 _ _ _ ⟨rfl,s',sl',fl',b',j2,hs⟩)
 obtain ⟨rfl,s',sl',fl',b3,j2,hshp⟩:=h
 obtain ⟨d2,j2,e1,e2,e3,e4⟩:∃ d2:Dy,J C Z σ3 d2∧d2.stk=d.stk∧d2.td=d.td∧d2.es=d.es∧shp d2.s.2=shp d.s.2:=⟨_,j2,rfl,rfl,rfl,hshp⟩
 let Jq4:List (Nat×V)→St→Prop:=fun m4 σ4=>Ex2 fun Z' d'=>And5 (J C Z' σ4 d') (EnvL C (left - 1) m4) (look m4 121=some (.int d'.pc)) (Inv (left - 1) d') (2 * (left - 1).toNat+d'.stk.length<2 * left.toNat+d.stk.length)
 refine wpSs_join Jq4 (fun Q9 q9=>?_) (fun m4 σ4 h=>?_)
 ·conv=>whnf
  rw [f41]
  refine ifB_intro (fun h=>?_) (fun h=>?_)
  ·refine gabs fun gG gK=>?_
   obtain ⟨e,r,hs⟩:∃ e r,d.stk=e::r:=by
    cases q:d.stk with
    | nil=>exact absurd q (hb1 h)
    | cons e r=>exact ⟨e,r,rfl⟩
   refine gK ?_
   refine turn_back L j2 (e1.trans hs) (I.rest hs) E2 (fun h2=>?_) fun σ' d' m' j' p1 p2 p3 p4 p5=>?_
   ·refine gabs fun gG gK=>?_
    obtain ⟨e',he,ht⟩:=I.h3 (Int.sub_eq_iff_eq_add.mp h2)
    refine gK ?_
    rw [hs] at he
    cases he
    have:=j2.stk
    rw [e1,hs] at this
    rw [this.2.1,ht]
   ·exact q9 _ _ _ ⟨Z,d',j',p4,p5,I.back hs p1 (p2.trans e2) (p3.trans e3),mu_back hs p1⟩
  ·have hl:0≤left - 1:=hl_of go (hb2 h)
   refine turn_call L j2 (e1▸Ja1 I.few.1 (Ja0 rfl)) (e2▸Ja1 I.few.2.1 (Ja0 rfl)) (e3▸Ja1 I.few.2.2 (Ja0 rfl)) E2 fun Z' σ' d' m' j' p1 p2 p3 p4 p5=>?_
   refine gabs fun gG gK=>?_
   obtain ⟨e,p1,p6⟩:=p1
   refine gK ?_
   have p1:=e1▸p1
   exact q9 _ _ _ ⟨Z',d',j',p4,p5,I.call hl p1 (e2▸p2) (e3▸p3) p6,mu_call hl p1⟩
 refine gabs fun gG gK=>?_
 obtain ⟨Z',d',j',E4,f121,I',hmu⟩:=h
 refine gK ?_
 refine turn_tail L j' (Ja1 I'.few.1 (Ja0 rfl)) E4 f121 fun σ' b' pc' j''=>?_
 exact q Z' σ' _ m4 j'' E4 ⟨I'.n,I'.h4,I'.h3,I'.le⟩ hmu
noncomputable def loopC:Ex:=.ors [(.cmp .gt (.var 98) (.int 0)),(.cmp .gt (.bi 199 [(.var 114)]) (.int 0))]
theorem law_step (L:Lib Γ) {Q:SPost} (hq:∀ m σ,Ext C.Zk σ→Q .next m σ) {μ:Nat} {Z σ:St} {d:Dy} {left:Int} {m:List (Nat×V)} (j:J C Z σ d) (E:EnvL C left m) (I:Inv left d)
  (ih:∀ Z σ d' left' m,J C Z σ d'→EnvL C left' m→Inv left' d'→2 * left'.toNat+d'.stk.length<2 * left.toNat+d.stk.length→wpWh (evT (wpE Γ (k+10) [] 60) loopC) (wpSs (wpS Γ (k+10) [] 9) turnB) μ m σ Q) :
  wpWh (evT (wpE Γ (k+10) [] 60) loopC) (wpSs (wpS Γ (k+10) [] 9) turnB) (μ+1) m σ Q:=by
 have step:(0<left∨d.stk≠[])→wpSs (wpS Γ (k+10) [] 9) turnB m σ (forQ (wpWh (evT (wpE Γ (k+10) [] 60) loopC) (wpSs (wpS Γ (k+10) [] 9) turnB) μ) Q):=fun go=>
  turn L j E I go fun Z' σ' d' m' j' E' I' hmu=>⟨_,SubE.refl _,ih Z' σ' d' _ m' j' E' I' hmu⟩
 conv=>whnf
 rw [E.k98]
 refine ifB_intro (fun h=>?_) (fun h=>?_)
 ·exact .t rfl (step (.inl (of_decide_eq_true h)))
 ·conv=>whnf
  rw [E.k114]
  refine len_l j.op I.op ?_
  refine ifB_intro (fun h2=>?_) (fun h2=>?_)
  ·exact .t rfl (step (.inr (stk_ne h2)))
  ·exact .f rfl (hq m σ (j.fx.zk.trans j.z.sub))
theorem law_loop (L:Lib Γ) {Q:SPost} (hq:∀ m σ,Ext C.Zk σ→Q .next m σ):∀ (μ:Nat) {Z σ:St} {d:Dy} {left:Int} {m:List (Nat×V)},J C Z σ d→EnvL C left m→Inv left d→2 * left.toNat+d.stk.length≤μ→
  wpWh (evT (wpE Γ (k+10) [] 60) loopC) (wpSs (wpS Γ (k+10) [] 9) turnB) (μ+1) m σ Q
 | 0,_,_,_,_,_,j,E,I,h=>law_step L hq j E I fun _ _ _ _ _ _ _ _ h2=>absurd (Jc8 h2 h) (Nat.not_lt_zero _)
 | μ+1,_,_,_,_,_,j,E,I,h=>law_step L hq j E I fun _ _ _ _ _ j' E' I' h2=>law_loop L hq μ j' E' I' (Jg6 (Jc8 h2 h))
end
end
section
structure NF where
 (name qual:Str)
 params:Arguments
 body:List Stmt
 scope:Scope
 pos:Pos
noncomputable def NF.st (f:NF):Stmt:=.FunctionDef f.name f.params f.body [] none [] f.scope none f.name f.pos
structure HostG (Γ:Gl) (nfs:List NF) (cH P:Addr):Prop where
 fn:∀ (k:Nat) (nf:NF),nfs[k]?=some nf→∀ cs d doc pm ctv,(∀ z,nf.scope.names.lookup z=some .free→∃ c,cs.lookup z=some c)→Γ.fnObj k cs d (fnMade nf.name nf.qual nf.params nf.body nf.scope cs doc pm d ctv)
 code:∀ (k:Nat) (nf:NF),nfs[k]?=some nf→∀ (od:Obj) vs t,od.data=.fields vs→vs[1]?=some (.str nf.qual t)→Γ.codeObj k od
 chd:CodeHd Γ.h₀ cH P
 P0:Γ.h₀.get? P=none
 bm:∃ bm ob,Γ.mg "__builtins__" = some (.ref bm)∧bm≠builtinsNs∧Γ.h₀.get? bm=some ob∧ob.cls=.type "module"∧ob.dict=some builtinsNs∧ob.data=.plain
section
variable {Γ:Gl} {env:Env} {own:List Addr} {fr:Frees} {m:List (Nat×V)} {ρ:List Slot} {σ:St} {s:Shared} {A:Around} {E:Value→Shared→Prop} {nfs:List NF} {cH P:Addr} {h h2:Heap}
theorem closure_nest {scope:Scope} (F:FrR Γ env own fr ρ m h) (hfree:∀ y∈scope.names,y.2=.free→∃ j,y.1=sy j∧env.kindOf (sy j)=some .cell):∃ cl,closureFor scope env=pure cl∧∀ z,scope.names.lookup z=some .free→cl.lookup z=env.cells.lookup z:=by
 refine gabs fun gG gK=>?_
 obtain ⟨cl,e1,e2,e3,_⟩:=clos_go env (f:=fun x r=>if (x.2 == NameKind.free)=true then cellOf env x.1 >>= fun a=>pure (.yield ((x.1,a)::r)) else pure (.yield r)) (fun _ _ _=>rfl) scope.names [] (fun y hy hf=>by
  obtain ⟨j,ej,h4⟩:=hfree y hy hf
  rw [ej]
  exact F.ccell j h4) (fun z c hz=>by simp at hz)
 refine gK ?_
 refine ⟨cl,?_,fun z hz=>?_⟩
 ·unfold closureFor
  rw [← bind_pure (pure cl:Sem _),← e1]
 ·have:=e3 z (lookup_mem hz)
  cases q:cl.lookup z with
  | none=>rw [q] at this;cases this
  | some c=>exact (e2 z c q).symm
theorem Rel.nest {TB:Nat} {sl:Slot} {c:Cell} (R:Rel Γ ρ σ h) (hTB:ρ[TB]?=some (.one P)) (hany:σ TB=some .any) (k:∀ b o,b≠P→h.get? b=some o→h2.get? b=some o) (hP:∃ ps,h2.get? P=some (tabObj ps)) (hP1:∃ ps,h.get? P=some (tabObj ps))
  (hn:∀ a∈sl.addrs,h.get? a=none∧∃ o,h2.get? a=some o∧NT o) (nd:sl.addrs.Nodup) (hc:CellAt Γ h2 (ρ++[sl]) sl c):Rel Γ (ρ++[sl]) (upd σ ρ.length c) h2∧Grow h ρ h2 (ρ++[sl])∧∀ a∈foot (ρ++[sl]),a∈foot ρ∨h.get? a=none:=by
 have hPf:P∈foot ρ:=mem_foot (Ja9 hTB) (by simp [Slot.addrs])
 have hm:∀ a∈foot (ρ++[sl]),a∈foot ρ∨a∈sl.addrs:=fun a ha=>by rw [foot_append] at ha;simpa [foot] using ha
 have g:Grow h ρ h2 (ρ++[sl]):=⟨⟨[sl],rfl⟩,fun a its n e nf=>⟨k _ _ (fun q=>nf (q▸hPf)) e,fun q=>by
  rcases hm a q with q | q
  ·exact nf q
  ·rw [(hn a q).1] at e;cases e⟩⟩
 have nw:∀ a∈foot (ρ++[sl]),a∈foot ρ∨h.get? a=none:=fun a ha=>by
  rcases hm a ha with q | q
  ·exact .inl q
  ·exact .inr (hn a q).1
 refine ⟨⟨fun b o e=>k _ _ (fun q=>by have:=R.old P hPf;rw [← q,e] at this;cases this) (R.base b o e),?_,fun a ha=>?_,fun a ha=>?_,fun i c' hi=>?_,fun i c' sl' hi hsl=>?_⟩,g,nw⟩
 ·rw [foot_append,Jc2]
  refine ⟨R.nd,by simpa [foot] using nd,fun a ha b hb=>?_⟩
  have hb:b∈sl.addrs:=by simpa [foot] using hb
  rintro rfl
  refine gabs fun gG gK=>?_
  obtain ⟨o,e,_⟩:=R.live a ha
  refine gK ?_
  rw [(hn a hb).1] at e;cases e
 ·rcases hm a ha with q | q
  ·exact R.old a q
  ·cases e:Γ.h₀.get? a with
   | none=>rfl
   | some o=>have:=R.base a o e;rw [(hn a q).1] at this;cases this
 ·rcases hm a ha with q | q
  ·by_cases q2:a=P
   ·subst q2;obtain ⟨ps,e⟩:=hP;exact ⟨_,e,fun its n q=>by cases q⟩
   ·obtain ⟨o,e,c⟩:=R.live a q;exact ⟨o,k _ _ q2 e,c⟩
  ·exact (hn a q).2
 ·by_cases q:i=ρ.length
  ·subst q;simp
  ·rw [upd_ne _ _ q] at hi;have:=R.dom i c' hi;simp;lia
 ·by_cases q:i=ρ.length
  ·subst q
   rw [upd_self] at hi;cases hi
   simp at hsl;subst hsl;exact hc
  ·rw [upd_ne _ _ q] at hi
   have hl:=R.dom i c' hi
   rw [Jb4 hl] at hsl
   by_cases q2:i=TB
   ·subst q2
    rw [hany] at hi;cases hi
    rw [hTB] at hsl;cases hsl
    exact hP
   ·refine (R.cells i c' sl' hi hsl).mono g fun b hb o e=>k _ _ (fun q3=>q2 ?_) e
    subst q3
    exact get_of_nodup R.nd hsl hTB hb (by simp [Slot.addrs])
theorem nest_tail {s2:Shared} {kk x TB f c':Nat} {nm:Str} {cl:Frees} {ps ps':Array Value} {ofn oc:Obj} {Q:Flow→Shared→Prop} (hname:sy x=nm) (hx:x<nsym) (hloc:env.kindOf (sy x)=some .local) (hnf:flook fr x=none) (hP:s.heap.get? P=some (tabObj ps))
  (R:Rel Γ ρ σ s.heap) (F:FrR Γ env own fr ρ m s.heap) (hTB:ρ[TB]?=some (.one P)) (hany:σ TB=some .any) (kp:∀ b o,b≠P→s.heap.get? b=some o→s2.heap.get? b=some o) (eP2:s2.heap.get? P=some (tabObj ps'))
  (f0:s.heap.get? f=none) (c0:s.heap.get? c'=none) (hcf:f≠c') (ef:s2.heap.get? f=some ofn) (ec:s2.heap.get? c'=some oc) (ntf:NT ofn) (ntc:NT oc) (hg:s2.gens=s.gens) (ho:s2.os=s.os) (hcell:CellAt Γ s2.heap (ρ++[.two f c']) (.two f c') (.fn kk cl))
  (q:∀ s3,Step own ρ (ρ++[.two f c']) s s3→Rel Γ (ρ++[.two f c']) (upd σ ρ.length (.fn kk cl)) s3.heap→FrR Γ env own fr (ρ++[.two f c']) (put m x (.loc ρ.length)) s3.heap→s3.heap.get? P=some (tabObj ps')→Q .next s3) :
  wpAny (model Γ.prog Γ.w) A (storeName env nm (.ref f)) (fun _ s3=>Q .next s3) E s2:=by
 subst hname
 have hPf:P∈foot ρ:=mem_foot (Ja9 hTB) (Ja4.mpr rfl)
 refine gabs fun gG gK=>?_
 obtain ⟨R2,g2,nw⟩:=R.nest (sl:=.two f c') hTB hany kp ⟨_,eP2⟩ ⟨_,hP⟩ (fun a ha=>(Jc0.mp ha).elim (fun q=>q▸⟨f0,_,ef,ntf⟩) fun q=>Ja4.mp q▸⟨c0,_,ec,ntc⟩) (Jb6.mpr ⟨fun q=>hcf (Ja4.mp q),Jb6.mpr ⟨Jc3,Jg8⟩⟩) hcell
 refine gK ?_
 have F2:=F.mono g2 (fun a ha o e=>kp _ _ (fun q=>(F.own a ha).1 (q▸hPf)) e) nw
 have st:Step own ρ (ρ++[.two f c']) s s2:=
  ⟨⟨_,rfl⟩,nw,fun b o h1 _ e=>kp _ _ (fun q=>h1 (q▸hPf)) e,fun b o e=>by
   by_cases q:b=P
   ·exact ⟨_,q▸eP2⟩
   ·exact ⟨o,kp _ _ q e⟩,hg,ho⟩
 refine wpAny_mono (op_store (.inl hloc) hx hnf R2 F2 (.loc (l:=ρ.length) (sl:=.two f c') Jg5 rfl)) (fun _ s3 h3=>?_) fun _ _ x=>x
 refine gabs fun gG gK=>?_
 obtain ⟨st3,R3,F3,k3,g3⟩:=h3
 refine gK ?_
 exact q s3 (st.trans st3) R3 F3 (k3 _ _ (fun hown=>(F2.own P hown).1 (foot_prefix ⟨_,rfl⟩ hPf)) eP2)
theorem nest_step (H:HostG Γ nfs cH P) {kk x TB:Nat} {nf:NF} {cl:Frees} {ps:Array Value} {Q:Flow→Shared→Prop} (hk:nfs[kk]?=some nf) (hname:sy x=nf.name) (hx:x<nsym) (hloc:env.kindOf (sy x)=some .local) (hnf:flook fr x=none) (hcode:env.code=.ref cH) (hqual:qualnameIn env nf.name nf.name=nf.qual)
  (hd0:nf.params.defaults=[]) (hk0:nf.params.kw_defaults=[]) (ha:annTrees nf.params none env=[]) (hfree:∀ y∈nf.scope.names,y.2=.free→∃ j,y.1=sy j∧env.kindOf (sy j)=some .cell)
  (hcl:∀ p∈cl,nf.scope.names.lookup (sy p.1)=some .free∧p∈fr∧env.kindOf (sy p.1)=some .cell) (hP:s.heap.get? P=some (tabObj ps)) (ht:TriplesOk ps.toList) (hnc:codeAmong nf.pos ps.toList=none)
  (R:Rel Γ ρ σ s.heap) (F:FrR Γ env own fr ρ m s.heap) (hTB:ρ[TB]?=some (.one P)) (hany:σ TB=some .any)
  (q:∀ s3 f d,Step own ρ (ρ++[.two f d]) s s3→Rel Γ (ρ++[.two f d]) (upd σ ρ.length (.fn kk cl)) s3.heap→FrR Γ env own fr (ρ++[.two f d]) (put m x (.loc ρ.length)) s3.heap→s3.heap.get? P=some (tabObj (ps++#[rawInt nf.pos.line,rawInt nf.pos.col,.ref d]))→Q .next s3) :
  wpAny (model Γ.prog Γ.w) A (exec nf.st env) Q E s:=by
 refine gabs fun gG gK=>?_
 obtain ⟨clos,hclos,hlk⟩:=closure_nest (scope:=nf.scope) F hfree
 obtain ⟨bm,ob,b1,b2,b3,b4,b5,b6⟩:=H.bm
 obtain ⟨og,es,ep,eg,hdg,_⟩:=Γ.g
 refine gK ?_
 have hgP:mainGlobals≠P:=fun q=>by rw [q,H.P0] at eg;cases eg
 have hbP:bm≠P:=fun q=>by rw [q,H.P0] at b3;cases b3
 have hbG:bm≠mainGlobals:=fun q=>by
  rw [q,eg] at b3;cases b3;rw [hdg] at b6;cases b6
 refine nestDef_K hd0 hk0 ha ?_
 rw [hqual]
 refine makeFunction_K (mg:=Γ.mg) hclos F.globs (Γ.g.keeps R.base) hcode (H.chd.keeps R.base) hP ht hnc hgP ⟨bm,ob,b1,b2,hbG,hbP,R.base _ _ b3,b4,b5,b6⟩ fun c' ctv doc h' tk hx' hge hlt hrec htb=>?_
 refine gabs fun gG gK=>?_
 obtain ⟨c₂,oc,vs,t,e2,hoc,hd,hv⟩:=hrec
 refine gK ?_
 cases e2
 refine nest_tail (kk:=kk) (cl:=cl) hname hx hloc hnf hP R F hTB hany (fun b o hb e=>Heap.get?_push_of_some _ (hx' b o hb e)) (Heap.get?_push_of_some _ htb) (Heap.get?_none_of_le (Jc4 (Jc9 hge hlt))) (Heap.get?_none_of_le hge) (Nat.ne_of_gt hlt) (Heap.get?_push_size _ rfl) (Heap.get?_push_of_some _ hoc)
  (fun its n q=>(by have h:=congrArg Obj.data q;cases h)) (fun its n q=>by subst q;cases hd) rfl rfl
  ⟨clos,_,oc,Heap.get?_push_size _ rfl,Heap.get?_push_of_some _ hoc,H.fn kk nf hk _ _ _ _ _ (fun z hz=>?_),H.code kk nf hk _ _ _ hd hv,fun y l hl=>?_⟩ fun s3=>q s3 _ _
 ·obtain ⟨j,ej,hj⟩:=hfree _ (lookup_mem hz) rfl
  obtain ⟨c,e⟩:=F.ccell j hj
  exact ⟨c,(hlk z hz).trans ((show z=sy j from ej)▸e)⟩
 ·obtain ⟨h1,h2,h3⟩:=hcl _ hl
  obtain ⟨c,e1,e2⟩:=F.free y l h2 (.inr h3)
  exact ⟨c,(hlk _ h1).trans e1,(Jb4 (Ja3.mp e2).1).trans e2⟩
end
end
section
section
variable {Γ:Gl} {env:Env} {own:List Addr} {fr:Frees} {m:List (Nat×V)} {ρ:List Slot} {σ:St} {s:Shared} {A:Around} {E:Value→Shared→Prop} {cH P:Addr} {h h2:Heap}
theorem Rel.any {TB:Nat} {a:Addr} (R:Rel Γ ρ σ h) (hTB:ρ[TB]?=some (.one a)) (e:σ TB=some .tab):Rel Γ ρ (upd σ TB .any) h:=by
 refine ⟨R.base,R.nd,R.old,R.live,fun i c' hi=>?_,fun i c' sl hi hsl=>?_⟩
 ·by_cases q:i=TB
  ·subst q;exact (Ja3.mp hTB).1
  ·rw [upd_ne _ _ q] at hi;exact R.dom i c' hi
 ·by_cases q:i=TB
  ·subst q;rw [upd_self] at hi;cases hi;rw [hTB] at hsl;cases hsl;exact ⟨_,(R.cells _ _ _ e hTB).2⟩
  ·rw [upd_ne _ _ q] at hi;exact R.cells i c' sl hi hsl
theorem tri_ok (dn:List (Pos×Addr)):TriplesOk (triples dn):=by
 induction dn with
 | nil=>exact True.intro
 | cons p r ih=>exact ih
noncomputable abbrev Item:=NF×Nat×List Nat
noncomputable def Item.cl (fr:Frees) (i:Item):Frees:=i.2.2.filterMap fun x=>(flook fr x).map fun l=>(x,l)
noncomputable def stF (fr:Frees):List Item→Nat→Nat→St→St
 | [],_,_,σ=>σ
 | i::r,n,kk,σ=>stF fr r (n+1) (kk+1) (upd σ n (.fn kk (Item.cl fr i)))
noncomputable def mF:List Item→Nat→List (Nat×V)→List (Nat×V)
 | [],_,m=>m
 | i::r,n,m=>mF r (n+1) (put m i.2.1 (.loc n))
structure ItemOk (env:Env) (fr:Frees) (i:Item):Prop where
 name:sy i.2.1=i.1.name
 lt:i.2.1<nsym
 loc:env.kindOf (sy i.2.1)=some .local
 nf:flook fr i.2.1=none
 qual:qualnameIn env i.1.name i.1.name=i.1.qual
 d0:i.1.params.defaults=[]
 k0:i.1.params.kw_defaults=[]
 an:annTrees i.1.params none env=[]
 free:∀ y∈i.1.scope.names,y.2=.free→∃ j,y.1=sy j∧env.kindOf (sy j)=some .cell
 cl:∀ x∈i.2.2,i.1.scope.names.lookup (sy x)=some .free∧env.kindOf (sy x)=some .cell
theorem nest_all {nfs:List NF} (H:HostG Γ nfs cH P) {TB:Nat} {rest:List Stmt} {Q:Flow→Shared→Prop} (hcode:env.code=.ref cH) {its:List Item}:∀ {kk:Nat} {dn:List (Pos×Addr)} {m:List (Nat×V)} {ρ:List Slot} {σ:St} {s:Shared},
  (∀ (j:Nat) i,its[j]?=some i→nfs[kk+j]?=some i.1∧ItemOk env fr i)→its.Pairwise (fun a b=>a.1.pos.line≠b.1.pos.line)→(∀ i∈its,∀ q∈dn,q.1.line≠i.1.pos.line)→s.heap.get? P=some (tabObj (triples dn).toArray)→
  Rel Γ ρ σ s.heap→FrR Γ env own fr ρ m s.heap→ρ[TB]?=some (.one P)→σ TB=some .any→
  (∀ s' ρ',Step own ρ ρ' s s'→Rel Γ ρ' (stF fr its ρ.length kk σ) s'.heap→FrR Γ env own fr ρ' (mF its ρ.length m) s'.heap→wpAny (model Γ.prog Γ.w) A (execs rest env) Q E s')→
  wpAny (model Γ.prog Γ.w) A (execs (its.map (fun i=>i.1.st)++rest) env) Q E s:=by
 induction its with
 | nil=>exact fun _ _ _ _ R F _ _ h=>h _ _ (Step.refl ..) R F
 | cons i r ih=>
  intro kk dn m ρ σ s hi hpw hnc hP R F hTB hany h
  obtain ⟨hk,ok⟩:=hi 0 i rfl
  have hTBl:=(Ja3.mp hTB).1
  obtain ⟨pw1,pw2⟩:=List.pairwise_cons.mp hpw
  refine wpAny_execs_cons (nest_step H (cl:=Item.cl fr i) hk ok.name ok.lt ok.loc ok.nf hcode ok.qual ok.d0 ok.k0 ok.an ok.free (fun p hp=>?_) hP (tri_ok dn) (codeAmong_triples _ _ fun q hq e=>hnc i (.head _) q hq e.1) R F hTB hany fun s3 f d st1 R1 F1 hP1=>?_)
  ·obtain ⟨x,hx,e⟩:=Jg4.mp hp
   obtain ⟨l,q,rfl⟩:=Option.map_eq_some_iff.mp e
   obtain ⟨c1,c2⟩:=ok.cl x hx
   exact ⟨c1,flook_mem q,c2⟩
  ·have el:(ρ++[Slot.two f d]).length=ρ.length+1:=Jb2
   refine ih (dn:=dn++[(i.1.pos,d)]) (fun j i' hj=>Jf4 kk j▸hi (j+1) i' hj) pw2 (fun j hj q hq=>?_) ?_ R1 F1 ((Jb4 hTBl).trans hTB) ((upd_ne _ _ (Nat.ne_of_lt hTBl)).trans hany) fun s' ρ' st' R' F'=>?_
   ·exact (Jd0.mp hq).elim (hnc j (.tail _ hj) q) fun q=>Ja4.mp q▸pw1 j hj
   ·rw [triples_append]
    exact hP1.trans (by simp)
   ·rw [el] at R' F'
    exact h s' ρ' (st1.trans st') R' F'
end
end
section
noncomputable def frH (n:Nat):Frees:=[(164,n),(158,n+1),(168,n+2),(85,n+3)]
noncomputable def hostRest:List S:=c__law_host.drop 8
noncomputable def cellIds:List Nat:=[164,158,168,85]
structure HostFd (Γ:Gl) (its:List Item) (cH:Addr) (fd:FuncData) (rest:List Stmt):Prop where
 body:fd.body=.stmts (its.map (fun i=>i.1.st)++rest)
 rest:rest.map (trS 40 fun x=>fd.scope.names.lookup x)=hostRest
 gl:fd.globals=mainGlobals
 bi:fd.builtins=builtinsNs
 kind:fd.scope.kind=.function
 co:fd.scope.isCoroutine=false
 gen:fd.scope.isGenerator=false
 bind:∀ (vs:List Value) (s:Shared),Γ.K.In s.heap→vs.length=3→BindsTo s fd ⟨vs,[]⟩ ([sy 164,sy 158,sy 168].zip vs)
 code:fd.code=.ref cH
 cd:codeIn Γ.K fd.code fd.qualname=true
 clo:fd.closure=[]
 free:∀ x∈fd.scope.names,x.2≠.free
 cells:∀ x∈cellIds,fd.scope.names.lookup (sy x)=some .cell
 only:∀ x,fd.scope.names.lookup (sy x)=some .cell→x∈cellIds
 items:∀ (env:Env) (n:Nat),(∀ z,env.kindOf z=fd.scope.names.lookup z)→env.qual=fd.qualname++".<locals>."→∀ i∈its,ItemOk env (frH n) i
structure HostOk (Γ:Gl) (its:List Item) (cH:Addr):Prop where
 g:HostG Γ (its.map (·.1)) cH Γ.P
 pw:its.Pairwise (fun a b=>a.1.pos.line≠b.1.pos.line)
 ex:∀ a (ρ:List Slot),(Fn.glob 15).At Γ ρ a→∃ oc od osl fd rest,Γ.K.lookup a=some ⟨oc,od,.func fd,osl⟩∧HostFd Γ its cH fd rest
section
variable {Γ:Gl} {k:Nat} {σ:St} {Q:V→St→Prop} {its:List Item} {cH:Addr}
theorem frH_mem {n x l:Nat} (h:(x,l)∈frH n):(x=164∧l=n)∨(x=158∧l=n+1)∨(x=168∧l=n+2)∨(x=85∧l=n+3):=by
 exact (Jc0.mp h).imp Prod.mk.inj fun h=>(Jc0.mp h).imp Prod.mk.inj fun h=>(Jc0.mp h).imp Prod.mk.inj fun h=>Prod.mk.inj (Ja4.mp h)
theorem cellIds_lt:∀ p∈cellIds,p<nsym:=by
 have h:(cellIds.all fun p=>Nat.blt p nsym)=true:=by decide +kernel
 exact fun p hp=>Ja0 (Jb3.mp h p hp)
theorem frH_at {n x l:Nat} (h:(x,l)∈frH n):∃ j,cellIds[j]?=some x∧l=n+j:=by
 rcases frH_mem h with ⟨rfl,rfl⟩ | ⟨rfl,rfl⟩ | ⟨rfl,rfl⟩ | ⟨rfl,rfl⟩
 ·exact ⟨0,rfl,rfl⟩
 ·exact ⟨1,rfl,rfl⟩
 ·exact ⟨2,rfl,rfl⟩
 ·exact ⟨3,rfl,rfl⟩
theorem frH_in {n x:Nat} (h:x∈cellIds):∃ l,(x,l)∈frH n:=by
 obtain ⟨p,hm,rfl⟩:=Jf2.mp (show x∈(frH n).map Prod.fst from h)
 exact ⟨p.2,hm⟩
theorem args_in {vs:List Value} {x:Str×Value} (hx:x∈[sy 164,sy 158,sy 168].zip vs):∃ p∈cellIds,x.1=sy p:=by
 obtain ⟨p,hp,e⟩:=Jf2.mp (show x.1∈(cellIds.take 3).map sy from (List.of_mem_zip (show (x.1,x.2)∈_ from hx)).1)
 exact ⟨p,Je6 hp,e.symm⟩
noncomputable def slotsH (ca:Nat→Addr):List Slot:=cellIds.map fun p=>.one (ca p)
theorem Rel.over {ρ:List Slot} {h:Heap} (R:Rel Γ ρ σ h):∀ i,ρ.length≤i→σ i=none:=fun i hi=>by
 cases q:σ i with
 | none=>rfl
 | some c=>exact absurd (R.dom i c q) (Nat.not_lt.mpr hi)
theorem Rel.tabAt {ρ:List Slot} {h:Heap} {TB:Nat} (R:Rel Γ ρ σ h) (e:σ TB=some .tab):ρ[TB]?=some (.one Γ.P)∧h.get? Γ.P=some (tabObj #[]):=by
 have hs:=Ja5 (R.dom _ _ e)
 have hc:=R.cells TB _ _ e hs
 rw [hs]
 cases q:ρ[TB]'(R.dom _ _ e) with
 | one a=>rw [q] at hc;exact ⟨congrArg (fun a=>some (Slot.one a)) hc.1,hc.1▸hc.2⟩
 | two a d=>rw [q] at hc;exact hc.elim
noncomputable def hostM0 (TK ST TD:Nat):List (Nat×V):=[(164,.loc TK),(158,.loc ST),(168,.loc TD)]
noncomputable def hostC0 (TK ST TD:Nat):List Cell:=[.cell (.loc TK),.cell (.loc ST),.cell (.loc TD),.unset]
theorem host_in {env:Env} {s:Shared} {h₁:Heap} {tk:Tok} {ρ:List Slot} {vs:List Value} {TK ST TD:Nat} (R:Rel Γ ρ σ s.heap) (ra:RdL s.heap ρ vs [.loc TK,.loc ST,.loc TD]) (kk:∀ b o,s.heap.get? b=some o→h₁.get? b=some o) (hkind:env.scope.kind=.function) (hgl:env.globals=mainGlobals) (hbi:env.builtins=builtinsNs) (hL:env.locals=s.heap.objs.size)
  (hcells:∀ x∈cellIds,env.kindOf (sy x)=some .cell) (honly:∀ x,env.kindOf (sy x)=some .cell→x∈cellIds) (hfree:∀ x,env.kindOf (sy x)≠some .free) (hcs:∀ p∈cellIds,∃ c,env.cells.lookup (sy p)=some c)
  (x:InCallC s env.locals (bindL env.kindOf ([sy 164,sy 158,sy 168].zip vs) fun _=>none) env.cells (bindC env.kindOf ([sy 164,sy 158,sy 168].zip vs) fun _=>none) { s with heap:=h₁,toks:=tk }) :
  ∃ ca,Rel Γ (ρ++slotsH ca) (exts σ ρ.length (hostC0 TK ST TD)) h₁∧FrR Γ env [env.locals] (frH ρ.length) (ρ++slotsH ca) (hostM0 TK ST TD) h₁∧Step [] ρ (ρ++slotsH ca) s { s with heap:=h₁,toks:=tk }:=by
 obtain ⟨ca,hca⟩:∃ ca:Nat→Addr,∀ p∈cellIds,env.cells.lookup (sy p)=some (ca p):=⟨fun p=>(env.cells.lookup (sy p)).getD 0,fun p hp=>(hcs p hp).elim fun c e=>e.trans (congrArg (fun o=>some (Option.getD o 0)) e).symm⟩
 have up:∀ p∈cellIds,env.locals<ca p:=fun p hp=>x.above _ _ (mem_of_lookup (hca p hp))
 have hd:∀ a∈cellIds.map ca,s.heap.get? a=none∧∃ o,h₁.get? a=some o∧NT o:=fun a ha=>by
  obtain ⟨p,hp,rfl⟩:=Jf2.mp ha
  obtain ⟨o,ho,hd⟩:=x.cell _ _ (hca p hp)
  exact ⟨Heap.get?_none_of_le (Ja1 (Je5 hL.symm) (Jc4 (up p hp))),o,ho,fun its n q=>by subst q;cases hd⟩
 have nd:(cellIds.map ca).Nodup:=List.pairwise_map.mpr ((by decide:cellIds.Nodup).imp_of_mem fun ha hb hne e=>hne (sy_inj (cellIds_lt _ ha) (cellIds_lt _ hb) (name_of_addr x.apart (mem_of_lookup (hca _ ha)) (e▸mem_of_lookup (hca _ hb)))))
 obtain ⟨bg,bg2⟩:=binds_get (h:=s.heap) (ρ:=ρ) env.kindOf (ps:=[164,158,168]) (by decide) (fun p hp=>cellIds_lt p (Je6 (i:=3) hp)) (fun _=>none) (fun _=>none) ra rfl
 have b4:bindC env.kindOf ([sy 164,sy 158,sy 168].zip vs) (fun _=>none) (sy 85)=none:=(bg2 (sy 85) fun p hp q=>absurd (sy_inj (cellIds_lt p (Je6 (i:=3) hp)) (cellIds_lt 85 (by decide)) q▸hp) (by decide)).2
 have cl:∀ p pv,look (hostM0 TK ST TD) p=some pv→p∈cellIds→∃ u,h₁.IsCell (ca p) (some u)∧Rd s.heap ρ u pv:=fun p pv e hp=>by
  obtain ⟨u,f,r⟩:=(bg p pv e).2 (by rw [hcells p hp];decide)
  exact ⟨u,f▸x.cell _ _ (hca p hp),r⟩
 obtain ⟨R1,g1,nw1⟩:=R.freshs (sls:=slotsH ca) (cs:=hostC0 TK ST TD) kk rfl hd nd fun g j sl c hsl hc=>by
  cases j with
  | zero=>cases hsl;cases hc;obtain ⟨u,a,r⟩:=cl 164 _ rfl (by decide);exact ⟨_,a,r.mono g⟩
  | succ j=>
   cases j with
   | zero=>cases hsl;cases hc;obtain ⟨u,a,r⟩:=cl 158 _ rfl (by decide);exact ⟨_,a,r.mono g⟩
   | succ j=>
    cases j with
    | zero=>cases hsl;cases hc;obtain ⟨u,a,r⟩:=cl 168 _ rfl (by decide);exact ⟨_,a,r.mono g⟩
    | succ j=>
     cases j with
     | zero=>cases hsl;cases hc;have y:=x.cell _ _ (hca 85 (by decide));rw [b4] at y;exact y
     | succ j=>cases hsl
 refine ⟨ca,R1,⟨hkind,hgl,hbi,⟨_,x.toInCall.ns,fun z pv hz hk=>?_⟩,fun z hz=>⟨_,hca z (honly z hz)⟩,fun z l hl=>?_,fun z hz hn=>?_,fun a b c h1 h2 _ _=>name_of_addr x.apart (mem_of_lookup h1) (mem_of_lookup h2),.head _,fun a ha=>?_,fun z l hl _=>?_,fun z hz=>absurd hz (hfree z),fun z pv hz=>?_⟩,⟨g1.pre,nw1,fun b o _ _ e=>kk b o e,fun b o e=>⟨o,kk b o e⟩,rfl,rfl⟩⟩
 ·obtain ⟨v,hv,rv⟩:=(bg z pv hz).1 hk
  exact ⟨v,hv,rv.mono g1⟩
 ·obtain ⟨j,e,_⟩:=frH_at hl
  rw [hcells z (Ja9 e)];decide
 ·obtain ⟨l,hl⟩:=frH_in (n:=ρ.length) (honly z hz)
  exact absurd hl (hn l)
 ·obtain rfl:=Ja4.mp ha
  refine ⟨fun hf=>?_,hL.symm▸size_le R,ns_nt x.toInCall.ns⟩
  rw [foot_append] at hf
  refine (Jd0.mp hf).elim (fun q=>?_) fun q=>?_
  ·obtain ⟨o,e,_⟩:=R.live _ q
   exact Nat.lt_irrefl _ (hL▸Heap.lt_size e)
  ·obtain ⟨p,hp,e⟩:=Jf2.mp (show env.locals∈cellIds.map ca from q)
   exact Nat.lt_irrefl _ (e▸up p hp)
 ·obtain ⟨j,e,rfl⟩:=frH_at hl
  exact ⟨ca z,hca z (Ja9 e),by rw [Jd8 (Jc6 _ _),Nat.add_sub_cancel_left];unfold slotsH;rw [Ja8,e];rfl⟩
 ·exact cellIds_lt z (Je6 (i:=3) (zip_look (ps:=[164,158,168]) (rs:=[.loc TK,.loc ST,.loc TD]) hz))
theorem WC_host (HO:HostOk Γ its cH) {TB TK ST TD:Nat} {nn:Nat} (hTB:σ TB=some .tab)
  (h:∀ n,σ n=none→(∀ i,n≤i→σ i=none)→wpSs (wpS Γ k (frH n) nn) hostRest (mF its (n+4) [(164,.loc TK),(158,.loc ST),(168,.loc TD)]) (stF (frH n) its (n+4) 0 (upd (exts σ n [.cell (.loc TK),.cell (.loc ST),.cell (.loc TD),.unset]) TB .any)) (retQ Q)) :
  WC Γ (k+1) (.glob 15) [.loc TK,.loc ST,.loc TD] σ Q:=by
 refine ⟨fun A s ρ vs a hR R ra ha=>?_⟩
 refine gabs fun gG gK=>?_
 obtain ⟨oc,od,osl,fd,rest,hK,H⟩:=HO.ex a ρ ha
 refine gK ?_
 have X:Γ.K.In s.heap:=Γ.X.keeps R.base
 refine codeAny_call_function hR.dep (X _ _ hK) rfl H.co H.gen H.body (codeRec_of X H.cd) (H.bind vs s X ra.length _ _ _ _ ?_)
 rw [H.clo]
 have hcs:=fun p hp=>cells_some fd.scope.names (s.heap.objs.size+1) [] (sy p) (.inl (lookup_mem (H.cells p hp)))
 refine wpAny_newFunctionEnv_cells H.kind (fun x hx=>?_) fun env he s' x=>?_
 ·refine gabs fun gG gK=>?_
  obtain ⟨p,hp,e⟩:=args_in hx
  refine gK ?_
  rw [e]
  exact .inr ⟨H.cells p hp,hcs p hp⟩
 ·refine gabs fun gG gK=>?_
  obtain ⟨h₁,tk,rfl,kk⟩:=x.done
  have hL:env.locals=s.heap.objs.size:=by rw [he];rfl
  have hko:∀ z,env.kindOf z=fd.scope.names.lookup z:=fun z=>by rw [he];rfl
  obtain ⟨ca,R1,F,st0⟩:=host_in R ra kk (by rw [he];exact H.kind) (by rw [he];exact H.gl) (by rw [he];exact H.bi) hL (fun p hp=>(hko _).trans (H.cells p hp)) (fun p hp=>H.only p ((hko _).symm.trans hp)) (fun p hp=>absurd rfl (H.free _ (lookup_mem ((hko _).symm.trans hp)))) (fun p hp=>by rw [he];exact Jg9.mp (hcs p hp)) x
  obtain ⟨hTBp,htab⟩:=R.tabAt hTB
  refine gK ?_
  have hTBl:=R.dom _ _ hTB
  have hTB1:=(Jb4 hTBl (l₂:=slotsH ca)).trans hTBp
  have R2:=R1.any hTB1 ((if_pos hTBl).trans hTB)
  have el:(ρ++slotsH ca).length=ρ.length+4:=Jb2
  refine ⟨(Γ.nolimit.keeps R.base).keeps kk,codeAny_func ?_⟩
  refine nest_all (s:={ s with heap:=h₁,toks:=tk }) (dn:=[]) (kk:=0) HO.g (by rw [he];exact H.code) (fun j i hj=>⟨by rw [Nat.zero_add,Ja8,hj];rfl,H.items env ρ.length hko (by rw [he];rfl) i (Ja9 hj)⟩) HO.pw (fun i _ q hq=>(by cases hq)) (kk _ _ htab) R2 F hTB1 (upd_self ..) fun s1 ρ1 st1 R3 F3=>?_
  rw [el] at R3 F3
  have hh:=h ρ.length R.unused R.over
  rw [← H.rest] at hh
  refine body_run hko hh (hR.deeper env) R3 F3 (st0.join st1 fun a ha=>?_) (fun a ha=>?_) (fun _ p=>⟨p,p,p⟩) fun _ _ p=>p
  all_goals (obtain rfl:=Ja4.mp ha;rw [hL];exact Heap.get?_none_of_le (Jd7 _))
end
end
section
structure HA (as:List (Nat×V)) (L:List (Nat×V)) (N:Nat):Prop where
 len:as.length≤N
 get:∀ p∈L,look as p.1=some p.2
theorem HA.at {as L:List (Nat×V)} {N x:Nat} {v:V} (h:HA as L N) (i:Nat) (e:L[i]?=some (x,v)):look as x=some v:=h.get _ (Ja9 e)
theorem put_len:∀ (as:List (Nat×V)) (x:Nat) (v:V),(put as x v).length≤as.length+1
 | [],x,v=>by simp [put]
 | (y,w)::r,x,v=>by
  simp only [put]
  split
  ·simp
  ·have:=put_len r x v;simp;lia
theorem HA.put {as L:List (Nat×V)} {N x:Nat} {v:V} (h:HA as L N) (hx:(L.any fun p=>Jc5 p.1 x)=false):HA (Mine.put as x v) ((x,v)::L) (N+1):=by
 refine ⟨Ja1 (put_len ..) (by have:=h.len;lia),fun p hp=>?_⟩
 rcases Jc0.mp hp with rfl | hp2
 ·rw [look_put,if_pos rfl]
 ·rw [look_put,if_neg]
  ·exact h.get p hp2
  ·intro q
   have:=List.any_eq_false.mp hx p hp2
   rw [q] at this
   exact this (Ji1 _)
theorem HA.of (as:List (Nat×V)):HA as [] as.length:=⟨Jd7 _,fun p h=>by simp at h⟩
structure Hst (σ1 σc:St) (n H:Nat) (L:List (Nat×V)) (N:Nat):Prop where
 b:ButS [n+3] σ1 σc
 h:∃ hs,σc H=some (.inst 4 hs)∧HA hs L N
 c:σc (n+3)=some (.cell (.loc H))
 f:σ1 H=none
structure Prt (σ1 σc:St) (X:Nat) (L:List (Nat×V)) (N:Nat):Prop where
 h:∃ ss,σc X=some (.inst 4 ss)∧HA ss L N
 f:σ1 X=none
section
variable {Γ:Gl} {k:Nat} {σ1 σc:St} {n H:Nat} {L:List (Nat×V)} {N:Nat} {m:List (Nat×V)} {Q:SPost} {rest:List S}
seal itemV attrV setAV setIV biV listM methL sliceV iterV inV newV look put
theorem Hst.ext {σ':St} (h:Hst σ1 σc n H L N) (x:Ext σc σ'):Hst σ1 σ' n H L N:=⟨h.b.ext x,by obtain ⟨hs,a,b⟩:=h.h;exact ⟨hs,x _ _ a,b⟩,x _ _ h.c,h.f⟩
theorem Prt.ext {X:Nat} {σ':St} (h:Prt σ1 σc X L N) (x:Ext σc σ'):Prt σ1 σ' X L N:=⟨by obtain ⟨hs,a,b⟩:=h.h;exact ⟨hs,x _ _ a,b⟩,h.f⟩
theorem Prt.but {X l:Nat} {c:Cell} (h:Prt σ1 σc X L N) (n:X≠l):Prt σ1 (upd σc l c) X L N:=⟨by obtain ⟨hs,a,b⟩:=h.h;exact ⟨hs,by rw [upd_ne _ _ n];exact a,b⟩,h.f⟩
theorem Hst.but {l:Nat} {c:Cell} (h:Hst σ1 σc n H L N) (h0:σ1 l=none) (n1:H≠l) (n2:n+3≠l):Hst σ1 (upd σc l c) n H L N:=
 ⟨h.b.set _ (.inr h0),by obtain ⟨hs,a,b⟩:=h.h;exact ⟨hs,by rw [upd_ne _ _ n1];exact a,b⟩,by rw [upd_ne _ _ n2];exact h.c,h.f⟩
theorem Hst.ne (h:Hst σ1 σc n H L N):H≠n+3:=fun q=>by obtain ⟨hs,a,_⟩:=h.h;rw [q,h.c] at a;cases a
theorem Hst.set {x:Nat} {v:V} (h:Hst σ1 σc n H L N) {hs:List (Nat×V)} (e:σc H=some (.inst 4 hs)) (ha:HA hs L N) (hx:(L.any fun p=>Jc5 p.1 x)=false):Hst σ1 (upd σc H (.inst 4 (put hs x v))) n H ((x,v)::L) (N+1):=
 ⟨h.b.set _ (.inr h.f),⟨_,upd_self ..,ha.put hx⟩,by rw [upd_ne _ _ (Ne.symm h.ne)];exact h.c,h.f⟩
theorem Prt.set {X x:Nat} {v:V} (h:Prt σ1 σc X L N) {hs:List (Nat×V)} (e:σc X=some (.inst 4 hs)) (ha:HA hs L N) (hx:(L.any fun p=>Jc5 p.1 x)=false):Prt σ1 (upd σc X (.inst 4 (put hs x v))) X ((x,v)::L) (N+1):=
 ⟨⟨_,upd_self ..,ha.put hx⟩,h.f⟩
theorem host_var {x y:Nat} {v:V} (h:Hst σ1 σc n H L N) (hN:N≤90) (hx:fieldOk x=true) (hxL:(L.any fun p=>Jc5 p.1 x)=false) (hy:look m y=some v) (hyf:flook (frH n) y=none)
  (q:∀ hs,σc H=some (.inst 4 hs)→Hst σ1 (upd σc H (.inst 4 (put hs x v))) n H ((x,v)::L) (N+1)→wpSs (wpS Γ k (frH n) 10) rest m (upd σc H (.inst 4 (put hs x v))) Q):wpSs (wpS Γ k (frH n) 10) (.setA (.var 85) x (.var y)::rest) m σc Q:=by
 refine gabs fun gG gK=>?_
 obtain ⟨hs,e,ha⟩:=h.h
 refine gK ?_
 let Jq1:List (Nat×V)→St→Prop:=fun m1 σ=>m1=m∧σ=upd σc H (.inst 4 (put hs x v))
 refine wpSs_join Jq1 (fun Q9 q9=>?_) (fun m1 σ h2=>?_)
 ·conv=>whnf
  rw [hyf]
  conv=>whnf
  rw [hy]
  refine ⟨_,h.c,?_⟩
  refine ⟨hx,setA_i e (by have:=ha.len;lia) ?_⟩
  exact (q9 _ _ _ ⟨rfl,rfl⟩)
 ·obtain ⟨rfl,rfl⟩:=h2
  exact q hs e (h.set e ha hxL)
theorem host_part {a x y X:Nat} {v:V} {L2:List (Nat×V)} {N2:Nat} (h:Hst σ1 σc n H L N) (p:Prt σ1 σc X L2 N2) (hXH:X≠H) (hN:N2≤90) (hfa:fieldOk a=true) (haL:(a,V.loc X)∈L) (hx:fieldOk x=true) (hxL:(L2.any fun p=>Jc5 p.1 x)=false) (hy:look m y=some v) (hyf:flook (frH n) y=none)
  (q:∀ ss,σc X=some (.inst 4 ss)→Hst σ1 (upd σc X (.inst 4 (put ss x v))) n H L N→Prt σ1 (upd σc X (.inst 4 (put ss x v))) X ((x,v)::L2) (N2+1)→wpSs (wpS Γ k (frH n) 10) rest m (upd σc X (.inst 4 (put ss x v))) Q):wpSs (wpS Γ k (frH n) 10) (.setA (.attr (.var 85) a) x (.var y)::rest) m σc Q:=by
 refine gabs fun gG gK=>?_
 obtain ⟨hs,e,ha⟩:=h.h
 obtain ⟨ss,es,hsa⟩:=p.h
 refine gK ?_
 have hX3:n+3≠X:=st_ne h.c es
 let Jq2:List (Nat×V)→St→Prop:=fun m1 σ=>m1=m∧σ=upd σc X (.inst 4 (put ss x v))
 refine wpSs_join Jq2 (fun Q9 q9=>?_) (fun m1 σ h2=>?_)
 ·conv=>whnf
  rw [hyf]
  conv=>whnf
  rw [hy]
  refine ⟨_,h.c,?_⟩
  refine ⟨hfa,attr_i e (ha.get _ haL) ?_⟩
  refine ⟨hx,setA_i es (by have:=hsa.len;lia) ?_⟩
  exact (q9 _ _ _ ⟨rfl,rfl⟩)
 ·obtain ⟨rfl,rfl⟩:=h2
  exact q ss es (h.but p.f (Ne.symm hXH) hX3) (p.set es hsa hxL)
theorem host_new (L0:Lib Γ) {x nm:Nat} {i:Int} (h:Hst σ1 σc n H L N) (hN:N≤90) (hx:fieldOk x=true) (hxL:(L.any fun p=>Jc5 p.1 x)=false)
  (q:∀ X σ',Hst σ1 σ' n H ((x,.loc X)::L) (N+1)→Prt σ1 σ' X [] 14→X≠H→σc X=none→(∀ l c,l≠H→σc l=some c→σ' l=some c)→wpSs (wpS Γ (k+1) (frH n) 10) rest m σ' Q) :
  wpSs (wpS Γ (k+1) (frH n) 10) (.setA (.var 85) x (.new 4 [(.neg (.int i)),(.list []),(.int 0),(.list []),(.str nm)])::rest) m σc Q:=by
 let Jq3:List (Nat×V)→St→Prop:=fun m1 σ=>m1=m∧∃ X,And5 (Hst σ1 σ n H ((x,.loc X)::L) (N+1)) (Prt σ1 σ X [] 14) (X≠H) (σc X=none) (∀ l c,l≠H→σc l=some c→σ l=some c)
 refine wpSs_join Jq3 (fun Q9 q9=>?_) (fun m1 σ h2=>?_)
 ·intro a ha
  intro b hb
  conv=>whnf
  obtain ⟨hb0,hba⟩:=upd_none hb
  have x0:Ext σc (upd (upd σc a (.list [])) b (.list [])):=((Ext.refl _).upd ha _).upd hb0 _
  refine spec_thread (k:=k) L0 fun X nc ns nd σ' x1 hX _ _ eX _=>?_
  have x01:=x0.trans x1
  have h1:=h.ext x01
  have hX0:=x0.new hX
  refine gabs fun gG gK=>?_
  obtain ⟨hs,e,hha⟩:=h1.h
  refine gK ?_
  have hXH:X≠H:=fun q=>by obtain ⟨hs0,e0,_⟩:=h.h;rw [q,e0] at hX0;cases hX0
  have hX1:σ1 X=none:=h.b.none (by simp;intro q;rw [q,h.c] at hX0;cases hX0) hX0
  refine ⟨_,h1.c,?_⟩
  refine ⟨hx,setA_i e (by have:=hha.len;lia) ?_⟩
  refine (q9 _ _ _ ⟨rfl,X,h1.set e hha hxL,?_,hXH,hX0,fun l c hl e=>by rw [upd_ne _ _ hl];exact x01 _ _ e⟩)
  exact ⟨⟨_,by rw [upd_ne _ _ hXH];exact eX,⟨by show 14≤14;exact Jd7 _,fun p hp=>by simp at hp⟩⟩,hX1⟩
 ·refine gabs fun gG gK=>?_
  obtain ⟨rfl,X,h1,h2,h3,h4,h5⟩:=h2
  refine gK ?_
  exact q X σ h1 h2 h3 h4 h5
end
end
section
noncomputable def clOf (fr:Frees) (xs:List Nat):Frees:=xs.filterMap fun x=>(flook fr x).map fun l=>(x,l)
noncomputable def stG (fr:Frees):List (Nat×List Nat)→Nat→Nat→St→St
 | [],_,_,σ=>σ
 | i::r,n,kk,σ=>stG fr r (n+1) (kk+1) (upd σ n (.fn kk (clOf fr i.2)))
noncomputable def mG:List (Nat×List Nat)→Nat→List (Nat×V)→List (Nat×V)
 | [],_,m=>m
 | i::r,n,m=>mG r (n+1) (put m i.1 (.loc n))
theorem stF_eq (fr:Frees):∀ (its:List Item) (n kk:Nat) (σ:St),stF fr its n kk σ=stG fr (its.map (·.2)) n kk σ
 | [],_,_,_=>rfl
 | i::r,n,kk,σ=>stF_eq fr r (n+1) (kk+1) _
theorem mF_eq:∀ (its:List Item) (n:Nat) (m:List (Nat×V)),mF its n m=mG (its.map (·.2)) n m
 | [],_,_=>rfl
 | i::r,n,m=>mF_eq r (n+1) _
noncomputable def hostShape:List (Nat×List Nat):=[(13,[158]),(25,[158]),(17,[158]),(9,[85]),(8,[]),(31,[158]),(7,[168]),(22,[164])]
noncomputable def hostM (n TK ST TD:Nat):List (Nat×V):=[(164,.loc TK),(158,.loc ST),(168,.loc TD),(13,.loc (n+4)),(25,.loc (n+5)),(17,.loc (n+6)),(9,.loc (n+7)),(8,.loc (n+8)),(31,.loc (n+9)),(7,.loc (n+10)),(22,.loc (n+11))]
theorem hostM_eq (n TK ST TD:Nat):mG hostShape (n+4) [(164,.loc TK),(158,.loc ST),(168,.loc TD)]=hostM n TK ST TD:=rfl
structure H0 (σ σ1:St) (n TB TK ST TD:Nat):Prop where
 b:ButS [TB] σ σ1
 tb:σ1 TB=some .any
 lt:TB<n
 hi:∀ i,n≤i→σ i=none
 c0:σ1 n=some (.cell (.loc TK))
 c1:σ1 (n+1)=some (.cell (.loc ST))
 c2:σ1 (n+2)=some (.cell (.loc TD))
 c3:σ1 (n+3)=some .unset
 f0:σ1 (n+4)=some (.fn 0 [(158,n+1)])
 f1:σ1 (n+5)=some (.fn 1 [(158,n+1)])
 f2:σ1 (n+6)=some (.fn 2 [(158,n+1)])
 f3:σ1 (n+7)=some (.fn 3 [(85,n+3)])
 f4:σ1 (n+8)=some (.fn 4 [])
 f5:σ1 (n+9)=some (.fn 5 [(158,n+1)])
 f6:σ1 (n+10)=some (.fn 6 [(168,n+2)])
 f7:σ1 (n+11)=some (.fn 7 [(164,n)])
theorem stG_low (fr:Frees) {i:Nat}:∀ (its:List (Nat×List Nat)) (n kk:Nat) (σ:St),i<n→stG fr its n kk σ i=σ i:=by
 intro its
 induction its with
 | nil=>exact fun _ _ _ _=>rfl
 | cons x r ih=>exact fun n kk σ h=>(ih (n+1) (kk+1) _ (Nat.lt_succ_of_lt h)).trans (upd_ne _ _ (Nat.ne_of_lt h))
theorem stG_at (fr:Frees) {x:Nat×List Nat}:∀ (its:List (Nat×List Nat)) (j n kk:Nat) (σ:St),its[j]?=some x→stG fr its n kk σ (n+j)=some (.fn (kk+j) (clOf fr x.2)):=by
 intro its
 induction its with
 | nil=>exact fun _ _ _ _ h=>(by cases h)
 | cons y r ih=>
  intro j
  cases j with
  | zero=>exact fun n kk σ h=>Jb7 h▸(stG_low fr r (n+1) (kk+1) _ (Jh4 n)).trans (upd_self ..)
  | succ j=>
   intro n kk σ h
   have e:=ih j (n+1) (kk+1) (upd σ n (.fn kk (clOf fr y.2))) h
   rw [Jf4,Jf4] at e
   exact e
theorem exts_at {σ:St} {n j:Nat} {cs:List Cell}:exts σ n cs (n+j)=cs[j]?:=(if_neg (Nat.not_lt.mpr (Jc6 n j))).trans (congrArg (cs[·]?) (Nat.add_sub_cancel_left ..))
theorem host0 {σ:St} {n TB TK ST TD:Nat} (hTB:σ TB=some .tab) (hi:∀ i,n≤i→σ i=none):H0 σ (stG (frH n) hostShape (n+4) 0 (upd (exts σ n [.cell (.loc TK),.cell (.loc ST),.cell (.loc TD),.unset]) TB .any)) n TB TK ST TD:=by
 have live:∀ {i c},σ i=some c→i<n:=fun e=>Nat.lt_of_not_le fun h=>nomatch (hi _ h).symm.trans e
 have lt:=live hTB
 have c:∀ {j x},j<4→[.cell (.loc TK),.cell (.loc ST),.cell (.loc TD),Cell.unset][j]?=some x→stG (frH n) hostShape (n+4) 0 (upd (exts σ n [.cell (.loc TK),.cell (.loc ST),.cell (.loc TD),.unset]) TB .any) (n+j)=some x:=fun {j x} h e=>
  (stG_low _ _ _ _ _ (Nat.add_lt_add_left h n)).trans ((upd_ne _ _ (Nat.ne_of_gt (Jc8 lt (Jc6 n j)))).trans (exts_at.trans e))
 have f:=fun j x=>stG_at (frH n) (x:=x) hostShape j (n+4) 0 (upd (exts σ n [.cell (.loc TK),.cell (.loc ST),.cell (.loc TD),.unset]) TB .any)
 exact {
  b:=fun i c h e=>(stG_low _ _ _ _ _ (Jc8 (live e) (Jc6 ..))).trans ((upd_ne _ _ fun q=>h (Ja4.mpr q)).trans ((if_pos (live e)).trans e))
  tb:=(stG_low _ _ _ _ _ (Jc8 lt (Jc6 ..))).trans (upd_self ..)
  lt:=lt,hi:=hi
  c0:=c (j:=0) (by decide) rfl,c1:=c (j:=1) (by decide) rfl,c2:=c (j:=2) (by decide) rfl,c3:=c (j:=3) (by decide) rfl
  f0:=f 0 _ rfl,f1:=f 1 _ rfl,f2:=f 2 _ rfl,f3:=f 3 _ rfl,f4:=f 4 _ rfl,f5:=f 5 _ rfl,f6:=f 6 _ rfl,f7:=f 7 _ rfl }
end
section
structure SgI (σ1 σc:St) (SG:Nat) (ws:List Nat) (gl:List Nat) (av:List Nat):Prop where
 nh:∀ l∈gl,l∉av
 at_:σc SG=some (.list (gl.map .loc))
 w:∀ (i l w:Nat),gl[i]?=some l→ws[i]?=some w→∃ as,σc l=some (.inst 4 as)∧look as 181=some (.int w)
 f:∀ l∈gl,σ1 l=none∧∃ as,σc l=some (.inst 4 as)
theorem SgI.keep {σ1 σc σ':St} {SG:Nat} {ws gl av:List Nat} (h:SgI σ1 σc SG ws gl av) (k:∀ c,σc SG=some c→σ' SG=some c) (k2:∀ l∈gl,∀ c,σc l=some c→σ' l=some c):SgI σ1 σ' SG ws gl av:=
 ⟨h.nh,k _ h.at_,fun i l w a b=>by obtain ⟨as,e,f⟩:=h.w i l w a b;exact ⟨as,k2 l (Ja9 a) _ e,f⟩,fun l hl=>⟨(h.f l hl).1,by obtain ⟨as,e⟩:=(h.f l hl).2;exact ⟨as,k2 l hl _ e⟩⟩⟩
section
variable {Γ:Gl} {k:Nat} {σ σ1:St} {n TB TK ST TD:Nat} {sv:List (List Int)} {Q:V→St→Prop}
seal itemV attrV setAV setIV biV listM methL sliceV iterV inV newV
theorem ButS.newB {L:List Nat} {σ0 σ σ':St} {l:Nat} (x:ButS L σ0 σ) (b:But l σ σ') (h:σ0 l=Option.none):ButS L σ0 σ':=fun i c hi e=>b i c (fun q=>by rw [q,h] at e;cases e) (x i c hi e)
theorem Hst.butB {σc σ':St} {l H:Nat} {L:List (Nat×V)} {N:Nat} (h:Hst σ1 σc n H L N) (b:But l σc σ') (h0:σ1 l=none) (n1:H≠l) (n2:n+3≠l):Hst σ1 σ' n H L N:=⟨h.b.newB b h0,h.h.elim fun hs x=>⟨hs,b _ _ n1 x.1,x.2⟩,b _ _ n2 h.c,h.f⟩
theorem Prt.butB {σc σ':St} {l X:Nat} {L:List (Nat×V)} {N:Nat} (h:Prt σ1 σc X L N) (b:But l σc σ') (n:X≠l):Prt σ1 σ' X L N:=⟨h.h.elim fun hs x=>⟨hs,b _ _ n x.1,x.2⟩,h.f⟩
theorem get_snoc {α:Type} {l:List α} {x a:α} {j:Nat} (h:(l++[x])[j]?=some a):l[j]?=some a∨(j=l.length∧a=x):=by
 by_cases hj:j<l.length
 ·rw [Jb4 hj] at h;exact .inl h
 ·rw [Jd8 (Je3 hj)] at h
  cases q:j - l.length with
  | zero=>rw [q] at h;exact .inr ⟨Nat.le_antisymm (Nat.le_of_sub_eq_zero q) (Je3 hj),(Jb7 h).symm⟩
  | succ k=>rw [q] at h;cases h
theorem SgI.add {σ3 σ4:St} {SG H STR X w:Nat} {ws gl:List Nat} {as:List (Nat×V)} (sg:SgI σ1 σ3 SG ws gl [H,STR]) (hw:ws[gl.length]?=some w) (eX:σ3 X=some (.inst 4 as)) (hl:look as 181=some (.int w)) (hX1:σ1 X=none) (nH:X≠H) (nS:X≠STR) (b:But SG σ3 σ4) (e4:σ4 SG=some (.list (gl.map V.loc++[.loc X]))):SgI σ1 σ4 SG ws (gl++[X]) [H,STR]:=by
 have nX:X≠SG:=st_ne eX sg.at_
 refine ⟨fun l h=>?_,e4.trans (by rw [Jb5];rfl),fun j l w' hj hw'=>?_,fun l h=>?_⟩
 ·exact (Jd0.mp h).elim (sg.nh l) fun q=>Ja4.mp q▸fun q=>(Jc0.mp q).elim nH fun q=>nS (Ja4.mp q)
 ·refine (get_snoc hj).elim (fun q=>?_) fun q=>?_
  ·obtain ⟨a2,e,f⟩:=sg.w j l w' q hw'
   exact ⟨a2,b _ _ (st_ne e sg.at_) e,f⟩
  ·obtain ⟨rfl,rfl⟩:=q
   cases hw.symm.trans hw'
   exact ⟨as,b _ _ nX eX,hl⟩
 ·refine (Jd0.mp h).elim (fun q=>?_) fun q=>?_
  ·obtain ⟨a1,a2,e⟩:=sg.f l q
   exact ⟨a1,a2,b _ _ (st_ne e sg.at_) e⟩
  ·exact Ja4.mp q▸⟨hX1,as,b _ _ nX eX⟩
structure HlI (σ1 σc:St) (n H STR SG:Nat) (L L2:List (Nat×V)) (N N2:Nat) (ws:List Nat) (i:Nat) (gl:List Nat) (σ':St):Prop where
 h:Hst σ1 σ' n H L N
 p:Prt σ1 σ' STR L2 N2
 sg:SgI σ1 σ' SG ws gl [H,STR]
 len:gl.length=i
 b:ButS [SG] σc σ'
theorem host_loop (L0:Lib Γ) {σc:St} {H STR SG:Nat} {L L2:List (Nat×V)} {N N2:Nat} {Q:SPost} (h:Hst σ1 σc n H L N) (p:Prt σ1 σc STR L2 N2) (hXH:STR≠H) (hL:(157,V.loc STR)∈L) (hL2:(148,V.loc SG)∈L2) (hSG:σc SG=some (.list [])) (hSGf:σ1 SG=none) (hST:σ1 ST=some (vecsC sv)) (hST3:ST≠n+3) (hc1:σc (n+1)=some (.cell (.loc ST))) (hsv:sv.length≤100)
  (q:∀ σ' gl,Hst σ1 σ' n H L N→Prt σ1 σ' STR L2 N2→SgI σ1 σ' SG (wid sv) gl [H,STR]→gl.length=sv.length→ButS [SG] σc σ'→Q .next (hostM n TK ST TD) σ') :
  wpS Γ (k+1) (frH n) 10 (.for1 173 false (.var 158) [.asg 113 (.new 4 [(.int 0),(.list []),(.int 0),(.list []),(.str 147)]),.setA (.var 113) 181 (.item (.var 173) (.int 0)),.expr (.meth (.attr (.attr (.var 85) 157) 148) 37 [(.var 113)])]) (hostM n TK ST TD) σc Q:=by
 have hSTc:σc ST=some (vecsC sv):=h.b _ _ (nm1 hST3) hST
 have nST:ST≠SG:=Ne.symm (st_ne hSGf hST)
 refine ⟨rfl,?_⟩
 refine ⟨_,hc1,?_⟩
 refine iter_l hSTc ((Ja2 (as:=sv) _).symm▸Ja1 hsv (Ja0 rfl)) ?_
 refine wpFor_map (β:=List Nat) (fun _=>hostM n TK ST TD) (fun i gl σ'=>HlI σ1 σc n H STR SG L L2 N N2 (wid sv) i gl σ') [] ⟨h,p,⟨fun l hl=>(by cases hl),hSG,fun i l w a=>(by cases a),fun l hl=>(by cases hl)⟩,rfl,ButS.refl _ _⟩ (fun i x gl σ' hx I=>?_) fun gl σ' I=>⟨I.b _ _ (nm1 nST) hSTc,q σ' gl I.h I.p I.sg I.len I.b⟩
 refine ⟨I.b _ _ (nm1 nST) hSTc,_,rfl,fun Q9 q9=>?_⟩
 refine new_g fun a σa xa ha ea=>?_
 refine new_g fun c σb xb hc ec=>?_
 conv=>whnf
 refine spec_thread (k:=k) L0 fun X nc ns nd σ2 x1 hX _ _ eX _=>?_
 have x2:=(xa.trans xb).trans x1
 have hX:=(xa.trans xb).new hX
 have h2:=I.h.ext x2
 have p2:=I.p.ext x2
 have sg2:=I.sg.keep (σ':=σ2) (fun c e=>x2 _ _ e) fun l _ c e=>x2 _ _ e
 have b2:=I.b.ext x2
 have nXSG:X≠SG:=st_ne hX I.sg.at_
 have nX3:X≠n+3:=st_ne hX I.h.c
 have nXH:X≠H:=I.h.h.elim fun hs e=>st_ne hX e.1
 have nXS:X≠STR:=I.p.h.elim fun hs e=>st_ne hX e.1
 have hXc:σc X=none:=I.b.none (nm1 nXSG) hX
 have hX1:σ1 X=none:=h.b.none (nm1 nX3) hXc
 have ngl:∀ l∈gl,l≠X:=fun l hl=>(I.sg.f l hl).2.elim fun a2 e=>Ne.symm (st_ne hX e)
 clear xa xb ha ea hc ec x1 x2 hX
 conv=>whnf
 refine item_t (by decide) rfl ?_
 conv=>whnf
 refine setA_g eX fun σ3 b3 e3=>?_
 have h3:=h2.butB b3 hX1 (Ne.symm nXH) (Ne.symm nX3)
 have p3:=p2.butB b3 (Ne.symm nXS)
 have sg3:=sg2.keep (fun c=>b3 _ c (Ne.symm nXSG)) fun l hl c=>b3 _ c (ngl l hl)
 have c3:=b2.newB b3 hXc
 clear h2 p2 sg2 b2 b3 eX ngl
 conv=>whnf
 refine gabs fun gG gK=>?_
 obtain ⟨hs,eH,haH⟩:=h3.h
 obtain ⟨ss,eS,haS⟩:=p3.h
 refine gK ?_
 refine ⟨_,h3.c,?_⟩
 refine ⟨rfl,attr_i eH (haH.get _ hL) ?_⟩
 refine ⟨rfl,attr_i eS (haS.get _ hL2) ?_⟩
 refine meth_l sg3.at_ ?_
 refine ⟨rfl,?_⟩
 conv=>whnf
 have hi:i<sv.length:=(Ja3.mp hx).1
 have hlen:(gl.map V.loc).length≤10000:=(Ja2 ..).symm▸I.len.symm▸Ja1 (Jc4 hi) (Ja1 hsv (Ja0 rfl))
 refine append_g sg3.at_ hlen fun σ4 b4 e4=>?_
 have nH:H≠SG:=st_ne eH sg3.at_
 have nS:STR≠SG:=st_ne eS sg3.at_
 have n3:n+3≠SG:=st_ne h3.c sg3.at_
 exact okZ (q9 _ _ _ ⟨gl++[X],SubE.app _ _,h3.butB b4 hSGf nH n3,p3.butB b4 nS,sg3.add ((I.len.symm▸wid_of hx:(wid sv)[gl.length]?=some x.length)) e3 (by rw [look_put,if_pos rfl]) hX1 nXH nXS b4 e4,(Jb2).trans (congrArg (· + 1) I.len),fun i c hi e=>b4 i c (fun q=>hi (q▸.head _)) (c3 i c hi e)⟩)
end
end
section
noncomputable def HostSpec (Γ:Gl):Prop:=∀ (k:Nat) (σ:St) (TB TK ST TD:Nat) (tls:List V) (sv:List (List Int)) (Q:V→St→Prop),σ TB=some .tab→σ TK=some (.list tls)→σ ST=some (vecsC sv)→σ TD=some (.list [])→sv.length≤100→
 (∀ σ' (M:Mp),ButS [TB] σ σ'→σ' TB=some .any→M.ST=ST→M.TK=TK→M.TD=TD→σ M.CP=none→M.At (grow (fun _=>none) σ σ' [M.CP])→SigsAt (grow (fun _=>none) σ σ' [M.CP]) M.SG (wid sv)→σ' M.CP=some (.dict [])→Q (.loc M.H) σ')→
 WC Γ (k+5) (.glob 15) [.loc TK,.loc ST,.loc TD] σ Q
noncomputable def hL1 (CP:Nat):List (Nat×V):=[(56,.loc CP)]
noncomputable def hL2 (STR CP:Nat):List (Nat×V):=(157,.loc STR)::hL1 CP
noncomputable def hL3 (DS STR CP:Nat):List (Nat×V):=(61,.loc DS)::hL2 STR CP
noncomputable def hS1 (n:Nat):List (Nat×V):=[(79,.loc (n+4))]
noncomputable def hS2 (n:Nat):List (Nat×V):=(145,.loc (n+5))::hS1 n
noncomputable def hS3 (n SG:Nat):List (Nat×V):=(148,.loc SG)::hS2 n
noncomputable def hD1 (n:Nat):List (Nat×V):=[(134,.loc (n+11))]
noncomputable def hVs (n:Nat):List (Nat×Nat×V):=[(71,17,.loc (n+6)),(58,9,.loc (n+7)),(53,8,.loc (n+8)),(184,31,.loc (n+9)),(50,7,.loc (n+10))]
noncomputable def mpOf (n H STR DS SG ST TK TD CP:Nat):Mp:=⟨H,STR,DS,SG,ST,TK,TD,CP,n+1,n,n+2,n+3,n+4,n+5,n+6,n+7,n+8,n+9,n+10,n+11⟩
structure HB (σ1:St) (n H STR DS SG CP:Nat) (ws:List Nat) (gl:List Nat) (σ:St) (L:List (Nat×V)) (N:Nat):Prop where
 h:Hst σ1 σ n H L N
 d:Prt σ1 σ DS (hD1 n) 15
 s:Prt σ1 σ STR (hS3 n SG) 17
 g:SgI σ1 σ SG ws gl [H,STR]
 c:σ CP=some (.dict [])
noncomputable def okVs (n:Nat):List (Nat×V)→List (Nat×Nat×V)→Bool
 | _,[]=>true
 | L,t::r=>fieldOk t.1 && (!(L.any fun p=>Jc5 p.1 t.1) && ((flook (frH n) t.2.1).isNone && okVs n ((t.1,t.2.2)::L) r))
section
variable {Γ:Gl} {k:Nat} {σ σ1:St} {n TB TK ST TD:Nat} {sv:List (List Int)} {Q:V→St→Prop}
seal itemV attrV setAV setIV biV listM methL sliceV iterV inV newV
theorem nj (n:Nat) {i j:Nat} (h:Jc5 i j=false:=by rfl):n+i∉[n+j]:=fun t=>by rw [Nat.add_left_cancel (Ja4.mp t),Ji1] at h;cases h
theorem HB.but {H STR DS SG CP:Nat} {ws gl:List Nat} {L L':List (Nat×V)} {N N':Nat} {c:Cell} (B:HB σ1 n H STR DS SG CP ws gl σ L N) (nD:DS≠H) (nS:STR≠H) (nG:SG≠H) (nC:CP≠H) (h:Hst σ1 (upd σ H c) n H L' N'):HB σ1 n H STR DS SG CP ws gl (upd σ H c) L' N':=
 ⟨h,B.d.but nD,B.s.but nS,B.g.keep (fun c e=>(upd_ne _ _ nG).trans e) fun l hl c e=>(upd_ne _ _ fun q:l=H=>B.g.nh l hl (q▸.head _)).trans e,(upd_ne _ _ nC).trans B.c⟩
theorem host_vars {H STR DS SG CP:Nat} {ws gl:List Nat} {m:List (Nat×V)} {rest:List S} {Q:SPost} (nD:DS≠H) (nS:STR≠H) (nG:SG≠H) (nC:CP≠H) {vs:List (Nat×Nat×V)}:∀ {σ:St} {L:List (Nat×V)} {N:Nat},HB σ1 n H STR DS SG CP ws gl σ L N→okVs n L vs=true→(vs.map fun t=>look m t.2.1)=vs.map (fun t=>some t.2.2)→N+vs.length≤90→
  (∀ σ',HB σ1 n H STR DS SG CP ws gl σ' (vs.foldl (fun L t=>(t.1,t.2.2)::L) L) (N+vs.length)→wpSs (wpS Γ k (frH n) 10) rest m σ' Q)→wpSs (wpS Γ k (frH n) 10) (vs.map (fun t=>.setA (.var 85) t.1 (.var t.2.1))++rest) m σ Q:=by
 induction vs with
 | nil=>exact fun B _ _ _ q=>q _ B
 | cons t r ih=>
  intro σ L N B ok hm hN q
  obtain ⟨o1,ok⟩:=(Jd1 _ _).mp ok
  obtain ⟨o2,ok⟩:=(Jd1 _ _).mp ok
  obtain ⟨o3,ok⟩:=(Jd1 _ _).mp ok
  refine host_var B.h (Ja1 (Jc6 _ _) hN) o1 (by simpa using o2) (List.cons.inj hm).1 (Option.isNone_iff_eq_none.mp o3) fun hs e h=>?_
  exact ih (B.but nD nS nG nC h) ok (List.cons.inj hm).2 (Ja1 (Je5 (Jf4 N r.length)) hN) fun σ' B'=>q σ' ((Jf4 N r.length:N+1+r.length=N+(r.length+1))▸B')
theorem host_spec {its:List Item} {cH:Addr} (HO:HostOk Γ its cH) (hsh:its.map (·.2)=hostShape) (L0:Lib Γ):HostSpec Γ:=by
 intro k σ TB TK ST TD tls sv Q hTB hTK hST hTD hsv q
 refine WC_host (k:=k+4) (nn:=10) HO hTB fun n hn0 hi=>?_
 rw [stF_eq,mF_eq,hsh,hostM_eq]
 have h0:=host0 (TK:=TK) (ST:=ST) (TD:=TD) hTB hi
 revert h0
 refine gen (stG (frH n) hostShape (n+4) 0 (upd (exts σ n [.cell (.loc TK),.cell (.loc ST),.cell (.loc TD),.unset]) TB .any)) ?_
 intro σ1
 intros
 have fresh:∀ {l},σ1 l=none→σ l=none:=fun {l} h=>by
  by_cases q:l=TB
  ·rw [q,h0.tb] at h;cases h
  ·exact h0.b.none (fun t=>q (Ja4.mp t)) h
 have hST1:σ1 ST=some (vecsC sv):=h0.b _ _ (fun t=>(st_ne hST hTB) (Ja4.mp t)) hST
 have hST3:ST≠n+3:=st_ne hST (hi _ (Jc6 n 3))
 let Jq1:List (Nat×V)→St→Prop:=fun m2 σ2=>m2=hostM n TK ST TD∧∃ H,Hst σ1 σ2 n H [] 14
 refine wpSs_join Jq1 (fun Q9 q9=>?_) (fun m2 σ2 hj=>?_)
 ·intro a ha
  intro b hb
  conv=>whnf
  obtain ⟨hb0,hba⟩:=upd_none hb
  have x0:Ext σ1 (upd (upd σ1 a (.list [])) b (.list [])):=((Ext.refl _).upd ha _).upd hb0 _
  refine spec_thread (k:=k+3) L0 fun H nc ns nd σ2 x1 hH _ _ eH _=>?_
  have x2:=x0.trans x1
  have hH1:=x0.new hH
  have nH3:H≠n+3:=st_ne hH1 h0.c3
  refine ⟨⟨.unset,x2 _ _ h0.c3,rfl⟩,?_⟩
  exact (q9 _ _ _ ⟨rfl,H,⟨(Ext.buts x2).set _ (.inl (.head _)),⟨_,(upd_ne _ _ nH3).trans eH,Jd7 _,fun p hp=>(Jc3 hp).elim⟩,upd_self ..,hH1⟩⟩)
 refine gabs fun gG gK=>?_
 obtain ⟨rfl,H,h1⟩:=hj
 refine gK ?_
 let Jq2:List (Nat×V)→St→Prop:=fun m3 σ3=>m3=hostM n TK ST TD∧∃ CP,And5 (Hst σ1 σ3 n H (hL1 CP) 15) (σ3 CP=some (.dict [])) (σ1 CP=none) (CP≠H) (CP≠n+3)
 refine wpSs_join Jq2 (fun Q9 q9=>?_) (fun m3 σ3 hj=>?_)
 ·intro CP hCP
  conv=>whnf
  have x:=(Ext.refl σ2).upd hCP (.dict [])
  have eCP:upd σ2 CP (.dict []) CP=some (.dict []):=upd_self ..
  have h2:=h1.ext x
  revert x eCP h2
  refine gen (upd σ2 CP (.dict [])) ?_
  intro σ3
  intros
  refine gabs fun gG gK=>?_
  obtain ⟨hs,e,ha⟩:=h2.h
  refine gK ?_
  have nCH:CP≠H:=st_ne eCP e
  have nC3:CP≠n+3:=st_ne eCP h2.c
  have hCP1:σ1 CP=none:=h1.b.none (fun t=>nC3 (Ja4.mp t)) hCP
  refine ⟨_,h2.c,?_⟩
  refine ⟨rfl,setA_i e (Ja1 ha.len (Ja0 rfl)) ?_⟩
  exact (q9 _ _ _ ⟨rfl,CP,h2.set e ha rfl,(upd_ne _ _ nCH).trans eCP,hCP1,nCH,nC3⟩)
 refine gabs fun gG gK=>?_
 obtain ⟨rfl,CP,h2,eCP,hCP1,nCH,nC3⟩:=hj
 refine gK ?_
 refine host_new (k:=k+3) L0 h2 (by decide) rfl rfl fun STR σ4 h4o p4 nS4 hS4 k4=>?_
 have h4:Hst σ1 σ4 n H (hL2 STR CP) 16:=h4o
 clear h4o
 have eCP4:=k4 _ _ nCH eCP
 have nSC:STR≠CP:=st_ne hS4 eCP
 refine host_part (X:=STR) h4 p4 nS4 (by decide) rfl (.head _) rfl rfl (m:=hostM n TK ST TD) (y:=13) (v:=.loc (n+4)) rfl rfl fun ss5 e5 h5 p5o=>?_
 have p5:Prt σ1 (upd σ4 STR (.inst 4 (put ss5 79 (.loc (n+4))))) STR (hS1 n) 15:=p5o
 clear p5o
 have eCP5:upd σ4 STR (.inst 4 (put ss5 79 (.loc (n+4)))) CP=some (.dict []):=(upd_ne _ _ (Ne.symm nSC)).trans eCP4
 revert h5 p5 eCP5
 refine gen (upd σ4 STR (.inst 4 (put ss5 79 (.loc (n+4))))) ?_
 intro σ5
 intros
 refine host_part (X:=STR) h5 p5 nS4 (by decide) rfl (.head _) rfl rfl (m:=hostM n TK ST TD) (y:=25) (v:=.loc (n+5)) rfl rfl fun ss6 e6 h6 p6o=>?_
 have p6:Prt σ1 (upd σ5 STR (.inst 4 (put ss6 145 (.loc (n+5))))) STR (hS2 n) 16:=p6o
 clear p6o
 have eCP6:upd σ5 STR (.inst 4 (put ss6 145 (.loc (n+5)))) CP=some (.dict []):=(upd_ne _ _ (Ne.symm nSC)).trans eCP5
 revert h6 p6 eCP6
 refine gen (upd σ5 STR (.inst 4 (put ss6 145 (.loc (n+5))))) ?_
 intro σ6
 intros
 let Jq3:List (Nat×V)→St→Prop:=fun m7 σ7=>m7=hostM n TK ST TD∧∃ SG,And6 (Hst σ1 σ7 n H (hL2 STR CP) 16) (Prt σ1 σ7 STR (hS3 n SG) 17) (σ7 SG=some (.list [])) (σ1 SG=none) (σ7 CP=some (.dict [])) (SG≠STR)
 refine wpSs_join Jq3 (fun Q9 q9=>?_) (fun m7 σ7 hj=>?_)
 ·intro SG hSG
  conv=>whnf
  have x:=(Ext.refl σ6).upd hSG (.list [])
  have eSG:upd σ6 SG (.list []) SG=some (.list []):=upd_self ..
  have h7:=h6.ext x
  have p7:=p6.ext x
  have eCP7:=x _ _ eCP6
  revert x eSG h7 p7 eCP7
  refine gen (upd σ6 SG (.list [])) ?_
  intro σ7
  intros
  refine gabs fun gG gK=>?_
  obtain ⟨hs,e,ha⟩:=h7.h
  obtain ⟨ss,es,hsa⟩:=p7.h
  refine gK ?_
  have nSS:SG≠STR:=st_ne eSG es
  have nS3:SG≠n+3:=st_ne eSG h7.c
  have n3S:n+3≠STR:=st_ne h7.c es
  have hSG1:σ1 SG=none:=h6.b.none (fun t=>nS3 (Ja4.mp t)) hSG
  refine ⟨_,h7.c,?_⟩
  refine ⟨rfl,attr_i e (ha.at 0 rfl) ?_⟩
  refine ⟨rfl,setA_i es (Ja1 hsa.len (Ja0 rfl)) ?_⟩
  exact (q9 _ _ _ ⟨rfl,SG,h7.but p7.f (Ne.symm nS4) n3S,p7.set es hsa rfl,(upd_ne _ _ nSS).trans eSG,hSG1,(upd_ne _ _ (Ne.symm nSC)).trans eCP7,nSS⟩)
 refine gabs fun gG gK=>?_
 obtain ⟨rfl,SG,h7,p7,eSG,hSG1,eCP7,nSS⟩:=hj
 refine gK ?_
 have hc1:∀ {σc L N},Hst σ1 σc n H L N→σc (n+1)=some (.cell (.loc ST)):=fun h=>h.b _ _ (nj n) h0.c1
 let Jq4:List (Nat×V)→St→Prop:=fun m8 σ8=>m8=hostM n TK ST TD∧∃ gl,And5 (Hst σ1 σ8 n H (hL2 STR CP) 16) (Prt σ1 σ8 STR (hS3 n SG) 17) (SgI σ1 σ8 SG (wid sv) gl [H,STR]) (gl.length=sv.length) (σ8 CP=some (.dict []))
 refine wpSs_join Jq4 (fun Q9 q9=>?_) (fun m8 σ8 hj=>?_)
 ·have nCS:CP≠SG:=st_ne eCP7 eSG
  exact host_loop (k:=k+3) L0 h7 p7 nS4 (.head _) (.head _) eSG hSG1 hST1 hST3 (hc1 h7) hsv fun σ' gl h8 p8 sg hgl b=>q9 _ _ _ ⟨rfl,gl,h8,p8,sg,hgl,b _ _ (nm1 nCS) eCP7⟩
 refine gabs fun gG gK=>?_
 obtain ⟨rfl,gl,h8,p8,sg8,hgl,eCP8⟩:=hj
 refine gK ?_
 refine host_new (k:=k+3) L0 h8 (by decide) rfl rfl fun DS σ9 h9o p9 nD hD k9=>?_
 have h9:Hst σ1 σ9 n H (hL3 DS STR CP) 17:=h9o
 clear h9o
 have nSH:STR≠H:=nS4
 have p9s:Prt σ1 σ9 STR (hS3 n SG) 17:=⟨p8.h.elim fun ss x=>⟨ss,k9 _ _ nSH x.1,x.2⟩,p8.f⟩
 have nDS:DS≠STR:=p8.h.elim fun _ x=>st_ne hD x.1
 have eCP9:=k9 _ _ nCH eCP8
 have nDC:DS≠CP:=st_ne hD eCP8
 have ngl:∀ l∈gl,l≠H∧l≠STR:=fun l hl=>⟨fun q=>sg8.nh l hl (q▸.head _),fun q=>sg8.nh l hl (q▸.tail _ (.head _))⟩
 have nglD:∀ l∈gl,l≠DS:=fun l hl=>(sg8.f l hl).2.elim fun _ e=>st_ne e hD
 have nSGH:SG≠H:=h8.h.elim fun _ x=>st_ne sg8.at_ x.1
 have nSGD:SG≠DS:=st_ne sg8.at_ hD
 have sg9:SgI σ1 σ9 SG (wid sv) gl [H,STR]:=sg8.keep (fun c e=>k9 _ _ nSGH e) fun l hl c e=>k9 _ _ (ngl l hl).1 e
 refine host_part (X:=DS) h9 p9 nD (by decide) rfl (.head _) rfl rfl (m:=hostM n TK ST TD) (y:=22) (v:=.loc (n+11)) rfl rfl fun ss10 e10 h10 p10o=>?_
 have p10:Prt σ1 (upd σ9 DS (.inst 4 (put ss10 134 (.loc (n+11))))) DS (hD1 n) 15:=p10o
 clear p10o
 have p10s:Prt σ1 (upd σ9 DS (.inst 4 (put ss10 134 (.loc (n+11))))) STR (hS3 n SG) 17:=p9s.but (Ne.symm nDS)
 have sg10:SgI σ1 (upd σ9 DS (.inst 4 (put ss10 134 (.loc (n+11))))) SG (wid sv) gl [H,STR]:=sg9.keep (fun c e=>(upd_ne _ _ nSGD).trans e) fun l hl c e=>(upd_ne _ _ (nglD l hl)).trans e
 have eCP10:upd σ9 DS (.inst 4 (put ss10 134 (.loc (n+11)))) CP=some (.dict []):=(upd_ne _ _ (Ne.symm nDC)).trans eCP9
 revert h10 p10 p10s sg10 eCP10
 refine gen (upd σ9 DS (.inst 4 (put ss10 134 (.loc (n+11))))) ?_
 intro σ10
 intros
 have B10:HB σ1 n H STR DS SG CP (wid sv) gl σ10 (hL3 DS STR CP) 17:=⟨h10,p10,p10s,sg10,eCP10⟩
 clear h2 h4 h5 h6 h7 h8 h9 p4 p5 p6 p7 p8 p9 p9s sg8 sg9
 refine host_vars nD nSH nSGH nCH (vs:=hVs n) B10 rfl rfl (Ja0 rfl) fun σ15 B15=>?_
 clear h10 p10 p10s sg10 eCP10 B10
 obtain ⟨h15,d15,s15,g15,c15⟩:=B15
 have at1:∀ {l:Nat} {c:Cell},σ1 l=some c→l≠n+3→σ15 l=some c:=fun e h=>h15.b _ _ (fun t=>h (Ja4.mp t)) e
 have nw:∀ {l:Nat} {c:Cell},σ l=none→σ15 l=some c→l≠CP→grow (fun _=>none) σ σ15 [CP] l=some c:=fun e h1 h2=>grow_new e h1 fun t=>h2 (Ja4.mp t)
 have kk:∀ j {c:Cell},σ1 (n+j)=some c→Jc5 j 3=false→grow (fun _=>none) σ σ15 [CP] (n+j)=some c:=fun j c e h=>nw (hi _ (Jc6 n j)) (at1 e fun q=>by rw [Nat.add_left_cancel q] at h;cases h) fun q=>by rw [q,hCP1] at e;cases e
 refine gabs fun gG gK=>?_
 obtain ⟨hs,eH,haH⟩:=h15.h
 obtain ⟨ss,eS,haS⟩:=s15.h
 obtain ⟨ds,eD,haD⟩:=d15.h
 refine gK ?_
 refine ⟨_,h15.c,?_⟩
 refine q σ15 (mpOf n H STR DS SG ST TK TD CP) (fun i c h e=>at1 (h0.b i c h e) (st_ne e (hi _ (Jc6 n 3)))) (at1 h0.tb (Nat.ne_of_lt (Jc8 h0.lt (Jc6 n 3)))) rfl rfl rfl (fresh hCP1) ?_ ?_ c15
 ·exact { host:=⟨hs,nw (fresh h15.f) eH (Ne.symm nCH),haH.at 7 rfl,haH.at 6 rfl,haH.at 5 rfl,haH.at 4 rfl,haH.at 3 rfl,haH.at 2 rfl,haH.at 1 rfl,haH.at 0 rfl⟩,store:=⟨ss,nw (fresh s15.f) eS nSC,haS.at 2 rfl,haS.at 1 rfl,haS.at 0 rfl⟩,design:=⟨ds,nw (fresh d15.f) eD nDC,haD.at 0 rfl⟩,kS:=kk 1 h0.c1 rfl,kT:=kk 0 h0.c0 rfl,kD:=kk 2 h0.c2 rfl,kH:=nw (hi _ (Jc6 n 3)) h15.c (Ne.symm nC3),get:=kk 4 h0.f0 rfl,set:=kk 5 h0.f1 rfl,now:=kk 6 h0.f2 rfl,ctx:=kk 7 h0.f3 rfl,clo:=kk 8 h0.f4 rfl,wri:=kk 9 h0.f5 rfl,chg:=kk 10 h0.f6 rfl,rou:=kk 11 h0.f7 rfl }
 ·have nSGC:SG≠CP:=st_ne g15.at_ c15
  refine ⟨gl,nw (fresh hSG1) g15.at_ nSGC,hgl.trans (Ja2 _).symm,fun i l w hl hw=>?_⟩
  refine gabs fun gG gK=>?_
  obtain ⟨as,e,f⟩:=g15.w i l w hl hw
  refine gK ?_
  exact ⟨as,nw (fresh (g15.f l (Ja9 hl)).1) e (st_ne e c15),f⟩
end
end
section
theorem fa1 {α:Type} {P:α→Prop} {a:α} (h1:P a):∀ l∈[a],P l:=Ja7.mpr ⟨h1,fun _ h=>by cases h⟩
theorem fa2 {α:Type} {P:α→Prop} {a b:α} (h1:P a) (h2:P b):∀ l∈[a,b],P l:=Ja7.mpr ⟨h1,fa1 h2⟩
theorem fa3 {α:Type} {P:α→Prop} {a b c:α} (h1:P a) (h2:P b) (h3:P c):∀ l∈[a,b,c],P l:=Ja7.mpr ⟨h1,fa2 h2 h3⟩
theorem nl {σ:St} {l:Nat} {c:Cell} (e:σ l=some c):σ l≠none:=fun q=>by rw [q] at e;cases e
theorem not_in1 {a b:Nat} (h:a≠b):a∉[b]:=fun q=>h (Ja4.mp q)
theorem not_in3 {a b c d:Nat} (h1:a≠b) (h2:a≠c) (h3:a≠d):a∉[b,c,d]:=fun q=>(Jc0.mp q).elim h1 fun q=>(Jc0.mp q).elim h2 fun q=>h3 (Ja4.mp q)
theorem nd3 {a b c:Nat} (h1:a≠b) (h2:a≠c) (h3:b≠c):[a,b,c].Nodup:=Jb6.mpr ⟨fun q=>(Jc0.mp q).elim h1 fun q=>h2 (Ja4.mp q),Jb6.mpr ⟨not_in1 h3,Jb6.mpr ⟨Jc3,Jg8⟩⟩⟩
theorem nd2 {a b:Nat} (h:a≠b):[a,b].Nodup:=Jb6.mpr ⟨not_in1 h,Jb6.mpr ⟨Jc3,Jg8⟩⟩
theorem nd1 (a:Nat):[a].Nodup:=Jb6.mpr ⟨Jc3,Jg8⟩
theorem not_in2 {a b c:Nat} (h1:a≠b) (h2:a≠c):a∉[b,c]:=fun q=>(Jc0.mp q).elim h1 fun q=>h2 (Ja4.mp q)
theorem Fz.grow {Z σ σ':St} {P NM:List Nat} (z:Fz Z P σ) (b:ButS P σ σ') (hP:∀ l∈P,σ l≠none) (hN:∀ l∈NM,σ l=none):Fz (Mine.grow Z σ σ' NM) (P++NM) σ'∧Ext Z (Mine.grow Z σ σ' NM)∧Ext (Mine.grow (fun _=>none) σ σ' NM) (Mine.grow Z σ σ' NM):=by
 refine ⟨⟨fun i c e=>?_,fun i hi=>?_⟩,fun i c e=>?_,fun i c e=>?_⟩
 ·unfold Mine.grow at e
  cases q:σ i with
  | none=>
   rw [q] at e
   dsimp only at e
   split at e
   ·cases e
   ·exact e
  | some d=>
   rw [q] at e
   exact b i c (fun h=>by rw [z.out i h] at e;cases e) (z.sub i c e)
 ·unfold Mine.grow
  cases q:σ i with
  | none=>
   dsimp only
   split
   ·rfl
   ·rename_i hn
    rcases Jd0.mp hi with h | h
    ·exact absurd q (hP i h)
    ·exact absurd h hn
  | some d=>
   rcases Jd0.mp hi with h | h
   ·exact z.out i h
   ·rw [hN i h] at q;cases q
 ·unfold Mine.grow;rw [z.sub i c e];exact e
 ·unfold Mine.grow at e ⊢
  cases q:σ i with
  | none=>rw [q] at e;exact e
  | some d=>rw [q] at e;cases e
theorem grow_old {Z σ σ':St} {L:List Nat} {i:Nat} {c:Cell} (h:σ i=some c):Mine.grow Z σ σ' L i=Z i:=by unfold Mine.grow;rw [h]
section
variable {Γ:Gl} {k:Nat} {σ Z:St}
seal itemV attrV setAV setIV biV listM methL sliceV iterV inV newV
structure LA (TB l:Nat) (xs:List V) (σ:St):Prop where
 tb:σ TB=some .tab
 ro:σ l=some (.ro xs)
theorem LA.ext {TB l:Nat} {xs:List V} {σ σ':St} (h:LA TB l xs σ) (x:Ext σ σ'):LA TB l xs σ':=⟨x _ _ h.tb,x _ _ h.ro⟩
theorem LA.but {TB l i:Nat} {xs ys:List V} {σ σ':St} (h:LA TB l xs σ) (b:But i σ σ') (e:σ i=some (.list ys)):LA TB l xs σ':=⟨b _ _ (st_ne h.tb e) h.tb,b _ _ (st_ne h.ro e) h.ro⟩
theorem ButS.but1 {l:Nat} {x y:St} (h:ButS [l] x y):But l x y:=fun i c n e=>h i c (fun q=>n (Ja4.mp q)) e
noncomputable def lA1 (l B:Nat):List (Nat×V):=[(142,.loc l),(42,.loc B)]
noncomputable def lA2 (l B SL:Nat):List (Nat×V):=[(142,.loc l),(42,.loc B),(150,.loc SL)]
theorem Bs.lit {B SL l2:Nat} {sl:List Nat} {sv:List (List Int)} {b:List Int} {σ σ1:St} {r:List Int} (S:Bs σ B SL sl sv b) (hr:Rok r) (x:Ext σ σ1) (hl2:σ l2=none) (e:σ1 l2=some (rowC r)):Bs (upd σ1 SL (.list (((sl++[l2]).map some).map optV))) B SL (sl++[l2]) (sv++[r]) b:=
 (S.ext x).snoc e (fun q=>(S.live q).elim fun r e=>by rw [hl2] at e;cases e) (fun q=>live_ne S.w.at_ hl2 q.symm) (fun q=>live_ne S.e hl2 q.symm) hr
theorem Bs.one {B SL l0:Nat} {b r:List Int} {σ1:St} (hSL:σ1 SL=none) (eB:σ1 B=some (rowC b)) (el:σ1 l0=some (rowC r)) (hb:BagOk b) (hn:l0≠B) (hr:Rok r):Bs (upd σ1 SL (.list [.loc l0])) B SL [l0] [r] b:=by
 have n1:B≠SL:=live_ne eB hSL
 have n2:l0≠SL:=live_ne el hSL
 refine ⟨⟨upd_self ..,rfl,fun i a r' ha hr'=>?_⟩,(upd_ne _ _ n1).trans eB,hb,n1,fun q=>hn (Ja4.mp q).symm,Jb6.mpr ⟨Jc3,Jg8⟩,fun q=>n2 (Ja4.mp q).symm,fun r' h=>Ja4.mp h▸hr⟩
 cases i with
 | zero=>cases ha;cases hr';exact (upd_ne _ _ n2).trans el
 | succ i=>cases ha
theorem law_A (L:Lib Γ) {l TB:Nat} {xs:List Int} {Q:SPost} (hTB:σ TB=some .tab) (e:σ l=some (.ro (xs.map V.int))) (hl:xs.length≤5000) {rest:List S}
  (q:∀ B SL sl sv b σ',σ' TB=some .tab→σ' l=some (.ro (xs.map V.int))→Bs σ' B SL sl sv b→sv.length=4→(∃ a,wid sv=[4,a,2,3])→wpSs (wpS Γ (k+10) [] 10) rest [(142,.loc l),(42,.loc B),(150,.loc SL)] σ' Q) :
  wpSs (wpS Γ (k+10) [] 10) (.asg 42 (.call 5 [(.var 142)])::.asg 150 (.list [(.call 10 [(.var 42),(.int 4)])])::.expr (.meth (.var 150) 37 [(.call 10 [(.var 42),(.bin .Add (.int 1) (.call 20 [(.var 42),(.int 3)]))])])::
   .expr (.meth (.var 150) 37 [(.list [(.int 1),(.int 0)])])::.expr (.meth (.var 150) 37 [(.list [(.int 0),(.int 1),(.int 1)])])::rest) [(142,.loc l)] σ Q:=by
 let Jq1:List (Nat×V)→St→Prop:=fun m1 σ1=>Ex2 fun B b=>And4 (m1=lA1 l B) (LA TB l (xs.map V.int) σ1) (BagOk b) (σ1 B=some (rowC b))
 refine wpSs_join Jq1 (fun Q9 q9=>?_) (fun m1 σ1 h=>?_)
 ·exact spec_bag (k:=k+9) L e hl fun σ' B b x hB hb eB=>q9 _ _ _ ⟨B,b,rfl,⟨x _ _ hTB,x _ _ e⟩,hb,eB⟩
 clear hTB e
 refine gabs fun gG gK=>?_
 obtain ⟨B,b,rfl,A1,hb,eB⟩:=h
 refine gK ?_
 let Jq2:List (Nat×V)→St→Prop:=fun m2 σ2=>Ex4 fun SL l0 r0 b=>And4 (m2=lA2 l B SL) (LA TB l (xs.map V.int) σ2) (r0.length=4) (Bs σ2 B SL [l0] [r0] b)
 refine wpSs_join Jq2 (fun Q9 q9=>?_) (fun m2 σ2 h=>?_)
 ·refine spec_drawn (k:=k+8) (w:=4) L hb eB (Ja0 rfl) fun r b1 l0 σ1 hr hrl hb1 hn hl0 el0 eB1 hbut=>?_
  intro SL hSL
  conv=>whnf
  have A2:=(A1.but hbut eB).ext ((Ext.refl _).upd hSL (.list [.loc l0]))
  exact q9 _ _ _ ⟨SL,l0,r,b1,rfl,A2,hrl,Bs.one hSL eB1 el0 hb1 hn ⟨hr,(fun e=>by rw [e] at hrl;cases hrl),hrl▸Ja0 rfl⟩⟩
 refine gabs fun gG gK=>?_
 obtain ⟨SL,l0,r0,b0,rfl,A2,hr0,S0⟩:=h
 refine gK ?_
 let Jq3:List (Nat×V)→St→Prop:=fun m3 σ3=>Ex3 fun l1 r1 b=>And3 (m3=lA2 l B SL) (LA TB l (xs.map V.int) σ3) (Bs σ3 B SL ([l0]++[l1]) ([r0]++[r1]) b)
 refine wpSs_join Jq3 (fun Q9 q9=>?_) (fun m3 σ3 h=>?_)
 ·refine meth_l S0.w.at_ ?_
  refine ⟨rfl,?_⟩
  refine pullS (k:=k+9) L S0 (by decide) fun g b1 σ1 hg y1 S1=>?_
  conv=>whnf
  rw [show (1:Int)+(g:Int)=((1+g:Nat):Int) from (Int.natCast_add 1 g).symm]
  have hw:1+g≤50:=Ja1 (Je4 (Jc4 (Jc1.mp hg)) 1) (Ja0 rfl)
  refine drawnS (k:=k+8) L S1 (w:=1+g) ⟨Jc6 _ _,hw⟩ fun r b2 l1 σ4 hr hrl hlB hl1 el1 y2 S2=>?_
  refine append_l S2.w.at_ (Ja0 rfl) ?_
  have lSL:l1≠SL:=fun q=>live_ne S1.w.at_ hl1 q.symm
  have ll:l1∉[l0]:=fun q=>(S1.live q).elim fun r e=>by rw [hl1] at e;cases e
  exact okZ (q9 _ _ _ ⟨l1,r,b2,rfl,((A2.but y1.but1 S0.e).but y2.but1 S1.e).but (.upd _) S2.w.at_,S2.snoc el1 ll lSL hlB hr⟩)
 clear A1 A2
 refine gabs fun gG gK=>?_
 obtain ⟨l1,r1,b1,rfl,A3,S1⟩:=h
 refine gK ?_
 let Jq4:List (Nat×V)→St→Prop:=fun m4 σ4=>∃ l2,And3 (m4=lA2 l B SL) (LA TB l (xs.map V.int) σ4) (Bs σ4 B SL ([l0]++[l1]++[l2]) ([r0]++[r1]++[[1,0]]) b1)
 refine wpSs_join Jq4 (fun Q9 q9=>?_) (fun m4 σ4 h=>?_)
 ·refine meth_l S1.w.at_ ?_
  refine ⟨rfl,?_⟩
  refine new_g fun l2 σa x hl2 e2=>?_
  refine append_l (x _ _ S1.w.at_) (Ja0 rfl) ?_
  exact okZ (q9 _ _ _ ⟨l2,rfl,(A3.ext x).but (.upd _) (x _ _ S1.w.at_),S1.lit (r:=[1,0]) (rok_c (by decide) (by decide)) x hl2 e2⟩)
 refine gabs fun gG gK=>?_
 obtain ⟨l2,rfl,A4,S2⟩:=h
 refine gK ?_
 let Jq5:List (Nat×V)→St→Prop:=fun m5 σ5=>∃ l3,And3 (m5=lA2 l B SL) (LA TB l (xs.map V.int) σ5) (Bs σ5 B SL ([l0]++[l1]++[l2]++[l3]) ([r0]++[r1]++[[1,0]]++[[0,1,1]]) b1)
 refine wpSs_join Jq5 (fun Q9 q9=>?_) (fun m5 σ5 h=>?_)
 ·refine meth_l S2.w.at_ ?_
  refine ⟨rfl,?_⟩
  refine new_g fun l3 σa x hl3 e3=>?_
  refine append_l (x _ _ S2.w.at_) (Ja0 rfl) ?_
  exact okZ (q9 _ _ _ ⟨l3,rfl,(A4.ext x).but (.upd _) (x _ _ S2.w.at_),S2.lit (r:=[0,1,1]) (rok_c (by decide) (by decide)) x hl3 e3⟩)
 refine gabs fun gG gK=>?_
 obtain ⟨l3,rfl,A5,S3⟩:=h
 refine gK ?_
 exact q B SL _ _ b1 σ5 A5.tb A5.ro S3 rfl ⟨r1.length,(show [r0.length,r1.length,2,3]=_ by rw [hr0])⟩
end
end
section
section
variable {Γ:Gl} {k:Nat} {σ Z:St} {B SL:Nat} {sl:List Nat} {sv:List (List Int)} {b:List Int}
seal itemV attrV setAV setIV biV listM methL sliceV iterV inV newV
theorem Bs.lives (S:Bs σ B SL sl sv b):∀ l∈B::SL::sl,σ l≠none:=fun l hl=>by
 rcases Jc0.mp hl with rfl | hl
 ·exact nl S.e
 ·rcases Jc0.mp hl with rfl | hl
  ·exact nl S.w.at_
  ·exact (S.live hl).elim fun r e=>nl e
theorem task0_ok {ws:List Nat} (h2:ws[2]?=some 2) (h3:ws[3]?=some 3):TaskOk ws task0:=by
 refine ⟨by decide,Ja7.mpr ⟨by decide,Ja7.mpr ⟨by decide,fun _ h=>(Jc3 h).elim⟩⟩,Ja7.mpr ⟨⟨by decide,by decide,ft,fun _=>h2⟩,Ja7.mpr ⟨⟨by decide,by decide,ft,fun _=>h3⟩,Ja7.mpr ⟨⟨by decide,by decide,fun _=>rfl,tf⟩,fun _ h=>(Jc3 h).elim⟩⟩⟩⟩
theorem law_B (L:Lib Γ) {l:V} {TB a0:Nat} {xs0:List V} {Q:SPost} {rest:List S} (hTB:σ TB=some .tab) (hro:σ a0=some (.ro xs0)) (S:Bs σ B SL sl sv b) (h4:sv.length=4) (hw:∃ a,wid sv=[4,a,2,3])
  (q:∀ pl TK tl0 tl1 t1 sx sy b' Z σ',σ' TB=some .tab→Z TB=none→σ' a0=some (.ro xs0)→Z a0=none→Bs σ' B SL (sl++sx) (sv++sy) b'→sy.length≤10→Fz Z (B::SL::(sl++sx)) σ'→Z TK=some (.list [.loc tl0,.loc tl1])→TaskAt Z tl0 task0→TaskAt Z tl1 t1→t1.num=1→TaskOk (wid (sv++sy)) t1→TaskOk (wid (sv++sy)) task0→
   wpSs (wpS Γ (k+10) [] 10) rest [(142,l),(42,.loc B),(150,.loc SL),(126,.loc pl),(164,.loc TK)] σ' Q) :
  wpSs (wpS Γ (k+10) [] 10) (.asg 126 (.list [(.tup [(.str 90),(.int 2),(.bool true),(.str 146),(.int 2)]),(.tup [(.str 89),(.int 3),(.bool false),(.str 146),(.int 3)]),(.tup [(.str 115),(.int 2),(.bool true),(.str 101),(.int 0)])])::
   .asg 164 (.list [(.call 27 [(.int 0),(.list [(.int 2),(.int 3)]),(.var 126),(.int 1),(.int 5)]),(.call 24 [(.var 42),(.var 150)])])::rest) [(142,l),(42,.loc B),(150,.loc SL)] σ Q:=by
 have lv:=S.lives
 let Jq1:List (Nat×V)→St→Prop:=fun m1 σ1=>∃ pl,And4 (m1=[(142,l),(42,.loc B),(150,.loc SL),(126,.loc pl)]) (Ext σ σ1) (σ pl=none) (σ1 pl=some (.list (task0.ports.map Port.v)))
 refine wpSs_join Jq1 (fun Q9 q9=>?_) (fun m1 σ1 h=>?_)
 ·intro pl hpl
  exact (q9 _ _ _ ⟨pl,rfl,(Ext.refl _).upd hpl _,hpl,upd_self ..⟩)
 refine gabs fun gG gK=>?_
 obtain ⟨pl,rfl,x1,hpl,epl⟩:=h
 refine gK ?_
 let Jq2:List (Nat×V)→St→Prop:=fun m2 σ2=>Ex8 fun TK tl0 tl1 t1 sx sy b' Z=>And14 (m2=[(142,l),(42,.loc B),(150,.loc SL),(126,.loc pl),(164,.loc TK)]) (σ2 TB=some .tab) (Z TB=none) (σ2 a0=some (.ro xs0)) (Z a0=none) (Bs σ2 B SL (sl++sx) (sv++sy) b') (sy.length≤10) (Fz Z (B::SL::(sl++sx)) σ2) (Z TK=some (.list [.loc tl0,.loc tl1])) (TaskAt Z tl0 task0) (TaskAt Z tl1 t1) (t1.num=1) (TaskOk (wid (sv++sy)) t1) (TaskOk (wid (sv++sy)) task0)
 refine wpSs_join Jq2 (fun Q9 q9=>?_) (fun m2 σ2 h=>?_)
 ·intro so hso
  conv=>whnf
  have x2:Ext σ1 (upd σ1 so (.list [.int 2,.int 3])):=(Ext.refl _).upd hso _
  have eso:upd σ1 so (.list [.int 2,.int 3]) so=some (.list (task0.slots.map fun (w:Nat)=>V.int (w:Int))):=upd_self ..
  have hso0:σ so=none:=x1.new hso
  revert x2 eso
  refine gen (upd σ1 so (.list [.int 2,.int 3])) ?_
  intro σ2
  intros
  refine (spec_task (k:=0) (num:=0) (turns:=1) (sc:=5) (slots:=task0.slots) (ports:=task0.ports) L eso (x2 _ _ epl) (by decide) fun σ3 tl0 as x3 htl0 etl0 hta=>?_).more (by lia)
  have x03:=(x1.trans x2).trans x3
  have htl00:σ tl0=none:=(x1.trans x2).new htl0
  have z0:Fz (fun _=>none) (B::SL::sl) σ:=⟨(fun i c e=>by cases e),fun _ _=>rfl⟩
  refine gabs fun gG gK=>?_
  obtain ⟨z1,_,_⟩:=z0.grow (NM:=[]) (σ':=σ3) (x03.buts) lv (fun _ hl=>(Jc3 hl).elim)
  refine gK ?_
  have ta0:TaskAt (grow (fun _=>none) σ σ3 []) tl0 task0:=hta.at (t:=task0) (grow_new htl00 etl0 Jc3) (grow_new hso0 (x3 _ _ eso) Jc3) (grow_new hpl (x3 _ _ (x2 _ _ epl)) Jc3)
  have S3:=S.ext x03
  refine spec_second (k:=k+7) L S3 (by lia) fun σ4 tl1 t1 sx sy b' ht1 hn1 hok hsy y4 S4 hsx=>?_
  rw [Jd3] at z1
  refine gabs fun gG gK=>?_
  obtain ⟨z2,w2,w2'⟩:=z1.grow (NM:=sx) (σ':=σ4) (y4.wider fun a ha=>(Jd2 sl ha:a∈[B,SL]++sl)) S3.lives hsx
  refine gK ?_
  intro TK hTK
  have x5:Ext σ4 (upd σ4 TK (.list [.loc tl0,.loc tl1])):=(Ext.refl _).upd hTK _
  have eTK:upd σ4 TK (.list [.loc tl0,.loc tl1]) TK=some (.list [.loc tl0,.loc tl1]):=upd_self ..
  have S5:=S4.ext x5
  revert x5 eTK S5
  refine gen (upd σ4 TK (.list [.loc tl0,.loc tl1])) ?_
  intro σ5
  intros
  have z2':Fz (grow (grow (fun _=>none) σ σ3 []) σ3 σ4 sx) (B::SL::(sl++sx)) σ4:=z2
  refine gabs fun gG gK=>?_
  obtain ⟨z3,w3,_⟩:=z2'.grow (NM:=[]) (σ':=σ5) x5.buts S4.lives (fun _ hl=>(Jc3 hl).elim)
  refine gK ?_
  conv=>whnf
  obtain ⟨a,hw⟩:=hw
  have hw':∀ i,i<4→(wid (sv++sy))[i]?=(wid sv)[i]?:=fun i hi=>by unfold wid;rw [Jb5,Jb4 (by simp;lia)]
  have hTB3:=x03 _ _ hTB
  have hTB4:=y4 _ _ (not_in2 (st_ne hTB S.e) (st_ne hTB S.w.at_)) hTB3
  have hro3:=x03 _ _ hro
  have hro4:=y4 _ _ (not_in2 (st_ne hro S.e) (st_ne hro S.w.at_)) hro3
  refine (q9 _ _ _ ⟨TK,tl0,tl1,t1,sx,sy,b',_,rfl,x5 _ _ hTB4,(grow_old hTB4).trans ((grow_old hTB3).trans (grow_old hTB)),x5 _ _ hro4,(grow_old hro4).trans ((grow_old hro3).trans (grow_old hro)),S5,hsy,z3.less fun _ ha=>Jd2 _ ha,grow_new hTK eTK Jc3,(ta0.ext w2).ext w3,(ht1.ext w2').ext w3,hn1,hok,task0_ok (by rw [hw' 2 (by decide),hw];rfl) (by rw [hw' 3 (by decide),hw];rfl)⟩)
 refine gabs fun gG gK=>?_
 obtain ⟨TK,tl0,tl1,t1,sx,sy,b',Z,rfl,hT1,hT2,hr1,hr2,h1,h2,h3,h4,h5,h6,h7,h8,h9⟩:=h
 refine gK ?_
 exact q pl TK tl0 tl1 t1 sx sy b' Z σ2 hT1 hT2 hr1 hr2 h1 h2 h3 h4 h5 h6 h7 h8 h9
end
end
section
theorem lv_but {L P:List Nat} {σ σ':St} (b:ButS L σ σ') (h1:∀ l∈L,σ' l≠none) (lv:∀ l∈P,σ l≠none):∀ l∈P,σ' l≠none:=fun x hx=>by
 by_cases h:x∈L
 ·exact h1 x h
 ·cases q:σ x with
  | none=>exact absurd q (lv x hx)
  | some c=>exact nl (b _ _ h q)
structure Pz (Z:St) (P:List Nat) (σ:St):Prop where
 z:Fz Z P σ
 nd:P.Nodup
 lv:∀ l∈P,σ l≠none
theorem Pz.add {Z:St} {P NM:List Nat} {σ σ':St} (p:Pz Z P σ) (b:ButS P σ σ') (hP:∀ l∈P,σ' l≠none) (nd:NM.Nodup) (h0:∀ l∈NM,σ l=none) (h1:∀ l∈NM,σ' l≠none):Pz Z (P++NM) σ':=by
 refine ⟨⟨fun i c e=>b i c (fun h=>by rw [p.z.out i h] at e;cases e) (p.z.sub i c e),fun l hl=>?_⟩,?_,fun l hl=>?_⟩
 ·rcases Jd0.mp hl with h | h
  ·exact p.z.out l h
  ·exact p.z.sub.new (h0 l h)
 ·rw [Jc2]
  exact ⟨p.nd,nd,fun a ha c hc q=>by subst q;exact p.lv a ha (h0 a hc)⟩
 ·rcases Jd0.mp hl with h | h
  ·exact hP l h
  ·exact h1 l h
theorem Pz.ext {Z:St} {P NM:List Nat} {σ σ':St} (p:Pz Z P σ) (x:Ext σ σ') (nd:NM.Nodup) (h0:∀ l∈NM,σ l=none) (h1:∀ l∈NM,σ' l≠none):Pz Z (P++NM) σ':=
 p.add x.buts (fun l hl h=>p.lv l hl (x.new h)) nd h0 h1
theorem Pz.one {Z:St} {P:List Nat} {σ:St} (p:Pz Z P σ) {l:Nat} (h:σ l=none) (c:Cell):Pz Z (P++[l]) (upd σ l c):=
 p.ext ((Ext.refl _).upd h _) (nd1 _) (fa1 h) (fa1 (nl (upd_self ..)))
section
variable {Γ:Gl} {k:Nat} {σ Z:St} {B SL:Nat} {sl:List Nat} {sv:List (List Int)} {b:List Int}
seal itemV attrV setAV setIV biV listM methL sliceV iterV inV newV
theorem Bs.pz {TB:Nat} (S:Bs σ B SL sl sv b) (z:Fz Z (B::SL::sl) σ) (hTB:σ TB=some .tab) (hZ:Z TB=none):Pz Z (TB::B::SL::sl) σ:=by
 refine ⟨⟨z.sub,fun l hl=>?_⟩,?_,fun l hl=>?_⟩
 ·rcases Jc0.mp hl with rfl | hl
  ·exact hZ
  ·exact z.out l hl
 ·refine Jb6.mpr ⟨fun h=>(Jc0.mp h).elim (st_ne hTB S.e) fun h=>(Jc0.mp h).elim (st_ne hTB S.w.at_) fun h=>(S.live h).elim fun r e=>(st_ne e hTB) rfl,Jb6.mpr ⟨fun h=>(Jc0.mp h).elim S.n1 S.n3,Jb6.mpr ⟨S.sn,S.nd⟩⟩⟩
 ·rcases Jc0.mp hl with rfl | hl
  ·exact nl hTB
  ·exact S.lives l hl
theorem law_C (L:Lib Γ) {l pl TK:V} {TB:Nat} {Q:SPost} {rest:List S} (hTB:σ TB=some .tab) (hZT:Z TB=none) (S0:Bs σ B SL sl sv b) (h4:sv.length≤50) (z:Fz Z (B::SL::sl) σ)
  (q:∀ ST la lb F FS TD DU ra rb b' σ',σ' TB=some .tab→Bs σ' B SL sl sv b'→Pz Z (TB::B::SL::sl++[ST]++[la,lb]++[F]++[FS]++[TD]++[DU]) σ'→σ' ST=some (vecsC sv)→σ' la=some (rowC ra)→σ' lb=some (rowC rb)→Rok ra→Rok rb→σ' F=some (.list [.loc la,.loc lb])→σ' FS=some (.list [.loc F])→σ' TD=some (.list [])→σ' DU=some (.list [])→
   wpSs (wpS Γ (k+10) [] 10) rest [(142,l),(42,.loc B),(150,.loc SL),(126,pl),(164,TK),(158,.loc ST),(77,.loc FS),(168,.loc TD),(65,.loc DU)] σ' Q) :
  wpSs (wpS Γ (k+10) [] 10) (.asg 158 (.comp (.call 29 [(.var 136)]) 136 false (.var 150) none)::.asg 77 (.list [(.list [(.call 10 [(.var 42),(.int 3)]),(.call 10 [(.var 42),(.int 1)])])])::.asg 168 (.list [])::.asg 65 (.list [])::rest)
   [(142,l),(42,.loc B),(150,.loc SL),(126,pl),(164,TK)] σ Q:=by
 have hlen:=S0.len
 have p0:=S0.pz z hTB hZT
 have nTB:TB≠B:=st_ne hTB S0.e
 let Jq1:List (Nat×V)→St→Prop:=fun m1 σ1=>∃ ST,And5 (m1=[(142,l),(42,.loc B),(150,.loc SL),(126,pl),(164,TK),(158,.loc ST)]) (σ1 TB=some .tab) (Bs σ1 B SL sl sv b) (Pz Z (TB::B::SL::sl++[ST]) σ1) (σ1 ST=some (vecsC sv))
 refine wpSs_join Jq1 (fun Q9 q9=>?_) (fun m1 σ1 h=>?_)
 ·refine ⟨rfl,?_⟩
  refine iter_l S0.w.at_ (Ja1 (Je5 ((Ja2 _).trans ((Ja2 _).trans hlen))) (Ja1 h4 (by decide:50≤10000))) ?_
  refine vecs_it L S0.w (fun r hr=>(Jf2.mp hr).elim fun a h=>Jb7 h.2▸S0.ok a h.1) (Ja1 (Je5 ((Ja2 _).trans hlen)) (Ja1 h4 (by decide:50≤1000))) ?_
  intro ST hST
  refine (q9 _ _ _ ⟨ST,rfl,((Ext.refl _).upd hST _) _ _ hTB,S0.ext ((Ext.refl _).upd hST _),p0.one hST _,?_⟩)
  rw [upd_self,← vec_opt]
 refine gabs fun gG gK=>?_
 obtain ⟨ST,rfl,hTB1,S1,p1,eST⟩:=h
 refine gK ?_
 let Jq2:List (Nat×V)→St→Prop:=fun m2 σ2=>Ex7 fun la lb F FS ra rb b'=>And11 (m2=[(142,l),(42,.loc B),(150,.loc SL),(126,pl),(164,TK),(158,.loc ST),(77,.loc FS)]) (σ2 TB=some .tab) (Bs σ2 B SL sl sv b') (Pz Z (TB::B::SL::sl++[ST]++[la,lb]++[F]++[FS]) σ2) (σ2 ST=some (vecsC sv)) (σ2 la=some (rowC ra)) (σ2 lb=some (rowC rb)) (Rok ra) (Rok rb) (σ2 F=some (.list [.loc la,.loc lb])) (σ2 FS=some (.list [.loc F]))
 refine wpSs_join Jq2 (fun Q9 q9=>?_) (fun m2 σ2 h=>?_)
 ·have nST:ST≠B:=((Jc2.mp p1.nd).2.2 B (.tail _ (.head _)) ST (.head _)).symm
  refine (drawnS (k:=0) L S1 (w:=3) (by decide) fun ra b2 la σ2 hra hral haB hla ela y2 S2=>?_).more (by lia)
  refine (drawnS (k:=0) L S2 (w:=1) (by decide) fun rb b3 lb σ3 hrb hrbl hbB hlb elb y3 S3=>?_).more (by lia)
  have ela3:=y3 _ _ (not_in1 haB) ela
  have y23:=y2.trans y3
  have eST3:=y23 _ _ (not_in1 nST) eST
  have hlb1:σ1 lb=none:=y2.none (not_in1 hbB) hlb
  have nab:la≠lb:=live_ne ela hlb
  have p3:Pz Z (TB::B::SL::sl++[ST]++[la,lb]) σ3:=p1.add (y23.wider fun a ha=>Ja4.mp ha▸.tail _ (.head _)) (lv_but y23 (fa1 (nl S3.e)) p1.lv) (nd2 nab) (fa2 hla hlb1) (fa2 (nl ela3) (nl elb))
  intro F hF
  intro FS hFS
  conv=>whnf
  obtain ⟨hFS1,hFSF⟩:=upd_none hFS
  have xF:Ext σ3 (upd (upd σ3 F (.list [.loc la,.loc lb])) FS (.list [.loc F])):=((Ext.refl _).upd hF _).upd hFS1 _
  exact (q9 _ _ _ ⟨la,lb,F,FS,ra,rb,b3,rfl,xF _ _ (y23 _ _ (not_in1 nTB) hTB1),S3.ext xF,(p3.one hF _).one hFS _,xF _ _ eST3,xF _ _ ela3,xF _ _ elb,hra,hrb,(upd_ne _ _ (Ne.symm hFSF)).trans (upd_self ..),upd_self ..⟩)
 refine gabs fun gG gK=>?_
 obtain ⟨la,lb,F,FS,ra,rb,b2,rfl,hTB2,S2,p2,eST2,ela,elb,hra,hrb,eF,eFS⟩:=h
 refine gK ?_
 let Jq3:List (Nat×V)→St→Prop:=fun m3 σ3=>∃ TD,And3 (m3=[(142,l),(42,.loc B),(150,.loc SL),(126,pl),(164,TK),(158,.loc ST),(77,.loc FS),(168,.loc TD)]) (σ3=upd σ2 TD (.list [])) (σ2 TD=none)
 refine wpSs_join Jq3 (fun Q9 q9=>?_) (fun m3 σ3 h=>?_)
 ·intro TD hTD
  exact (q9 _ _ _ ⟨TD,rfl,rfl,hTD⟩)
 refine gabs fun gG gK=>?_
 obtain ⟨TD,rfl,rfl,hTD⟩:=h
 refine gK ?_
 have x3:Ext σ2 (upd σ2 TD (.list [])):=(Ext.refl _).upd hTD _
 have p3:=p2.one hTD (.list [])
 have S3:=S2.ext x3
 have eTD:upd σ2 TD (.list []) TD=some (.list []):=upd_self ..
 let Jq4:List (Nat×V)→St→Prop:=fun m4 σ4=>∃ DU,And3 (m4=[(142,l),(42,.loc B),(150,.loc SL),(126,pl),(164,TK),(158,.loc ST),(77,.loc FS),(168,.loc TD),(65,.loc DU)]) (σ4=upd (upd σ2 TD (.list [])) DU (.list [])) (upd σ2 TD (.list []) DU=none)
 refine wpSs_join Jq4 (fun Q9 q9=>?_) (fun m4 σ4 h=>?_)
 ·intro DU hDU
  exact (q9 _ _ _ ⟨DU,rfl,rfl,hDU⟩)
 refine gabs fun gG gK=>?_
 obtain ⟨DU,rfl,rfl,hDU⟩:=h
 refine gK ?_
 have x4:Ext (upd σ2 TD (.list [])) (upd (upd σ2 TD (.list [])) DU (.list [])):=(Ext.refl _).upd hDU _
 have x24:=x3.trans x4
 exact q ST la lb F FS TD DU ra rb b2 _ (x24 _ _ hTB2) (S3.ext x4) (p3.one hDU _) (x24 _ _ eST2) (x24 _ _ ela) (x24 _ _ elb) hra hrb (x24 _ _ eF) (x24 _ _ eFS) (x4 _ _ eTD) (upd_self ..)
end
end
section
section
variable {Γ:Gl} {k:Nat} {σ Z:St} {B SL:Nat} {sl:List Nat} {sv:List (List Int)} {b:List Int}
seal itemV attrV setAV setIV biV listM methL sliceV iterV inV newV
theorem app_fold (ls:List (List Nat)):∀ l:List Nat,ls.foldl (·++·) l=l++ls.flatten:=by
 induction ls with
 | nil=>exact fun l=>(Jd3 l).symm
 | cons a r ih=>exact fun l=>(ih (l++a)).trans (Jd9 ..)
theorem perm_muts {B SL ST la lb F FS TD DU CP FT T CL OP:Nat} {sl:List Nat}:(B::SL::sl++[ST]++[la,lb]++[F]++[FS]++[TD]++[DU]++[CP]++[FT,T,CL]++[OP]).Perm (B::SL::FS::DU::OP::ST::TD::CP::T::CL::F::FT::(sl++[la,lb])):=by
 have p:=((by decide:[0,1,2,3,4,5,6,7,8,9,10,11,12,13].Perm [0,1,6,8,13,2,7,9,11,12,5,10,3,4]).map (fun i=>[B,SL,ST,la,lb,F,FS,TD,DU,CP,FT,T,CL,OP].getD i 0)).append_right sl
 have h1:([[ST],[la,lb],[F],[FS],[TD],[DU],[CP],[FT,T,CL],[OP]].foldl (·++·) (B::SL::sl)).Perm (B::SL::([ST,la,lb,F,FS,TD,DU,CP,FT,T,CL,OP]++sl)):=(app_fold _ _).symm▸.cons _ (.cons _ List.perm_append_comm)
 exact (h1.trans p).trans ((List.perm_append_comm (l₁:=[la,lb]) (l₂:=sl)).append_left [B,SL,FS,DU,OP,ST,TD,CP,T,CL,F,FT])
theorem Fz.new {P:List Nat} {l:Nat} {c:Cell} (z:Fz Z P σ) (e:σ l=some c) (n:l∉P):Fz (upd Z l c) P σ:=by
 refine ⟨fun i d h=>?_,fun i hi=>(upd_ne _ _ fun q:i=l=>n (q▸hi)).trans (z.out _ hi)⟩
 by_cases q:i=l
 ·rw [q,upd_self] at h;cases h;exact q▸e
 ·rw [upd_ne _ _ q] at h;exact z.sub _ _ h
theorem Fz.swap {P:List Nat} {TB:Nat} {c:Cell} (z:Fz Z (TB::P) σ) (e:σ TB=some c) (nd:(TB::P).Nodup):Fz (upd Z TB c) P σ∧Ext Z (upd Z TB c):=by
 exact ⟨Fz.new ⟨z.sub,fun i hi=>z.out i (.tail _ hi)⟩ e (Jb6.mp nd).1,(Ext.refl _).upd (z.out _ (.head _)) _⟩
theorem law_end (L:Lib Γ) {C:Cn} {d:Dy} {l pl:V} {Q:SPost} {TB a0:Nat} {xs0:List V} (hz:∀ σ':St,Ext C.Zk σ'→σ' a0=some (.ro xs0)∧σ' TB=some .any) (j:J C Z σ d) (I:Inv 4 d) (hst:d.stk=[])
  (q:∀ m σ,σ a0=some (.ro xs0)→σ TB=some .any→Q (.ret (.bool true)) m σ) :
  wpSs (wpS Γ (k+10) [] 10) [.asg 74 (.tup [(.tup [(.str 146),(.int 3),(.int 3)]),(.tup [(.str 146),(.int 2),(.int 2)])]),
 .asg 159 (.tup [(.tup [(.str 105),(.int 3),(.tup [(.tup [(.str 146),(.int 3),(.int 3),.none,(.tup [(.str 39),(.int 0)])])])]),(.int 2)]),
 .asg 93 (.tup [(.tup [(.str 105),(.int 4),(.tup [(.tup [(.str 146),(.int 4),(.int 0),.none,(.tup [(.str 39),(.int 0)])])])]),(.int 1)]),
 .asg 98 (.int 4),
 .while_ (.ors [(.cmp .gt (.var 98) (.int 0)),(.cmp .gt (.bi 199 [(.var 114)]) (.int 0))]) turnB,.ret (.bool true)]
   [(142,l),(42,.loc C.B),(150,.loc C.SL),(126,pl),(164,.loc C.M.TK),(158,.loc C.M.ST),(77,.loc C.FS),(168,.loc C.M.TD),(65,.loc C.DU),(85,.loc C.M.H),(165,.loc C.tp.T),(114,.loc C.OP)] σ Q:=by
 let Jq4:List (Nat×V)→St→Prop:=fun m4 σ4=>m4=[(142,l),(42,.loc C.B),(150,.loc C.SL),(126,pl),(164,.loc C.M.TK),(158,.loc C.M.ST),(77,.loc C.FS),(168,.loc C.M.TD),(65,.loc C.DU),(85,.loc C.M.H),(165,.loc C.tp.T),(114,.loc C.OP),(74,firstV)]∧σ=σ4
 refine wpSs_join Jq4 (fun Q9 q9=>q9 _ _ _ ⟨rfl,rfl⟩) (fun m4 σ4 h=>?_)
 obtain ⟨rfl,rfl⟩:=h
 let Jq5:List (Nat×V)→St→Prop:=fun m4 σ4=>m4=[(142,l),(42,.loc C.B),(150,.loc C.SL),(126,pl),(164,.loc C.M.TK),(158,.loc C.M.ST),(77,.loc C.FS),(168,.loc C.M.TD),(65,.loc C.DU),(85,.loc C.M.H),(165,.loc C.tp.T),(114,.loc C.OP),(74,firstV),(159,swapV)]∧σ=σ4
 refine wpSs_join Jq5 (fun Q9 q9=>q9 _ _ _ ⟨rfl,rfl⟩) (fun m4 σ4 h=>?_)
 obtain ⟨rfl,rfl⟩:=h
 let Jq6:List (Nat×V)→St→Prop:=fun m4 σ4=>m4=[(142,l),(42,.loc C.B),(150,.loc C.SL),(126,pl),(164,.loc C.M.TK),(158,.loc C.M.ST),(77,.loc C.FS),(168,.loc C.M.TD),(65,.loc C.DU),(85,.loc C.M.H),(165,.loc C.tp.T),(114,.loc C.OP),(74,firstV),(159,swapV),(93,keepV)]∧σ=σ4
 refine wpSs_join Jq6 (fun Q9 q9=>q9 _ _ _ ⟨rfl,rfl⟩) (fun m4 σ4 h=>?_)
 obtain ⟨rfl,rfl⟩:=h
 let Jq7:List (Nat×V)→St→Prop:=fun m4 σ4=>EnvL C 4 m4∧σ=σ4
 refine wpSs_join Jq7 (fun Q9 q9=>q9 _ _ _ ⟨⟨rfl,rfl,rfl,rfl,rfl,rfl,rfl,rfl,rfl,rfl,rfl,rfl,rfl,rfl⟩,rfl⟩) (fun m4 σ4 h=>?_)
 obtain ⟨E,rfl⟩:=h
 let Jq8:List (Nat×V)→St→Prop:=fun _ σ6=>σ6 a0=some (.ro xs0)∧σ6 TB=some .any
 refine wpSs_join Jq8 (fun Q9 q9=>⟨9,law_loop L (fun _ _ h=>q9 _ _ _ (hz _ h)) 8 j E I (by rw [hst];decide)⟩) (fun m6 σ6 h6=>?_)
 exact q m6 σ6 h6.1 h6.2
noncomputable def lD0 (l pl:V) (B SL TK ST FS TD DU:Nat):List (Nat×V):=[(142,l),(42,.loc B),(150,.loc SL),(126,pl),(164,.loc TK),(158,.loc ST),(77,.loc FS),(168,.loc TD),(65,.loc DU)]
noncomputable def lD1 (l pl:V) (B SL TK ST FS TD DU H:Nat):List (Nat×V):=[(142,l),(42,.loc B),(150,.loc SL),(126,pl),(164,.loc TK),(158,.loc ST),(77,.loc FS),(168,.loc TD),(65,.loc DU),(85,.loc H)]
noncomputable def lD2 (l pl:V) (B SL TK ST FS TD DU H T:Nat):List (Nat×V):=[(142,l),(42,.loc B),(150,.loc SL),(126,pl),(164,.loc TK),(158,.loc ST),(77,.loc FS),(168,.loc TD),(65,.loc DU),(85,.loc H),(165,.loc T)]
noncomputable def lD3 (l pl:V) (B SL TK ST FS TD DU H T OP:Nat):List (Nat×V):=[(142,l),(42,.loc B),(150,.loc SL),(126,pl),(164,.loc TK),(158,.loc ST),(77,.loc FS),(168,.loc TD),(65,.loc DU),(85,.loc H),(165,.loc T),(114,.loc OP)]
theorem rows2 {F la lb:Nat} {ra rb:List Int} (eF:σ F=some (.list [.loc la,.loc lb])) (ela:σ la=some (rowC ra)) (elb:σ lb=some (rowC rb)):RowsAt σ F [some la,some lb] [some ra,some rb]:=⟨eF,rfl,fun i a r ha hr=>by
 cases i with
 | zero=>cases ha;cases hr;exact ela
 | succ i=>cases i with
  | zero=>cases ha;cases hr;exact elb
  | succ i=>cases ha⟩
theorem fok2 {ra rb:List Int} (hra:Rok ra) (hrb:Rok rb):FOk [some ra,some rb]:=fun r hr=>(Jc0.mp hr).elim (fun q=>Jb7 q▸hra) fun q=>Jb7 (Ja4.mp q)▸hrb
noncomputable def cd7:List V:=[sysV 7,.tup [.str 68]]
theorem rows7:Rows 7 cd7:=⟨rfl,.head _⟩
theorem law_D (HS:HostSpec Γ) (L:Lib Γ) {l pl:V} {Q:SPost} {TB TK tl0 tl1 ST la lb F FS TD DU a0:Nat} {xs0:List V} {t1:Task} {ra rb:List Int} (hro:Z a0=some (.ro xs0)) (hTB:σ TB=some .tab) (S0:Bs σ B SL sl sv b) (hn:4≤sv.length∧sv.length≤50) (hw3:(wid sv)[3]?=some 3) (p:Pz Z (TB::B::SL::sl++[ST]++[la,lb]++[F]++[FS]++[TD]++[DU]) σ)
  (hTK:Z TK=some (.list [.loc tl0,.loc tl1])) (ta0:TaskAt Z tl0 task0) (ta1:TaskAt Z tl1 t1) (hn1:t1.num=1) (ok1:TaskOk (wid sv) t1) (ok0:TaskOk (wid sv) task0)
  (eST:σ ST=some (vecsC sv)) (ela:σ la=some (rowC ra)) (elb:σ lb=some (rowC rb)) (hra:Rok ra) (hrb:Rok rb) (eF:σ F=some (.list [.loc la,.loc lb])) (eFS:σ FS=some (.list [.loc F])) (eTD:σ TD=some (.list [])) (eDU:σ DU=some (.list []))
  (q:∀ m σ,σ a0=some (.ro xs0)→σ TB=some .any→Q (.ret (.bool true)) m σ) :
  wpSs (wpS Γ (k+10) [] 10) [.asg 85 (.call 15 [(.var 164),(.var 158),(.var 168)]),
 .asg 165 (.new 4 [(.int 0),(.list [(.tup [(.str 160),(.int 7),(.tup [])]),(.tup [(.str 68)])]),(.int 1),(.comp (.call 29 [(.var 136)]) 136 false (.item (.var 77) (.int 0)) none),(.str 169)]),
 .asg 114 (.list []),
 .asg 74 (.tup [(.tup [(.str 146),(.int 3),(.int 3)]),(.tup [(.str 146),(.int 2),(.int 2)])]),
 .asg 159 (.tup [(.tup [(.str 105),(.int 3),(.tup [(.tup [(.str 146),(.int 3),(.int 3),.none,(.tup [(.str 39),(.int 0)])])])]),(.int 2)]),
 .asg 93 (.tup [(.tup [(.str 105),(.int 4),(.tup [(.tup [(.str 146),(.int 4),(.int 0),.none,(.tup [(.str 39),(.int 0)])])])]),(.int 1)]),
 .asg 98 (.int 4),
 .while_ (.ors [(.cmp .gt (.var 98) (.int 0)),(.cmp .gt (.bi 199 [(.var 114)]) (.int 0))]) turnB,.ret (.bool true)]
   (lD0 l pl B SL TK ST FS TD DU) σ Q:=by
 have hlen:=S0.len
 obtain ⟨P,hP⟩:∃ P,P=TB::B::SL::sl++[ST]++[la,lb]++[F]++[FS]++[TD]++[DU]:=⟨_,rfl⟩
 rw [← hP] at p
 let Jq1:List (Nat×V)→St→Prop:=fun m1 σ1=>Ex2 fun (M:Mp) (Z1:St)=>And11 (m1=lD1 l pl B SL TK ST FS TD DU M.H) (M.ST=ST) (M.TK=TK) (M.TD=TD) (σ1 TB=some .any) (ButS [TB] σ σ1) (Ext Z Z1) (Pz Z1 (P++[M.CP]) σ1) (M.At Z1) (SigsAt Z1 M.SG (wid sv)) (σ1 M.CP=some (.dict []))
 refine wpSs_join Jq1 (fun Q9 q9=>?_) (fun m1 σ1 h=>?_)
 ·refine HS (k+5) σ TB TK ST TD [.loc tl0,.loc tl1] sv _ hTB (p.z.sub _ _ hTK) eST eTD (Ja1 hn.2 (Ja0 rfl)) fun σ' M x hT1 h1 h2 h3 h4 h5 h6 h7=>?_
  have xP:ButS P σ σ':=x.wider fun a ha=>hP▸Ja4.mp ha▸.head _
  refine gabs fun gG gK=>?_
  obtain ⟨g1,g2,g3⟩:=p.z.grow (NM:=[M.CP]) xP p.lv (fa1 h4)
  refine gK ?_
  have p1:=p.add xP (lv_but x (fa1 (nl hT1)) p.lv) (NM:=[M.CP]) (Jb6.mpr ⟨Jc3,Jg8⟩) (fa1 h4) (fa1 (nl h7))
  exact (q9 _ _ _ ⟨M,_,rfl,h1,h2,h3,hT1,x,g2,⟨g1,p1.nd,p1.lv⟩,h5.ext g3,h6.ext g3,h7⟩)
 refine gabs fun gG gK=>?_
 obtain ⟨M,Z1,rfl,rfl,rfl,rfl,hT1,x1,xZ1,p1,hM,hSG,hCP⟩:=h
 refine gK ?_
 have y1:∀ {l:Nat} {c:Cell},σ l=some c→Jc5 (tagO (some c)) (tagO (some .tab))=false→σ1 l=some c:=fun {l c} e h=>x1 _ _ (not_in1 (st_ne e hTB h)) e
 have eF1:=y1 eF rfl
 have eFS1:=y1 eFS rfl
 have rowsF:RowsAt σ1 F [some la,some lb] [some ra,some rb]:=rows2 eF1 (y1 ela rfl) (y1 elb rfl)
 have fokF:=fok2 hra hrb
 let Jq2:List (Nat×V)→St→Prop:=fun m2 σ2=>Ex4 fun (tp:Tp) (FT CD:Nat) (Z2:St)=>And8 (m2=lD2 l pl B SL M.TK M.ST FS M.TD DU M.H tp.T) (Ext σ1 σ2) (Ext Z1 Z2) (Pz Z2 (P++[M.CP]++[FT,tp.T,tp.CL]) σ2) (CodeAt Z2 CD 7) (σ2 tp.T=some (tp.cell CD 1 FT)) (σ2 tp.CL=some (.list [])) (σ2 FT=some (.list ([some ra,some rb].map optVec)))
 refine wpSs_join Jq2 (fun Q9 q9=>?_) (fun m2 σ2 h=>?_)
 ·intro CD hCD
  conv=>whnf
  have x2:Ext σ1 (upd σ1 CD (.list cd7)):=(Ext.refl _).upd hCD _
  have eCD:upd σ1 CD (.list cd7) CD=some (.list cd7):=upd_self ..
  refine ⟨rfl,?_⟩
  refine item_l (r:=.loc F) (x2 _ _ eFS1) (by decide) rfl ?_ (by decide)
  refine iter_l (x2 _ _ eF1) (Ja0 rfl) ?_
  have rows2:=rowsF.ext x2
  change wpIt _ _ _ _ _ (upd σ1 CD (.list cd7)) _
  revert x2 eCD rows2
  refine gen (upd σ1 CD (.list cd7)) ?_
  intro σa
  intros
  refine vecs_it L rows2 fokF (Ja0 rfl) ?_
  intro FT hFT
  have x3:Ext σa (upd σa FT (.list ([some ra,some rb].map optVec))):=(Ext.refl _).upd hFT _
  have eFT:upd σa FT (.list ([some ra,some rb].map optVec)) FT=some (.list ([some ra,some rb].map optVec)):=upd_self ..
  have hFT1:σ1 FT=none:=x2.new hFT
  have nCF:CD≠FT:=live_ne eCD hFT
  revert x3 eFT
  refine gen (upd σa FT (.list ([some ra,some rb].map optVec))) ?_
  intro σb
  intros
  refine spec_thread (k:=k+9) L fun T nc ns nd σ2 x4 hT hnc nTC eT enc=>?_
  have x12:=(x2.trans x3).trans x4
  have hT1:σ1 T=none:=(x2.trans x3).new hT
  have hnc1:σ1 nc=none:=(x2.trans x3).new hnc
  have nFT:FT≠T:=live_ne eFT hT
  have nFC:FT≠nc:=live_ne eFT hnc
  have nCT:CD≠T:=live_ne (x3 _ _ eCD) hT
  have nCc:CD≠nc:=live_ne (x3 _ _ eCD) hnc
  refine gabs fun gG gK=>?_
  obtain ⟨g1,g2,g3⟩:=p1.z.grow (NM:=[FT,T,nc]) x12.buts p1.lv (fa3 hFT1 hT1 hnc1)
  refine gK ?_
  have p2:=p1.ext x12 (NM:=[FT,T,nc]) (nd3 nFT nFC nTC) (fa3 hFT1 hT1 hnc1) (fa3 (nl (x4 _ _ eFT)) (nl eT) (nl enc))
  refine (q9 _ _ _ ⟨⟨T,nc,ns,nd⟩,FT,CD,_,rfl,x12,g2,⟨g1,p2.nd,p2.lv⟩,⟨_,grow_new hCD (x4 _ _ (x3 _ _ eCD)) (not_in3 nCF nCT nCc),rows7,Ja0 rfl⟩,eT,enc,x4 _ _ eFT⟩)
 refine gabs fun gG gK=>?_
 obtain ⟨tp,FT,CD,Z2,rfl,x2,xZ2,p2,hcode,eT,eCL,eFT⟩:=h
 refine gK ?_
 let Jq3:List (Nat×V)→St→Prop:=fun m3 σ3=>∃ OP,And3 (m3=lD3 l pl B SL M.TK M.ST FS M.TD DU M.H tp.T OP) (σ3=upd σ2 OP (.list [])) (σ2 OP=none)
 refine wpSs_join Jq3 (fun Q9 q9=>?_) (fun m3 σ3 h=>?_)
 ·intro OP hOP
  exact (q9 _ _ _ ⟨OP,rfl,rfl,hOP⟩)
 refine gabs fun gG gK=>?_
 obtain ⟨OP,rfl,rfl,hOP⟩:=h
 refine gK ?_
 have p3:=p2.one hOP (.list [])
 have eOP:upd σ2 OP (.list []) OP=some (.list []):=upd_self ..
 have x23:Ext σ2 (upd σ2 OP (.list [])):=(Ext.refl _).upd hOP _
 revert p3 eOP x23
 refine gen (upd σ2 OP (.list [])) ?_
 intro σ3
 intros
 have x13:=x2.trans x23
 have y03:∀ {l:Nat} {c:Cell},σ l=some c→Jc5 (tagO (some c)) (tagO (some .tab))=false→σ3 l=some c:=fun e h=>x13 _ _ (y1 e h)
 have S3:=S0.but (x1.ext x13) (not_in1 (st_ne S0.e hTB)) (not_in1 (st_ne S0.w.at_ hTB)) fun l hl=>not_in1 ((S0.live hl).elim fun r e=>st_ne e hTB)
 rw [hP] at p3
 refine (Fz.swap (P:=B::SL::sl++[M.ST]++[la,lb]++[F]++[FS]++[M.TD]++[DU]++[M.CP]++[FT,tp.T,tp.CL]++[OP]) p3.z (x13 _ _ hT1) p3.nd).elim fun z3 xZ3=>?_
 have e3:upd Z2 TB .any TB=some .any:=upd_self ..
 revert z3 xZ3 e3
 refine gen (upd Z2 TB .any) ?_
 intro Z3
 intros
 have xZ:=(xZ1.trans xZ2).trans xZ3
 have j:J ⟨B,SL,FS,DU,OP,M,tp,t1,tl0,tl1,wid sv,Z3⟩ Z3 σ3 ⟨(sv,[some ra,some rb]),sl,F,[some la,some lb],b,FT,CD,1,[],[],[]⟩:=by
  have wl:(wid sv).length=sv.length:=Ja2 _
  have h100:sv.length≤100:=Ja1 hn.2 (Ja0 rfl)
  have hm:muts ⟨B,SL,FS,DU,OP,M,tp,t1,tl0,tl1,wid sv,Z3⟩ ⟨(sv,[some ra,some rb]),sl,F,[some la,some lb],b,FT,CD,1,[],[],[]⟩=B::SL::FS::DU::OP::M.ST::M.TD::M.CP::tp.T::tp.CL::F::FT::(sl++[la,lb]):=rfl
  exact { fx:=⟨hM.ext (xZ2.trans xZ3),hSG.ext (xZ2.trans xZ3),xZ _ _ hTK,ta0.ext xZ,ta1.ext xZ,ok0,ok1,hn1,⟨Ja1 hn.1 (Je5 wl.symm),Ja1 (Je5 wl) h100⟩,hw3,Ext.refl _⟩,z:=z3.less fun a ha=>perm_muts.mem_iff.mpr (hm▸ha),nd:=hm▸perm_muts.nodup (Jb6.mp p3.nd).2,w:=⟨S3.w,rowsF.ext x13⟩,wok:=⟨S0.ok,fokF,⟨Ja1 (Ja0 rfl) hn.1,h100⟩,Ja0 rfl⟩,ws:=rfl,bag:=S3.e,bok:=S0.hb,st:=y03 eST rfl,th:=x23 _ _ eT,ft:=x23 _ _ eFT,cp:=x13 _ _ hCP,cpok:=fun n v e=>ns e,td:=y03 eTD rfl,du:=y03 eDU rfl,fs:=y03 eFS rfl,cl:=x23 _ _ eCL,op:=eOP,stk:=hcode.ext xZ3 }
 have I:Inv 4 (⟨(sv,[some ra,some rb]),sl,F,[some la,some lb],b,FT,CD,1,[],[],[]⟩:Dy):=⟨⟨0,by decide,Jd7 _,Jd7 _,Jd7 _⟩,fun _=>rfl,fun h=>by lia,by decide⟩
 have hz:∀ σ':St,Ext Z3 σ'→σ' a0=some (.ro xs0)∧σ' TB=some .any:=fun _ h=>⟨h _ _ (xZ _ _ hro),h _ _ e3⟩
 exact law_end (C:=⟨B,SL,FS,DU,OP,M,tp,t1,tl0,tl1,wid sv,Z3⟩) (d:=⟨(sv,[some ra,some rb]),sl,F,[some la,some lb],b,FT,CD,1,[],[],[]⟩) L hz j I rfl q
theorem spec_law (HS:HostSpec Γ) (L:Lib Γ) {l TB:Nat} {xs:List Int} (hTB:σ TB=some .tab) (e:σ l=some (.ro (xs.map V.int))) (hl:xs.length≤5000):WC Γ (k+11) (.glob 96) [.loc l] σ fun v σ'=>v=.bool true∧σ' l=some (.ro (xs.map V.int))∧σ' TB=some .any:=by
 refine WC_def (n:=10) (L.fns 46 _ _ _ _ rfl) rfl ?_
 refine law_A L hTB e hl fun B SL sl sv b σ1 hT1 e1 S1 h4 hw=>?_
 refine law_B L hT1 e1 S1 h4 hw fun pl TK tl0 tl1 t1 sx sy b2 Z σ2 hT2 hZT e2 hZl S2 hsy z2 hTK ta0 ta1 hn1 ok1 ok0=>?_
 have hw3:(wid (sv++sy))[3]?=some 3:=by
  obtain ⟨a,hw⟩:=hw
  unfold wid at hw ⊢
  rw [Jb5,hw];rfl
 have xZ:Ext Z (upd Z l (.ro (xs.map V.int))):=(Ext.refl _).upd hZl _
 have z2':Fz (upd Z l (.ro (xs.map V.int))) (B::SL::(sl++sx)) σ2:=
  z2.new e2 fun h=>(Jc0.mp h).elim (fun q=>(st_ne e2 S2.e) q) fun h=>(Jc0.mp h).elim (fun q=>(st_ne e2 S2.w.at_) q) fun h=>(S2.live h).elim fun r e3=>(st_ne e2 e3) rfl
 have hZT':upd Z l (.ro (xs.map V.int)) TB=none:=by
  rw [upd_ne _ _ (st_ne hT2 e2)];exact hZT
 refine law_C L hT2 hZT' S2 (by simp;lia) z2' fun ST la lb F FS TD DU ra rb b3 σ3 hT3 S3 p3 h1 h2 h3 h5 h6 h7 h8 h9 h10=>?_
 exact law_D HS L (upd_self ..) hT3 S3 (by simp;lia) hw3 p3 (xZ _ _ hTK) (ta0.ext xZ) (ta1.ext xZ) hn1 ok1 ok0 h1 h2 h3 h5 h6 h7 h8 h9 h10 fun m σ h h'=>⟨rfl,h,h'⟩
end
end
section
theorem least_above (f:Nat→Option Obj) (n:Nat) (h:∀ a,n≤a→f a=none):∃ m,(∀ a,m≤a→f a=none)∧(m=0∨∃ o,f (m - 1)=some o):=by
 induction n with
 | zero=>exact ⟨0,h,.inl rfl⟩
 | succ n ih=>
  cases q:f n with
  | some o=>exact ⟨n+1,h,.inr ⟨o,q⟩⟩
  | none=>
   refine ih fun a ha=>?_
   by_cases e:a=n
   ·rw [e,q]
   ·exact h a (Nat.lt_of_le_of_ne ha (Ne.symm e))
noncomputable def noObj:Obj:=⟨.none,none,.freed,#[]⟩
noncomputable def tight (f:Nat→Option Obj) (m:Nat):Heap:=⟨Array.ofFn (n:=m) fun i=>(f i).getD noObj,{}⟩
theorem alive_of {o:Obj} (h:o.data≠.freed):o.alive=true:=by
 obtain ⟨c,d,dt,sl⟩:=o
 cases dt <;> first | rfl | exact absurd rfl h
theorem live_of {o:Obj} (h:o.alive=true):o.data≠.freed:=fun hd=>by
 obtain ⟨c,d,dt,sl⟩:=o
 cases (hd:dt=.freed)
 exact ft h
theorem tight_objs (f:Nat→Option Obj) {m a:Nat} (h:a<m):(tight f m).objs[a]?=some ((f a).getD noObj):=by
 show (Array.ofFn (n:=m) fun i=>(f i).getD noObj)[a]?=_
 rw [Array.getElem?_eq_getElem (Array.size_ofFn.symm▸h),Array.getElem_ofFn]
theorem tight_get (f:Nat→Option Obj) (m:Nat) (hm:∀ a,m≤a→f a=none) (hf:∀ a o,f a=some o→o.data≠.freed) (a:Nat):(tight f m).get? a=f a:=by
 have hlt:∀ {o},(tight f m).objs[a]?=some o→a<m:=fun e=>Array.size_ofFn (n:=m)▸(Array.getElem?_eq_some_iff.mp e).1
 cases q:f a with
 | none=>
  cases e:(tight f m).get? a with
  | none=>rfl
  | some o=>
   obtain ⟨e1,e2⟩:=(Heap.get?_eq_some _ _ _).mp e
   rw [tight_objs f (hlt e1),q] at e1
   cases e1
   exact ft e2
 | some o=>
  have h:a<m:=Nat.lt_of_not_le fun h=>by rw [hm a h] at q;cases q
  exact (Heap.get?_eq_some _ _ _).mpr ⟨by rw [tight_objs f h,q];rfl,alive_of (hf a o q)⟩
theorem get_live {h:Heap} {a:Addr} {o:Obj} (e:h.get? a=some o):o.data≠.freed:=live_of ((Heap.get?_eq_some _ _ _).mp e).2
theorem heap_tight (h:Heap) (P:List Addr):∃ h0:Heap,(∀ a,h0.get? a=if a∈P then none else h.get? a)∧∀ h':Heap,(∀ b o,h0.get? b=some o→h'.get? b=some o)→h0.objs.size≤h'.objs.size:=by
 obtain ⟨m,h1,h2⟩:=least_above (fun a=>if a∈P then none else h.get? a) h.objs.size fun a ha=>by
  split
  ·rfl
  ·cases q:h.get? a with
   | none=>rfl
   | some o=>exact absurd (Heap.lt_size q) (Nat.not_lt.mpr ha)
 have e:=tight_get _ m h1 fun a o q hd=>by
  split at q
  ·cases q
  ·exact get_live q hd
 refine ⟨_,e,fun h' k=>?_⟩
 have hs:(tight (fun a=>if a∈P then none else h.get? a) m).objs.size=m:=by simp [tight]
 rw [hs]
 rcases h2 with h2 | ⟨o,h2⟩
 ·rw [h2];exact Ji4 _
 ·exact Nat.le_of_pred_lt (Heap.lt_size (k _ o ((e _).trans h2)))
end
section
noncomputable def isNN:Option (Option Value)→Bool
 | some none=>true
 | _=>false
noncomputable def refOf:Option (Option Value)→Option Addr
 | some (some (.ref a))=>some a
 | _=>none
theorem isNN_eq {o:Option (Option Value)} (h:isNN o=true):o=some none:=by
 cases o with
 | none=>exact ft h
 | some v=>cases v with
  | none=>rfl
  | some v=>exact ft h
theorem refOf_eq {o:Option (Option Value)} {a:Addr} (h:refOf o=some a):o=some (some (.ref a)):=by
 cases o with
 | none=>exact ns h
 | some v=>cases v with
  | none=>exact ns h
  | some v=>cases v with
   | ref b=>cases h;rfl
   | _=>exact ns h
noncomputable def keepRef (K:Frag) (o:Option (Option Value)):Bool:=match refOf o with
 | some a=>keepIn K (.ref a)
 | none=>false
theorem keepRef_eq {K:Frag} {o:Option (Option Value)} (h:keepRef K o=true):∃ a,o=some (some (.ref a))∧keepIn K (.ref a)=true:=by
 unfold keepRef at h
 cases e:refOf o with
 | none=>rw [e] at h;cases h
 | some a=>rw [e] at h;exact ⟨a,refOf_eq e,h⟩
noncomputable def isFnT (o:Option Value):Bool:=o == some (.type "function")
theorem isFnT_eq {o:Option Value} (h:isFnT o=true):o=some (.type "function"):=eq_of_beq h
noncomputable def methRef (K:Frag) (o:Option (Option Value)):Bool:=match refOf o with
 | some a=>isFnT (typeIn K (.ref a)) && keepIn K (.ref a)
 | none=>true
noncomputable def cAt:Nat→Addr:=fun c=>match Jc5 c 3 with
 | true=>178
 | false=>720
structure KOk (K:Frag):Prop where
 glob:(fnNames.all fun x=>keepRef K (nsIn K mainGlobals x))=true
 bi:(biNames.all fun x=>isNN (nsIn K mainGlobals x))=true
 c3:nsIn K mainGlobals (sy 3)=some (some (.ref 178))
 c4:nsIn K mainGlobals (sy 4)=some (some (.ref 720))
 k3:keepIn K (.ref 178)=true
 k4:keepIn K (.ref 720)=true
 d3:hasDictIn K 178=true
 d4:hasDictIn K 720=true
 g3:findIn K (.ref 178) "__getattribute__" = some (some (.builtin "object.__getattribute__"))
 g4:findIn K (.ref 720) "__getattribute__" = some (some (.builtin "object.__getattribute__"))
 t3:findIn K (.ref 178) "__getattr__" = some none
 t4:findIn K (.ref 720) "__getattr__" = some none
 s3:findIn K (.ref 178) "__setattr__" = some (some (.builtin "object.__setattr__"))
 s4:findIn K (.ref 720) "__setattr__" = some (some (.builtin "object.__setattr__"))
 o3:plainOver K 178=true
 o4:plainOver K 720=true
 m3:makesIn K 178=true
 m4:makesIn K 720=true
 f3:(fieldIds.all fun n=>isNN (findIn K (.ref 178) (sy n)))=true
 f4:(fieldIds.all fun n=>isNN (findIn K (.ref 720) (sy n)))=true
 me:(methIds.all fun n=>(refOf (findIn K (.ref 178) (sy n))).isSome)=true
 i3:(refOf (findIn K (.ref 178) (sy 2))).isSome=true
 i4:(refOf (findIn K (.ref 720) (sy 2))).isSome=true
 w3:((Je1 (nsym+1)).all fun n=>methRef K (findIn K (.ref 178) (sy n)))=true
 w4:((Je1 (nsym+1)).all fun n=>methRef K (findIn K (.ref 720) (sy n)))=true
 tab:K.lookup 826=none
 n0:nsIn K mainGlobals "" = some none
theorem sy_ge {n:Nat} (h:nsym≤n):sy n=sy nsym:=by
 unfold sy
 have e:syms[nsym]?=none:=Jf5 (Jd7 _)
 rw [Ja6,Ja6,Jf5 h,e]
theorem cls_cases:∀ c,clsName (sy c)=true→c=3∨c=4:=by
 have h:((Je1 (nsym+1)).all fun c=>!clsName (sy c) || (Jc5 c 3 || Jc5 c 4))=true:=by decide +kernel
 intro c hc
 have hlt:c<nsym:=by
  by_cases q:c<nsym
  ·exact q
  ·rw [sy_ge (Je3 q)] at hc
   exact absurd hc (by decide +kernel)
 have:=Jb3.mp h c (Ji6.mpr (by omega))
 rw [hc] at this
 simp only [Bool.not_true,Bool.false_or,Bool.or_eq_true] at this
 exact this.imp Jb9 Jb9
theorem contains_mem {l:List Str} {x:Str} (h:l.contains x=true):x∈l:=by
 obtain ⟨y,hy,e⟩:=List.contains_iff_exists_mem_beq.mp h
 rw [eq_of_beq e];exact hy
theorem clsOk_of {K:Frag} {C:Addr} (d:hasDictIn K C=true) (g:findIn K (.ref C) "__getattribute__" = some (some (.builtin "object.__getattribute__"))) (t:findIn K (.ref C) "__getattr__" = some none)
  (s:findIn K (.ref C) "__setattr__" = some (some (.builtin "object.__setattr__"))) (o:plainOver K C=true) (m:makesIn K C=true) (f:(fieldIds.all fun n=>isNN (findIn K (.ref C) (sy n)))=true):ClsOk K C:=by
 refine ⟨?_,g,t,s,o,m,fun n hn=>?_⟩
 ·unfold hasDictIn at d
  cases q:clsIn K C with
  | none=>rw [q] at d;cases d
  | some cd=>rw [q] at d;exact ⟨cd,rfl,d⟩
 ·obtain ⟨x,hx,e⟩:=Ji5.mp hn
  rw [← Jb9 e]
  exact isNN_eq (Jb3.mp f x hx)
theorem meth_of {K:Frag} {C:Addr} (w:((Je1 (nsym+1)).all fun n=>methRef K (findIn K (.ref C) (sy n)))=true) {n:Nat} {a:Addr} (e:findIn K (.ref C) (sy n)=some (some (.ref a))):typeIn K (.ref a)=some (.type "function")∧keepIn K (.ref a)=true:=by
 have h:methRef K (findIn K (.ref C) (sy n))=true:=by
  by_cases q:n<nsym
  ·exact Jb3.mp w n (Ji6.mpr (by omega))
  ·rw [sy_ge (Je3 q)]
   exact Jb3.mp w nsym (Ji6.mpr (by omega))
 rw [e] at h
 obtain ⟨h1,h2⟩:=Jd5.mp h
 exact ⟨isFnT_eq h1,h2⟩
theorem isSome_ref {o:Option (Option Value)} (h:(refOf o).isSome=true):∃ a,o=some (some (.ref a)):=by
 obtain ⟨a,e⟩:=Jg9.mp h
 exact ⟨a,refOf_eq e⟩
noncomputable def gl (prog:Program) (w:World) (h₀:Heap) (K:Frag) (mg mb:Str→Option Value) (P:Addr) (arg:Obj) (nfs:List NF) (hK:KOk K) (X:K.In h₀) (g:h₀.Ns mainGlobals mg) (b:h₀.Ns builtinsNs mb) (nolimit:h₀.NoLimit)
  (bi:∀ x:Str,x≠"__name__"→mb x=bootBuiltins x) (sm:sysModules<h₀.objs.size) (top:∀ h:Heap,(∀ b o,h₀.get? b=some o→h.get? b=some o)→h₀.objs.size≤h.objs.size):Gl where
 prog:=prog
 w:=w
 h₀:=h₀
 K:=K
 mg:=mg
 mb:=mb
 X:=X
 g:=g
 b:=b
 nolimit:=nolimit
 bi:=bi
 sm:=sm
 top:=top
 cls:=cAt
 clsOk:=fun c hc=>by
  rcases cls_cases c hc with rfl | rfl
  ·exact clsOk_of hK.d3 hK.g3 hK.t3 hK.s3 hK.o3 hK.m3 hK.f3
  ·exact clsOk_of hK.d4 hK.g4 hK.t4 hK.s4 hK.o4 hK.m4 hK.f4
 clsAt:=fun c hc=>by
  rcases cls_cases c hc with rfl | rfl
  ·exact ⟨mg_of X g hK.c3,hK.k3⟩
  ·exact ⟨mg_of X g hK.c4,hK.k4⟩
 fnAt:=fun n hn=>by
  obtain ⟨a,e,k⟩:=keepRef_eq (Jb3.mp hK.glob _ (contains_mem hn))
  exact ⟨a,mg_of X g e,k⟩
 biAt:=fun n hn=>ns_none_of X g (isNN_eq (Jb3.mp hK.bi _ (contains_mem hn)))
 methAt:=fun c n h=>by
  obtain ⟨h1,h2⟩:=Jd5.mp h
  obtain ⟨x,hx,e⟩:=Ji5.mp h2
  rw [← Jb9 e,Jb9 h1]
  exact isSome_ref (Jb3.mp hK.me x hx)
 init:=fun c hc=>by
  rw [← sy_init]
  rcases cls_cases c hc with rfl | rfl
  ·obtain ⟨a,e⟩:=isSome_ref hK.i3;exact ⟨a,e,(meth_of hK.w3 e).1⟩
  ·obtain ⟨a,e⟩:=isSome_ref hK.i4;exact ⟨a,e,(meth_of hK.w4 e).1⟩
 meths:=fun c n a hc e=>by
  rcases cls_cases c hc with rfl | rfl
  ·exact meth_of hK.w3 e
  ·exact meth_of hK.w4 e
 fnObj:=fun k cs d o=>∃ nf,nfs[k]?=some nf∧(∀ z,nf.scope.names.lookup z=some .free→∃ c,cs.lookup z=some c)∧∃ doc pm ctv,o=fnMade nf.name nf.qual nf.params nf.body nf.scope cs doc pm d ctv
 codeObj:=fun k od=>∃ nf vs t,nfs[k]?=some nf∧od.data=.fields vs∧vs[1]?=some (.str nf.qual t)
 fnData:=fun k cs d o h=>by obtain ⟨nf,_,_,doc,pm,ctv,rfl⟩:=h;exact ⟨_,rfl⟩
 P:=P
 arg:=arg
end
section
noncomputable def fdAt (K:Frag) (a:Addr):Option FuncData:=match K.lookup a with
 | some ⟨_,_,.func fd,_⟩=>some fd
 | _=>none
theorem fdAt_some {K:Frag} {a:Addr} {fd:FuncData} (e:fdAt K a=some fd):∃ oc od osl,K.lookup a=some ⟨oc,od,.func fd,osl⟩:=by
 unfold fdAt at e
 cases q:K.lookup a with
 | none=>rw [q] at e;cases e
 | some o=>
  rw [q] at e
  obtain ⟨oc,od,d,osl⟩:=o
  cases d with
  | func f=>cases e;exact ⟨_,_,_,rfl⟩
  | _=>exact ns e
noncomputable def trBody (fd:FuncData):Option (List S):=match fd.body with
 | .stmts b=>some (b.map (trS 40 fun x=>fd.scope.names.lookup x))
 | _=>none
theorem trBody_eq {fd:FuncData} {c:List S} (e:trBody fd=some c):∃ b,fd.body=.stmts b∧b.map (trS 40 fun x=>fd.scope.names.lookup x)=c:=by
 unfold trBody at e
 cases q:fd.body with
 | stmts b=>rw [q] at e;exact ⟨b,rfl,Jb7 e⟩
 | _=>rw [q] at e;cases e
noncomputable def okN (o:Option NameKind):Bool:=o == some .local || o == some .cell
noncomputable def notFree (k:NameKind):Bool:=!(k == .free)
noncomputable def fdChk (K:Frag) (ps:List Nat) (fd:FuncData):Bool:=
 Jc5 fd.globals mainGlobals && (Jc5 fd.builtins builtinsNs && (isFnSc fd.scope.kind && (!fd.scope.isCoroutine && (!fd.scope.isGenerator && (codeIn K fd.code fd.qualname && (fd.closure.isEmpty && (fd.scope.names.all (fun x=>notFree x.2) && ps.all fun p=>okN (fd.scope.names.lookup (sy p)))))))))
structure FnL (K:Frag) (a:Addr) (ps:List Nat) (code:List S):Prop where
 e1:(fdAt K a).map (fdChk K ps)=some true
 e2:(fdAt K a).map trBody=some (some code)
 e3:∀ S (vs:List Value),vs.length=ps.length→(fdAt K a).map (fun fd=>peek K S (bindArgs fd ⟨vs,[]⟩))=some (some ((ps.map sy).zip vs))
noncomputable def psOk (ps:List Nat):Bool:=decide ps.Nodup && ps.all fun p=>decide (p<nsym)
set_option tactic.hygienic true in
theorem FnL.ok {Γ:Gl} {a:Addr} {ps:List Nat} {code:List S} (h:FnL Γ.K a ps code) (hp:psOk ps=true):DefOk Γ a ps code:=by
 obtain ⟨e1,e2,e3⟩:=h
 obtain ⟨nd,lt⟩:=Jd5.mp hp
 cases q:fdAt Γ.K a with
 | none=>rw [q] at e1;cases e1
 | some fd=>
  rw [q] at e1 e2 e3
  simp only [Option.map_some,Option.some.injEq] at e1 e2 e3
  obtain ⟨oc,od,osl,hK⟩:=fdAt_some q
  simp only [fdChk,Jd1,Jg2] at e1
  obtain ⟨h1,h2,h3,h4,h5,h6,h7,h8,h9⟩:=e1
  refine ⟨oc,od,osl,fd,hK,⟨?_,Jb9 h1,Jb9 h2,?_,h4,h5,fun vs s X hl=>kp_binds X fun S=>e3 S vs hl,of_decide_eq_true nd,fun p hp=>of_decide_eq_true (Jb3.mp lt p hp)⟩,h6,List.isEmpty_iff.mp h7,fun x hx hf=>?_,fun p hp=>?_⟩
  ·exact trBody_eq e2
  ·exact fnSc_eq h3
  ·have:=Jb3.mp h8 x hx
   rw [hf] at this;cases this
  ·have:=Jb3.mp h9 p hp
   exact ((Bool.or_eq_true _ _).mp this).imp eq_of_beq eq_of_beq
theorem len0 {P:List Value→Prop} (h:P []):∀ vs:List Value,vs.length=0→P vs:=fun vs e=>by
 cases vs with
 | nil=>exact h
 | cons=>cases e
theorem lenS {P:List Value→Prop} {n:Nat} (h:∀ a,∀ vs:List Value,vs.length=n→P (a::vs)):∀ vs:List Value,vs.length=n+1→P vs:=fun vs e=>by
 cases vs with
 | nil=>cases e
 | cons a vs=>exact h a vs (Nat.succ.inj e)
theorem len1 {P:List Value→Prop} (h:∀ a,P [a]):∀ vs:List Value,vs.length=1→P vs:=lenS fun a=>len0 (P:=fun vs=>P (a::vs)) (h a)
theorem len2 {P:List Value→Prop} (h:∀ a b,P [a,b]):∀ vs:List Value,vs.length=2→P vs:=lenS fun a=>len1 (P:=fun vs=>P (a::vs)) (h a)
theorem len3 {P:List Value→Prop} (h:∀ a b c,P [a,b,c]):∀ vs:List Value,vs.length=3→P vs:=lenS fun a=>len2 (P:=fun vs=>P (a::vs)) (h a)
theorem len4 {P:List Value→Prop} (h:∀ a b c d,P [a,b,c,d]):∀ vs:List Value,vs.length=4→P vs:=lenS fun a=>len3 (P:=fun vs=>P (a::vs)) (h a)
theorem len5 {P:List Value→Prop} (h:∀ a b c d e,P [a,b,c,d,e]):∀ vs:List Value,vs.length=5→P vs:=lenS fun a=>len4 (P:=fun vs=>P (a::vs)) (h a)
theorem len6 {P:List Value→Prop} (h:∀ a b c d e f,P [a,b,c,d,e,f]):∀ vs:List Value,vs.length=6→P vs:=lenS fun a=>len5 (P:=fun vs=>P (a::vs)) (h a)
end
section
noncomputable def bodyOf (fd:FuncData):List Stmt:=match fd.body with
 | .stmts b=>b
 | _=>[]
noncomputable def nfOf (q:Str):Stmt→Option NF
 | .FunctionDef n p b _ _ _ s _ _ pos=>some ⟨n,q++n,p,b,s,pos⟩
 | _=>none
noncomputable def itsOf (fd:FuncData):List Item:=((bodyOf fd).zip hostShape).filterMap fun x=>(nfOf (fd.qualname++".<locals>.") x.1).map fun f=>(f,x.2)
noncomputable def itsK (K:Frag):List Item:=match fdAt K 831 with
 | some fd=>itsOf fd
 | none=>[]
noncomputable def isLoc (o:Option NameKind):Bool:=o == some .local
noncomputable def isCel (o:Option NameKind):Bool:=o == some .cell
noncomputable def isFre (o:Option NameKind):Bool:=o == some .free
noncomputable def itemChk (names:List (Str×NameKind)) (i:Item):Bool:=
 (sy i.2.1 == i.1.name) && (decide (i.2.1<nsym) && (isLoc (names.lookup (sy i.2.1)) && (i.1.params.defaults.isEmpty && (i.1.params.kw_defaults.isEmpty &&
  (i.1.scope.names.all (fun y=>notFree y.2 || [164,158,168,85].any fun j=>(y.1 == sy j) && isCel (names.lookup (sy j))) && i.2.2.all fun x=>isFre (i.1.scope.names.lookup (sy x)) && isCel (names.lookup (sy x)))))))
noncomputable def refIs (c:Addr) (v:Value):Bool:=v == .ref c
noncomputable def hostChk (K:Frag) (cH:Addr) (fd:FuncData):Bool:=
 fdChk K [164,158,168] fd && (refIs cH fd.code && ([164,158,168,85].all (fun x=>isCel (fd.scope.names.lookup (sy x))) && (Je1 (nsym+1)).all fun x=>!isCel (fd.scope.names.lookup (sy x)) || [164,158,168,85].any fun y=>Jc5 y x))
theorem nfOf_q {q:Str} {s:Stmt} {f:NF} (h:nfOf q s=some f):f.qual=q++f.name:=by
 cases s with
 | FunctionDef=>cases h;rfl
 | _=>exact ns h
structure HK (K:Frag) (cH:Addr):Prop where
 sh:(itsK K).map (·.2)=hostShape
 body:(fdAt K 831).map (fun fd=>fd.body)=some (.stmts ((itsK K).map (fun i=>i.1.st)++(match fdAt K 831 with | some fd=>(bodyOf fd).drop 8 | none=>[])))
 rest:(fdAt K 831).map (fun fd=>((bodyOf fd).drop 8).map (trS 40 fun x=>fd.scope.names.lookup x))=some hostRest
 chk:(fdAt K 831).map (hostChk K cH)=some true
 bind:∀ S (vs:List Value),vs.length=3→(fdAt K 831).map (fun fd=>peek K S (bindArgs fd ⟨vs,[]⟩))=some (some (([164,158,168].map sy).zip vs))
 items:(fdAt K 831).map (fun fd=>(itsK K).all (itemChk fd.scope.names))=some true
 an:∀ env,(itsK K).map (fun i=>annTrees i.1.params none env)=Jb1 8 []
 nf:∀ n,(itsK K).map (fun i=>flook (frH n) i.2.1)=Jb1 8 none
 lines:decide ((itsK K).map fun i=>i.1.pos.line).Nodup=true
 chd:codeHdIn K cH 826=true
theorem rep_mem {α β:Type} {f:α→β} {l:List α} {n:Nat} {b:β} (h:l.map f=Jb1 n b) {x:α} (hx:x∈l):f x=b:=by
 have:=List.mem_map_of_mem (f:=f) hx
 rw [h] at this
 exact List.eq_of_mem_replicate this
theorem HK.item {K:Frag} {cH:Addr} {fd:FuncData} (H:HK K cH) (hf:fdAt K 831=some fd) (env:Env) (n:Nat) (hk:∀ z,env.kindOf z=fd.scope.names.lookup z) (hq:env.qual=fd.qualname++".<locals>."):∀ i∈itsK K,ItemOk env (frH n) i:=by
 intro i hi
 have h1:=H.items
 rw [hf] at h1
 have h2:=Jb3.mp (Jb7 h1) i hi
 simp only [itemChk,Jd1] at h2
 obtain ⟨a1,a2,a3,a4,a5,a6,a7⟩:=h2
 have hloc:env.kindOf (sy i.2.1)=some .local:=(hk _).trans (eq_of_beq a3)
 have hname:=eq_of_beq a1
 refine ⟨hname,of_decide_eq_true a2,hloc,rep_mem (H.nf n) hi,?_,List.isEmpty_iff.mp a4,List.isEmpty_iff.mp a5,rep_mem (H.an env) hi,fun y hy hfy=>?_,fun x hx=>?_⟩
 ·have hi2:=hi
  unfold itsK at hi2
  rw [hf] at hi2
  obtain ⟨p,hp,e⟩:=Jg4.mp hi2
  obtain ⟨g,hg,e2⟩:=Option.map_eq_some_iff.mp e
  subst e2
  rw [nfOf_q hg]
  unfold qualnameIn
  rw [← hname,hloc,hq]
  rw [hname]
  rfl
 ·have:=Jb3.mp a6 y hy
  rw [hfy] at this
  obtain ⟨j,_,e⟩:=Ji5.mp this
  obtain ⟨e1,e2⟩:=Jd5.mp e
  exact ⟨j,eq_of_beq e1,(hk _).trans (eq_of_beq e2)⟩
 ·obtain ⟨e1,e2⟩:=Jd5.mp (Jb3.mp a7 x hx)
  exact ⟨eq_of_beq e1,(hk _).trans (eq_of_beq e2)⟩
end
section
section
variable {prog:Program} {w:World} {h₀:Heap} {K:Frag} {mg mb:Str→Option Value} {hK:KOk K} {X:K.In h₀} {g:h₀.Ns mainGlobals mg} {b:h₀.Ns builtinsNs mb} {nl:h₀.NoLimit} {arg:Obj} {bi:∀ x:Str,x≠"__name__"→mb x=bootBuiltins x} {sm:sysModules<h₀.objs.size}
 {top:∀ h:Heap,(∀ b o,h₀.get? b=some o→h.get? b=some o)→h₀.objs.size≤h.objs.size} {cH:Addr}
theorem only_cells {names:List (Str×NameKind)} (d:((Je1 (nsym+1)).all fun x=>!isCel (names.lookup (sy x)) || [164,158,168,85].any fun y=>Jc5 y x)=true) {x:Nat} (hx:names.lookup (sy x)=some .cell):x∈cellIds:=by
 have key:∀ y,y<nsym+1→names.lookup (sy y)=some .cell→y∈cellIds:=fun y hy e=>by
  have:=Jb3.mp d y (Ji6.mpr hy)
  rw [e] at this
  obtain ⟨z,hz,e2⟩:=Ji5.mp this
  exact Jb9 e2▸hz
 by_cases hlt:x<nsym
 ·exact key x (Jg3 hlt) hx
 ·rw [sy_ge (Je3 hlt)] at hx
  exact absurd (cellIds_lt _ (key nsym (Jh4 _) hx)) (Nat.lt_irrefl _)
theorem hostOk_gl (H:HK K cH) (hp:h₀.get? 826=none) (bm:∃ bm ob,mg "__builtins__" = some (.ref bm)∧bm≠builtinsNs∧h₀.get? bm=some ob∧ob.cls=.type "module"∧ob.dict=some builtinsNs∧ob.data=.plain)
  (h15:nsIn K mainGlobals (sy 15)=some (some (.ref 831))):HostOk (gl prog w h₀ K mg mb 826 arg ((itsK K).map (·.1)) hK X g b nl bi sm top) (itsK K) cH:=by
 refine ⟨⟨fun k nf e cs d doc pm ctv hcv=>⟨nf,e,hcv,doc,pm,ctv,rfl⟩,fun k nf e od vs t h1 h2=>⟨nf,vs,t,e,h1,h2⟩,codeHd_of_K X H.chd,hp,bm⟩,?_,fun a ρ ha=>?_⟩
 ·have:=of_decide_eq_true H.lines
  exact List.pairwise_map.mp this
 ·have ea:mg (sy 15)=some (.ref a):=ha
  rw [mg_of X g h15] at ea
  cases ea
  have h1:=H.body
  have h2:=H.rest
  have h3:=H.chk
  have h4:=H.bind
  cases q:fdAt K 831 with
  | none=>rw [q] at h3;cases h3
  | some fd=>
   rw [q] at h1 h2 h3 h4
   obtain ⟨oc,od,osl,hl⟩:=fdAt_some q
   have h1:=Jb7 h1
   have h2:=Jb7 h2
   have h3:=Jb7 h3
   simp only [hostChk,fdChk,Jd1,Jg2] at h3
   obtain ⟨⟨c1,c2,c3,c4,c5,c6,c7,c8,c9⟩,d1,d2,d3⟩:=h3
   exact ⟨oc,od,osl,fd,_,hl,h1,h2,Jb9 c1,Jb9 c2,fnSc_eq c3,c4,c5,fun vs s X hl=>kp_binds X fun S=>Jb7 (h4 S vs hl),eq_of_beq d1,c6,List.isEmpty_iff.mp c7,fun x hx hf=>(by
    have:=Jb3.mp c8 x hx
    rw [hf] at this;cases this),fun x hx=>eq_of_beq (Jb3.mp d2 x hx),fun x hx=>only_cells d3 hx,fun env n hk hq=>H.item q env n hk hq⟩
end
end
section
noncomputable def closChk (ps frn:List Nat) (i:Item):Bool:=
 isFnSc i.1.scope.kind && (!i.1.scope.isCoroutine && (!i.1.scope.isGenerator && (i.1.scope.names.all (fun x=>!isCel (some x.2)) && (ps.all (fun p=>isLoc (i.1.scope.names.lookup (sy p))) && frn.all fun x=>!isLoc (i.1.scope.names.lookup (sy x))))))
structure CK (K:Frag) (kk:Nat) (ps frn:List Nat) (code:List S):Prop where
 e1:((itsK K)[kk]?).map (closChk ps frn)=some true
 e2:((itsK K)[kk]?).map (fun i=>i.1.body.map (trS 40 fun x=>i.1.scope.names.lookup x))=some code
 e3:∀ S cs doc pm c ctv (vs:List Value),vs.length=ps.length→((itsK K)[kk]?).map (fun i=>peek K S (bindArgs (fnX i.1.name i.1.qual i.1.params i.1.body i.1.scope cs .none .none doc pm none (.ref c) ctv) ⟨vs,[]⟩))=some (some ((ps.map sy).zip vs))
section
variable {prog:Program} {w:World} {h₀:Heap} {K:Frag} {mg mb:Str→Option Value} {hK:KOk K} {X:K.In h₀} {g:h₀.Ns mainGlobals mg} {b:h₀.Ns builtinsNs mb} {nl:h₀.NoLimit} {arg:Obj} {bi:∀ x:Str,x≠"__name__"→mb x=bootBuiltins x} {sm:sysModules<h₀.objs.size}
 {top:∀ h:Heap,(∀ b o,h₀.get? b=some o→h.get? b=some o)→h₀.objs.size≤h.objs.size} {kk:Nat} {ps frn:List Nat} {code:List S}
theorem CK.ok (H:CK K kk ps frn code) (hp:psOk ps=true):ClosOk (gl prog w h₀ K mg mb 826 arg ((itsK K).map (·.1)) hK X g b nl bi sm top) kk ps frn code:=by
 obtain ⟨e1,e2,e3⟩:=H
 obtain ⟨nd,lt⟩:=Jd5.mp hp
 refine ⟨fun cs d o ho=>?_⟩
 obtain ⟨nf,hn,hcv,doc,pm,ctv,rfl⟩:=ho
 rw [Ja8] at hn
 obtain ⟨i,hi,rfl⟩:=Option.map_eq_some_iff.mp hn
 rw [hi] at e1 e2 e3
 have e1:=Jb7 e1
 have e2:=Jb7 e2
 simp only [closChk,Jd1,Jg2] at e1
 obtain ⟨c1,c2,c3,c4,c5,c6⟩:=e1
 refine ⟨_,_,_,_,rfl,⟨⟨_,rfl,e2⟩,rfl,rfl,?_,c2,c3,fun vs s X hl=>kp_binds X fun S=>Jb7 (e3 S cs doc pm d ctv vs hl),of_decide_eq_true nd,fun p hp=>of_decide_eq_true (Jb3.mp lt p hp)⟩,rfl,rfl,fun od hod=>?_,fun x hx hc=>?_,fun p hp=>eq_of_beq (Jb3.mp c5 p hp),fun x hx hc=>?_,fun x hx=>hcv _ hx⟩
 ·exact fnSc_eq c1
 ·obtain ⟨nf,vs,t,h1,h2,h3⟩:=hod
  rw [Ja8,hi] at h1
  cases h1
  exact ⟨vs,t,h2,h3⟩
 ·have:=Jb3.mp c4 x hx
  rw [hc] at this;cases this
 ·have:=Jb3.mp c6 x hx
  rw [hc] at this;cases this
end
end
section
noncomputable def Fn.find (K:Frag):Fn→Option (Option Value)
 | .glob n=>nsIn K mainGlobals (sy n)
 | .meth c n=>findIn K (.ref (cAt c)) (sy n)
 | .clos _=>none
noncomputable abbrev LT:=Fn×Addr×List Nat×List S
noncomputable def bindP (K:Frag) (t:LT):Prop:=∀ s (vs:List Value),vs.length=t.2.2.1.length→(fdAt K t.2.1).map (fun fd=>peek K s (bindArgs fd ⟨vs,[]⟩))=some (some ((t.2.2.1.map sy).zip vs))
noncomputable abbrev CT:=(List Nat×List Nat×List S)×Nat
noncomputable def bindC' (K:Frag) (t:CT):Prop:=∀ s cs doc pm c ctv (vs:List Value),vs.length=t.1.1.length→((itsK K)[t.2]?).map (fun i=>peek K s (bindArgs (fnX i.1.name i.1.qual i.1.params i.1.body i.1.scope cs .none .none doc pm none (.ref c) ctv) ⟨vs,[]⟩))=some (some ((t.1.1.map sy).zip vs))
noncomputable def allP {α:Type} (P:α→Prop):List α→Prop
 | []=>True
 | a::r=>P a∧allP P r
theorem allP_mem {α:Type} {P:α→Prop} {l:List α} (h:allP P l):∀ a∈l,P a:=by
 induction l with
 | nil=>exact fun _ q=>(by cases q)
 | cons b r ih=>exact Ja7.mpr ⟨h.1,ih h.2⟩
noncomputable def noListO (o:Obj):Bool:=!(o.cls == .type "list")
noncomputable def noList (K:Frag):Bool:=K.all fun x=>noListO x.2
structure KF (K:Frag):Prop where
 kok:KOk K
 hk:HK K 830
 h15:nsIn K mainGlobals (sy 15)=some (some (.ref 831))
 nol:noList K=true
 sm:(K.lookup 3).isSome=true
 at_:(libTab.map fun t=>t.1.find K)=libTab.map fun t=>some (some (.ref t.2.1))
 chk:(libTab.map fun t=>(fdAt K t.2.1).map (fdChk K t.2.2.1))=libTab.map fun _=>some true
 tr:(libTab.map fun t=>(fdAt K t.2.1).map trBody)=libTab.map fun t=>some (some t.2.2.2)
 bind:allP (bindP K) libTab
 cc:(closTab.zipIdx.map fun t=>((itsK K)[t.2]?).map (closChk t.1.1 t.1.2.1))=closTab.zipIdx.map fun _=>some true
 ct:(closTab.zipIdx.map fun t=>((itsK K)[t.2]?).map (fun i=>i.1.body.map (trS 40 fun x=>i.1.scope.names.lookup x)))=closTab.zipIdx.map fun t=>some t.1.2.2
 cb:allP (bindC' K) closTab.zipIdx
theorem lib_ps:(libTab.all fun t=>psOk t.2.2.1)=true:=by decide +kernel
theorem clos_ps:(closTab.all fun t=>psOk t.1)=true:=by decide +kernel
theorem noList_ne {K:Frag} (h:noList K=true) {b:Addr} {o:Obj} (e:K.lookup b=some o):o.cls≠.type "list":=fun q=>by
 have:=Jb3.mp h _ (lookup_mem e)
 unfold noListO at this
 dsimp only at this
 rw [q,beq_self_eq_true] at this
 cases this
theorem rd_ints {h:Heap} {ρ:List Slot} {ns:List Int}:∀ {vs:List Value},IntsAre vs ns→RdL h ρ vs (ns.map V.int):=by
 induction ns with
 | nil=>intro vs x;cases x;exact .nil
 | cons n ns ih=>
  intro vs x
  cases x with
  | cons _ t r=>exact .cons (.int n t) (ih r)
section
variable {prog:Program} {w:World} {h₀:Heap} {K:Frag} {mg mb:Str→Option Value} {hK:KOk K} {X:K.In h₀} {g:h₀.Ns mainGlobals mg} {b:h₀.Ns builtinsNs mb} {nl:h₀.NoLimit} {arg:Obj} {bi:∀ x:Str,x≠"__name__"→mb x=bootBuiltins x} {sm:sysModules<h₀.objs.size}
 {top:∀ h:Heap,(∀ b o,h₀.get? b=some o→h.get? b=some o)→h₀.objs.size≤h.objs.size}
theorem lib_gl (F:KF K):Lib (gl prog w h₀ K mg mb 826 arg ((itsK K).map (·.1)) hK X g b nl bi sm top) where
 fns:=fun i f d p c e a ρ ha=>by
  have hm:=Ja9 e
  have fn:FnL K d p c:=⟨List.map_inj_left.mp F.chk _ hm,List.map_inj_left.mp F.tr _ hm,allP_mem F.bind _ hm⟩
  have ok:=FnL.ok (Γ:=gl prog w h₀ K mg mb 826 arg ((itsK K).map (·.1)) hK X g b nl bi sm top) fn (Jb3.mp lib_ps _ hm)
  have at_:=List.map_inj_left.mp F.at_ _ hm
  cases f with
  | glob n=>
   have ea:mg (sy n)=some (.ref a):=ha
   rw [mg_of X g at_] at ea
   cases ea
   exact ok
  | meth k n=>
   have ea:findIn K (.ref (cAt k)) (sy n)=some (some (.ref a)):=ha
   rw [show findIn K (.ref (cAt k)) (sy n)=_ from at_] at ea
   cases ea
   exact ok
  | clos l=>cases at_
 clos:=fun k p fr c e=>by
  have hm:((p,fr,c),k)∈closTab.zipIdx:=List.mem_zipIdx_iff_getElem?.mpr e
  exact CK.ok ⟨List.map_inj_left.mp F.cc _ hm,List.map_inj_left.mp F.ct _ hm,allP_mem F.cb _ hm⟩ (Jb3.mp clos_ps _ (Ja9 e))
end
noncomputable def σ0 (xs:List Int):St:=fun i=>match i with
 | 0=>some (.ro (xs.map V.int))
 | 1=>some .tab
 | _=>none
theorem rel0 {Γ:Gl} {l:Addr} {xs:List Int} {h:Heap} {vs:List Value} {n:Nat} {ol:Obj} (hkeep:∀ b o,Γ.h₀.get? b=some o→h.get? b=some o) (hl:l≠826) (n1:Γ.h₀.get? l=none) (n2:Γ.h₀.get? 826=none) (hP:Γ.P=826) (ha:Γ.arg=ol) (hol:h.get? l=some ol) (hlc:ol.cls=.type "list") (hld:ol.data=.seq vs.toArray n) (hT:h.get? 826=some (tabObj #[])) (hI:IntsAre vs xs):Rel Γ [.one l,.one 826] (σ0 xs) h:=by
 subst ha
 refine ⟨hkeep,Jb6.mpr ⟨fun q=>hl (Ja4.mp q),Jb6.mpr ⟨Jc3,Jg8⟩⟩,Ja7.mpr ⟨n1,Ja7.mpr ⟨n2,fun _ q=>(by cases q)⟩⟩,
  Ja7.mpr ⟨⟨_,hol,fun its n q=>by rw [q] at hlc;exact absurd (Value.type.inj hlc) (by decide +kernel)⟩,Ja7.mpr ⟨⟨_,hT,fun its n q=>(by cases q)⟩,fun _ q=>(by cases q)⟩⟩,fun i c hi=>?_,fun i c sl hi hsl=>?_⟩
 ·cases i with
  | zero=>exact Ji0 _
  | succ i=>cases i with
   | zero=>exact Jd7 _
   | succ i=>cases hi
 ·cases i with
  | zero=>cases hi;cases hsl;exact ⟨vs.toArray,n,hlc,hld,hol,rd_ints hI⟩
  | succ i=>cases i with
   | zero=>cases hi;cases hsl;exact ⟨hP.symm,hT⟩
   | succ i=>cases hi
theorem gl_at {prog:Program} {w:World} {K:Frag} {mg mb:Str→Option Value} {h:Heap} {l n:Nat} {ol:Obj} {a:Array Value} (F:KF K) (YK:K.In h) (YT:h.get? 826=some (tabObj #[])) (hol:h.get? l=some ol) (hlc:ol.cls=.type "list") (hld:ol.data=.seq a n) (g:h.Ns mainGlobals mg) (b:h.Ns builtinsNs mb) (nl:h.NoLimit) (bi:∀ x:Str,x≠"__name__"→mb x=bootBuiltins x)
  (bm:∃ bm ob,mg "__builtins__" = some (.ref bm)∧bm≠builtinsNs∧h.get? bm=some ob∧ob.cls=.type "module"∧ob.dict=some builtinsNs∧ob.data=.plain) :
  ∃ Γ:Gl,(Γ.prog=prog∧Γ.w=w∧Γ.mg=mg∧Γ.P=826∧Γ.arg=ol)∧(∀ b o,Γ.h₀.get? b=some o→h.get? b=some o)∧Γ.h₀.get? l=none∧Γ.h₀.get? 826=none∧Lib Γ∧HostSpec Γ:=by
 refine (heap_tight h [826,l]).elim fun h₀ HT=>?_
 have hget:=HT.1
 have hkeep:∀ b o,h₀.get? b=some o→h.get? b=some o:=fun b o e=>by
  rw [hget] at e
  by_cases q:b∈[826,l]
  ·rw [if_pos q] at e;cases e
  ·rw [if_neg q] at e;exact e
 have hback:∀ b o,b≠826→b≠l→h.get? b=some o→h₀.get? b=some o:=fun b o h1 h2 e=>by
  rw [hget,if_neg fun q=>(Jc0.mp q).elim h1 fun q=>h2 (Ja4.mp q)];exact e
 have hns:∀ {N m},N≠826→h.Ns N m→h₀.Ns N m:=fun hN ⟨o,es,ep,e,hd,r⟩=>
  ⟨o,es,ep,hback _ _ hN (fun q=>by rw [q,hol] at e;cases e;rw [hld] at hd;cases hd) e,hd,r⟩
 have X:K.In h₀:=fun b o e=>hback b o (fun q=>by rw [q,F.kok.tab] at e;cases e) (fun q=>by
  have h2:=YK b o e
  rw [q,hol] at h2
  cases h2
  exact noList_ne F.nol e hlc) (YK b o e)
 obtain ⟨o3,e3⟩:=Jg9.mp F.sm
 obtain ⟨mc,l1,l2⟩:=nl
 obtain ⟨bm,ob,h1,h2,h3,h4,h5,h6⟩:=bm
 have n1:h₀.get? 826=none:=(hget 826).trans (if_pos (.head _))
 refine ⟨gl prog w h₀ K mg mb 826 ol ((itsK K).map (·.1)) F.kok X (hns (by decide) g) (hns (by decide) b) ⟨mc,hns (by decide) l1,l2⟩ bi (Nat.lt_trans (by decide) (Heap.lt_size (a:=3) (X 3 _ e3))) HT.2,⟨rfl,rfl,rfl,rfl,rfl⟩,hkeep,(hget l).trans (if_pos (.tail _ (.head _))),n1,lib_gl F,
  host_spec (hostOk_gl F.hk n1 ⟨bm,ob,h1,h2,hback _ _ (fun q=>?_) (fun q=>?_) h3,h4,h5,h6⟩ F.h15) F.hk.sh (lib_gl F)⟩
 ·rw [q,YT] at h3;cases h3;cases h6
 ·rw [q,hol] at h3;cases h3;rw [hld] at h6;cases h6
inductive ArgP (h:Heap) (xs:List Int):List Value→Prop
 | intro {l n:Nat} {vs:List Value} {ol:Obj}:h.get? l=some ol→ol.cls=.type "list"→ol.data=.seq vs.toArray n→IntsAre vs xs→ArgP h xs [.ref l]
inductive EndP (s:Shared):Result→Shared→Prop
 | intro {s':Shared} {t:Nat}:OldK s.heap s'.heap→s'.os=s.os→s'.gens=s.gens→EndP s (.ok (.ret (.bool true))) s'
set_option tactic.hygienic true in
theorem args_hd {h:Heap} {R:WRecords} {cl:Str→Option Addr} {w:World} {vals:List Value} {xs:List Int} {as:List Addr} (hr:ReadsAllW R cl h vals [ofPy (.list (xs.map .int))] as):ArgP h xs vals:=by
 obtain ⟨v,r,a1,a2,rfl,rfl,r1,r2⟩:=readsAllW_cons_inv hr
 cases (readsAllW_nil_inv r2).1
 have r0:=reads_of_readsW _ r1
 clear hr r1 r2
 row_read r0
 rename_i l vs _ hL _ hI
 obtain ⟨ol,hol,hlc,nl',hld⟩:=hL
 exact .intro hol hlc hld hI
set_option tactic.hygienic true in
theorem args_sh {args:List WData} (hpre:PySem.Challenge.rw_sj0064_01.row.toRowW.claim.pre args=true) (hlay:WData.layableAll args=true):∃ xs:List Int,args=[ofPy (.list (xs.map .int))]:=by
 have hsh:=(pre_splitW hpre).1
 clear hpre
 wrow_hasAll hsh hlay
 exact ⟨_,rfl⟩
set_option tactic.hygienic true in
theorem args_ln {xs:List Int} (hpre:PySem.Challenge.rw_sj0064_01.row.toRowW.claim.pre [ofPy (.list (xs.map .int))]=true):xs.length≤5000:=by
 have hcond:=(pre_splitW hpre).2
 clear hpre
 w_cond hcond
 rename_i hlen _
 have:¬ (63:Int)<(xs.length:Int):=hlen
 omega
theorem run_at {prog:Program} {w:World} {K:Frag} {mg mb:Str→Option Value} {s:Shared} {a l n:Nat} {ol:Obj} {xs:List Int} {vs:List Value} (F:KF K) (YK:K.In s.heap) (YT:s.heap.get? 826=some (tabObj #[])) (hol:s.heap.get? l=some ol) (hlc:ol.cls=.type "list") (hld:ol.data=.seq vs.toArray n) (g:s.heap.Ns mainGlobals mg) (b:s.heap.Ns builtinsNs mb) (nl:s.heap.NoLimit) (bi:∀ x:Str,x≠"__name__"→mb x=bootBuiltins x)
  (bm:∃ bm ob,mg "__builtins__" = some (.ref bm)∧bm≠builtinsNs∧s.heap.get? bm=some ob∧ob.cls=.type "module"∧ob.dict=some builtinsNs∧ob.data=.plain) (hma:mg (sy 96)=some (.ref a)) (hI:IntsAre vs xs) (hxl:xs.length≤5000) :
  codeAny (model prog w) callerA (.call (.ref a) ⟨[.ref l],[]⟩) (EndP s) s:=by
 have hl:l≠826:=fun q=>by rw [q,YT] at hol;cases hol;cases hlc
 obtain ⟨Γ,⟨rfl,rfl,rfl,g5,rfl⟩,hkeep,n1,n2,L,HS⟩:=gl_at (prog:=prog) (w:=w) F YK YT hol hlc hld g b nl bi bm
 refine codeAny_mono ((spec_law (k:=0) (σ:=σ0 xs) HS L (l:=0) (TB:=1) rfl rfl hxl).go callerA s [.one l,.one 826] [.ref l] a ⟨by decide,by decide,rfl⟩ (rel0 (xs:=xs) hkeep hl n1 n2 g5 rfl hol hlc hld YT hI) (.cons (.loc (sl:=.one l) rfl rfl) .nil) hma) fun res s' x=>?_
 clear g b nl bi bm hma L HS n1 n2 hkeep hld hI hxl
 obtain ⟨v,r,σ',ρ',rfl,st,R',rd,rfl,e1,e2⟩:=x
 cases rd
 obtain ⟨t,rfl⟩:=st.pre
 obtain ⟨_,_,_,_,k1,_⟩:=R'.cells 0 _ _ e1 rfl
 obtain ⟨ps,k2⟩:=R'.cells 1 _ _ e2 rfl
 refine .intro (t:=0) ⟨fun b o e=>?_,st.dom⟩ st.os st.gens
 by_cases hb:b=l
 ·cases hb;rw [hol] at e;cases e;exact .inl k1
 ·by_cases hb2:b=826
  ·cases hb2;rw [YT] at e;cases e
   exact .inr (.inl ⟨((codeHd_of_K YK F.hk.chd).tab YT).isCodeTable,rfl,#[],ps,rfl,k2.trans (by rw [Array.empty_append])⟩)
  ·exact .inl (st.keep b o (fun q=>(Jc0.mp q).elim hb fun q=>hb2 (Ja4.mp q)) Jc3 e)
set_option tactic.hygienic true in
theorem finish {q:Program} {loose:List Str} {XP:(Str→Option Value)→Heap→Prop} {YP:World→Heap→Prop} {dfn:DefRec} {K:Params→Frag} (y:∀ w h,YP w h→(K w.params).In h∧h.get? 826=some (tabObj #[])) (hn:dfn.name=Str.ofString "law") (KK:∀ P,KF (K P)) :
  WalkO q loose XP YP PySem.Challenge.rw_sj0064_01.row.toRowW dfn [] (fun f vs=>call f vs):=by
 intro w s₀ s₁ mg mb G Y a o pm cd doc dV kV ho hod hcr hdf hmg hgens args vals as hpre hlay hr hwell hlow
 clear ho hod hcr hdf
 clear hwell hlow
 obtain ⟨_,rfl⟩:=args_sh hpre hlay
 have hxl:=args_ln hpre
 cases args_hd (w:=w) hr with | intro hol hlc hld hI=>
 clear hpre hlay hr
 refine enter_call (codeAny_mono (run_at (KK w.params) (y _ _ Y).1 (y _ _ Y).2 hol hlc hld G.T.g G.T.b G.T.nolimit G.T.builtins G.T.bmain (by rw [show sy 96=Str.ofString "law" from by decide +kernel,← hn];exact hmg) hI hxl) fun res s' x=>?_)
 cases x with | intro o1 o2 o3=>
 exact ⟨.inl ⟨_,.bool true,[],rfl,raisesW_false (by wrow_none_raised),.bool true,postW_of (by wrow_shape) (by wtm_val) (by w_fin),unshared_nil⟩,o1,o2,.of_eq (o3.trans hgens)⟩
end
end Mine
namespace Mine.top
theorem tw17542608870123051758:True:=⟨⟩
theorem tw10252623693936335467:True:=⟨⟩
theorem tw4250950275838387964:True:=⟨⟩
theorem tw14466935161476858967:True:=⟨⟩
theorem tw16878204669230926818:True:=⟨⟩
theorem tw11760055953109336660:True:=⟨⟩
theorem tw8547604310838440241:True:=⟨⟩
theorem tw4213018616267185653:True:=⟨⟩
theorem tw3909029901177050473:True:=⟨⟩
theorem tw11577829705659331004:True:=⟨⟩
theorem tw1971433849790844608:True:=⟨⟩
theorem tw18062624165398249997:True:=⟨⟩
theorem tw13305523845174962083:True:=⟨⟩
theorem tw17788931634197215145:True:=⟨⟩
theorem tw11520865232209809239:True:=⟨⟩
theorem tw2464713573024523455:True:=⟨⟩
theorem tw9227057690007400460:True:=⟨⟩
theorem tw7059692629156357883:True:=⟨⟩
theorem tw14632489290957082403:True:=⟨⟩
theorem tw5667650583090716360:True:=⟨⟩
theorem tw17807222030613408314:True:=⟨⟩
theorem tw14823308797102314842:True:=⟨⟩
theorem tw7008692893051332821:True:=⟨⟩
theorem tw1040915598704419856:True:=⟨⟩
theorem tw18177719399980262173:True:=⟨⟩
theorem tw18034075008235765660:True:=⟨⟩
theorem tw775762912060472103:True:=⟨⟩
theorem tw283044589724301:True:=⟨⟩
theorem tw9366391650621772374:True:=⟨⟩
theorem tw1617357707322924660:True:=⟨⟩
theorem tw427269002284569659:True:=⟨⟩
theorem tw2506305409684761478:True:=⟨⟩
theorem tw12638030207367898728:True:=⟨⟩
theorem tw14374289702345001990:True:=⟨⟩
theorem tw8598144960395782539:True:=⟨⟩
theorem tw6127594578889010139:True:=⟨⟩
theorem tw13802547742096326172:True:=⟨⟩
theorem tw11133666699803404755:True:=⟨⟩
theorem tw2965125352208521119:True:=⟨⟩
theorem tw11334350811105764591:True:=⟨⟩
theorem tw2665807947273092163:True:=⟨⟩
theorem tw5244899138074338376:True:=⟨⟩
theorem tw12507017104952529904:True:=⟨⟩
theorem tw1869187583165140508:True:=⟨⟩
theorem tw6459276657848829223:True:=⟨⟩
theorem tw3730354652608582461:True:=⟨⟩
theorem tw11592465598724292549:True:=⟨⟩
theorem tw908825868028484722:True:=⟨⟩
theorem tw314455870634268127:True:=⟨⟩
theorem tw2009410202504348048:True:=⟨⟩
theorem tw104434173382791472:True:=⟨⟩
theorem tw16264823338695392855:True:=⟨⟩
theorem tw11468358511172941013:True:=⟨⟩
theorem tw7527032243904285869:True:=⟨⟩
theorem tw11922380849998532372:True:=⟨⟩
theorem tw4002441696211005659:True:=⟨⟩
theorem tw13985988839938425345:True:=⟨⟩
theorem tw6211089042160764376:True:=⟨⟩
theorem tw1754339480302792767:True:=⟨⟩
theorem tw16719718919923625709:True:=⟨⟩
theorem tw3581848524822189991:True:=⟨⟩
theorem tw5507162329139097715:True:=⟨⟩
theorem tw16123964013534891561:True:=⟨⟩
theorem tw13261893007816960818:True:=⟨⟩
theorem tw17594962761535629368:True:=⟨⟩
theorem tw4383139521930768336:True:=⟨⟩
theorem tw13044034144603486326:True:=⟨⟩
theorem tw13369591340354186047:True:=⟨⟩
theorem tw6812286434817487243:True:=⟨⟩
theorem tw16439428074185983240:True:=⟨⟩
theorem tw10643057118474118344:True:=⟨⟩
theorem tw16415559393655328363:True:=⟨⟩
theorem tw6333448901615975916:True:=⟨⟩
theorem tw4250876409542091131:True:=⟨⟩
theorem tw1169771345039838236:True:=⟨⟩
theorem tw7198060816514059695:True:=⟨⟩
theorem tw17176029603704830031:True:=⟨⟩
theorem tw11858546649754279707:True:=⟨⟩
theorem tw15125931889511115149:True:=⟨⟩
theorem tw14371913498598963198:True:=⟨⟩
theorem tw6292954644110606532:True:=⟨⟩
theorem tw9233335307524088747:True:=⟨⟩
theorem tw12415523145999629524:True:=⟨⟩
theorem tw8054331753737935190:True:=⟨⟩
theorem tw9990226795618131978:True:=⟨⟩
theorem tw8912170899635468890:True:=⟨⟩
theorem tw5225153198818245361:True:=⟨⟩
theorem tw390997316461189296:True:=⟨⟩
theorem tw1124271682379634556:True:=⟨⟩
theorem tw11383000496634168614:True:=⟨⟩
theorem tw2968346561183084112:True:=⟨⟩
theorem tw4597200072644226624:True:=⟨⟩
theorem tw8735323631387419056:True:=⟨⟩
theorem tw16612331741718818515:True:=⟨⟩
theorem tw7204998973626084599:True:=⟨⟩
theorem tw8645369167282567922:True:=⟨⟩
theorem tw3874152929960365753:True:=⟨⟩
theorem tw12643520174271941249:True:=⟨⟩
theorem tw1284575025550258836:True:=⟨⟩
theorem tw8689318265317240412:True:=⟨⟩
theorem tw953821971998124167:True:=⟨⟩
theorem tw6694047246710070196:True:=⟨⟩
theorem tw8817415213059835157:True:=⟨⟩
theorem tw5225916559131626549:True:=⟨⟩
theorem tw7313339093194340965:True:=⟨⟩
theorem tw8729362747519067210:True:=⟨⟩
theorem tw7681529838311687354:True:=⟨⟩
theorem tw5609151216138764652:True:=⟨⟩
theorem tw17964300760807480141:True:=⟨⟩
theorem tw649594095290182367:True:=⟨⟩
theorem tw13272337422414781067:True:=⟨⟩
theorem tw18367679650794681301:True:=⟨⟩
theorem tw84136930442132756:True:=⟨⟩
theorem tw6659320528611288953:True:=⟨⟩
theorem tw2580922434103091657:True:=⟨⟩
theorem tw17346259052997144950:True:=⟨⟩
theorem tw13359135706311490777:True:=⟨⟩
theorem tw11762496359356365647:True:=⟨⟩
theorem tw602653604445443664:True:=⟨⟩
theorem tw17981982808018919739:True:=⟨⟩
theorem tw14399976873020721970:True:=⟨⟩
theorem tw7250933059871147345:True:=⟨⟩
theorem tw10362775142378211054:True:=⟨⟩
theorem tw13899568491130100285:True:=⟨⟩
theorem tw2985252069258134486:True:=⟨⟩
theorem tw7831609458864858238:True:=⟨⟩
theorem tw681777741448182936:True:=⟨⟩
theorem tw12904532413392791838:True:=⟨⟩
theorem tw16004416686337608138:True:=⟨⟩
theorem tw8204474986945543665:True:=⟨⟩
theorem tw127126225481002756:True:=⟨⟩
theorem tw13370750898655102155:True:=⟨⟩
theorem tw8435561252592420358:True:=⟨⟩
theorem tw8139039716903228087:True:=⟨⟩
theorem tw12425085872883035938:True:=⟨⟩
theorem tw14317375437502057738:True:=⟨⟩
theorem tw5088376156974544275:True:=⟨⟩
theorem tw1149218181149386328:True:=⟨⟩
theorem tw13820912127525551613:True:=⟨⟩
theorem tw17033825039287860005:True:=⟨⟩
theorem tw18064794426631996164:True:=⟨⟩
theorem tw5915399644114372684:True:=⟨⟩
theorem tw9851269098105209369:True:=⟨⟩
theorem tw7325726471975496349:True:=⟨⟩
theorem tw3820434133910038737:True:=⟨⟩
theorem tw7847650389618582240:True:=⟨⟩
theorem tw14453841093610474573:True:=⟨⟩
theorem tw12799587869946173625:True:=⟨⟩
theorem tw5738303106652476479:True:=⟨⟩
theorem tw14901070454687303710:True:=⟨⟩
theorem tw16580785732701462914:True:=⟨⟩
theorem tw3331421620988305804:True:=⟨⟩
theorem tw10006222313960134694:True:=⟨⟩
theorem tw4835499133494076262:True:=⟨⟩
theorem tw10783980745131425670:True:=⟨⟩
theorem tw943912311671756261:True:=⟨⟩
theorem tw7160873610591055699:True:=⟨⟩
theorem tw1275901062530889299:True:=⟨⟩
theorem tw8999917154711486175:True:=⟨⟩
theorem tw956089473029861405:True:=⟨⟩
theorem tw12342655685612074800:True:=⟨⟩
theorem tw16068562728529669930:True:=⟨⟩
theorem tw10936122117785486979:True:=⟨⟩
theorem tw14826035006057030972:True:=⟨⟩
theorem tw15245507539482535896:True:=⟨⟩
theorem tw16866024460163772082:True:=⟨⟩
theorem tw5839659824258004927:True:=⟨⟩
theorem tw372964977893139469:True:=⟨⟩
theorem tw1294077662247117797:True:=⟨⟩
theorem tw1142465760834251562:True:=⟨⟩
theorem tw6143595290313323761:True:=⟨⟩
theorem tw9961057766049560675:True:=⟨⟩
theorem tw6916252892733821390:True:=⟨⟩
theorem tw6287420888163001789:True:=⟨⟩
theorem tw11115061947052763221:True:=⟨⟩
theorem tw9854310039474760501:True:=⟨⟩
theorem tw8695611905846327720:True:=⟨⟩
theorem tw15525995667512963556:True:=⟨⟩
theorem tw7269894598878442533:True:=⟨⟩
theorem tw16759092144687519636:True:=⟨⟩
theorem tw13710211086531791108:True:=⟨⟩
theorem tw15092371282622821202:True:=⟨⟩
theorem tw568400683779154973:True:=⟨⟩
theorem tw1676862907878916244:True:=⟨⟩
theorem tw12080426169559351053:True:=⟨⟩
theorem tw11534289746047712335:True:=⟨⟩
theorem tw10577272966987657301:True:=⟨⟩
theorem tw16896751376397280635:True:=⟨⟩
theorem tw661290744650703789:True:=⟨⟩
theorem tw12483720753089274532:True:=⟨⟩
theorem tw8069049012094873728:True:=⟨⟩
theorem tw7737320934136571279:True:=⟨⟩
theorem tw5647976800219259906:True:=⟨⟩
theorem tw4551080515912023512:True:=⟨⟩
theorem tw2287362676942042354:True:=⟨⟩
theorem tw4695670854781333657:True:=⟨⟩
theorem tw6431110157172167083:True:=⟨⟩
theorem tw3704924817259034979:True:=⟨⟩
theorem tw2126296398998916975:True:=⟨⟩
theorem tw4736427724481360342:True:=⟨⟩
theorem tw17342085116792181814:True:=⟨⟩
theorem tw6919701780365589675:True:=⟨⟩
theorem tw3739144386018749749:True:=⟨⟩
theorem tw860223938195835975:True:=⟨⟩
theorem tw18085771088847121727:True:=⟨⟩
theorem tw11582926029173025856:True:=⟨⟩
theorem tw12819366960792805191:True:=⟨⟩
theorem tw18063644159110109576:True:=⟨⟩
theorem tw8237333600419904120:True:=⟨⟩
theorem tw14724332232928298890:True:=⟨⟩
theorem tw13385244156195431271:True:=⟨⟩
theorem tw216529984938456764:True:=⟨⟩
theorem tw13187519465064655849:True:=⟨⟩
theorem tw10414433010598505635:True:=⟨⟩
theorem tw17810072253543177317:True:=⟨⟩
theorem tw5476889619067714990:True:=⟨⟩
theorem tw17620759639134147866:True:=⟨⟩
theorem tw13922054642007902626:True:=⟨⟩
theorem tw9474576662836816922:True:=⟨⟩
theorem tw13928562000808390012:True:=⟨⟩
theorem tw7717162694582976202:True:=⟨⟩
theorem tw13090165191389475591:True:=⟨⟩
theorem tw15349318334595610263:True:=⟨⟩
theorem tw10562855833978642645:True:=⟨⟩
theorem tw10467260515200827399:True:=⟨⟩
theorem tw11141966352661209427:True:=⟨⟩
theorem tw1486479319815781832:True:=⟨⟩
theorem tw13290321428070320777:True:=⟨⟩
theorem tw17323899518341599180:True:=⟨⟩
theorem tw12287887523310495049:True:=⟨⟩
theorem tw8369368087495890639:True:=⟨⟩
theorem tw18121752080927795069:True:=⟨⟩
theorem tw5058314954733539658:True:=⟨⟩
theorem tw1353657120722975067:True:=⟨⟩
theorem tw1584292188352093569:True:=⟨⟩
theorem tw9498162716797940175:True:=⟨⟩
theorem tw11072019736110318841:True:=⟨⟩
theorem tw3715792687998586317:True:=⟨⟩
theorem tw4526881389914513428:True:=⟨⟩
theorem tw14705559076539443318:True:=⟨⟩
theorem tw11240886729373846589:True:=⟨⟩
theorem tw13420762306968818387:True:=⟨⟩
theorem tw8148004212497801138:True:=⟨⟩
theorem tw4713442408853163898:True:=⟨⟩
theorem tw11116745826364501430:True:=⟨⟩
theorem tw16736118626332596326:True:=⟨⟩
theorem tw16674975167109581930:True:=⟨⟩
theorem tw3846862658102513837:True:=⟨⟩
theorem tw14142502885225118848:True:=⟨⟩
theorem tw9673933992889287130:True:=⟨⟩
theorem tw8265191368974092141:True:=⟨⟩
theorem tw13134186033006778460:True:=⟨⟩
theorem tw877433047237710547:True:=⟨⟩
theorem tw16414630628198896168:True:=⟨⟩
theorem tw2731995056826638727:True:=⟨⟩
theorem tw3207569582813703071:True:=⟨⟩
theorem tw708234853630380328:True:=⟨⟩
theorem tw7671549972530922468:True:=⟨⟩
theorem tw3033006917804047512:True:=⟨⟩
theorem tw9913501989792142831:True:=⟨⟩
theorem tw9063741608606530840:True:=⟨⟩
theorem tw6908635100366463001:True:=⟨⟩
theorem tw13968125046926948103:True:=⟨⟩
theorem tw6438537300738474071:True:=⟨⟩
theorem tw14168018189251442112:True:=⟨⟩
theorem tw2417791160451022400:True:=⟨⟩
theorem tw15503665604740900718:True:=⟨⟩
theorem tw3767615275625035234:True:=⟨⟩
theorem tw6487610083215253720:True:=⟨⟩
theorem tw6662652255960138227:True:=⟨⟩
theorem tw8311017846404947139:True:=⟨⟩
theorem tw5581607755468803823:True:=⟨⟩
theorem tw7847352863974893604:True:=⟨⟩
theorem tw4671429814451907529:True:=⟨⟩
theorem tw11982747722937265360:True:=⟨⟩
theorem tw14789260269991461300:True:=⟨⟩
theorem tw1212798325632107971:True:=⟨⟩
theorem tw12520176845478516731:True:=⟨⟩
theorem tw11613256710310857696:True:=⟨⟩
theorem tw11459358961799972967:True:=⟨⟩
theorem tw8637452081102412489:True:=⟨⟩
theorem tw8184561461823581802:True:=⟨⟩
theorem tw11423202765487971197:True:=⟨⟩
theorem tw16279563093616654814:True:=⟨⟩
theorem tw2462062305354472974:True:=⟨⟩
theorem tw9743097575036673082:True:=⟨⟩
theorem tw15874363893724204672:True:=⟨⟩
theorem tw1988063486488863061:True:=⟨⟩
theorem tw5398424786039705171:True:=⟨⟩
theorem tw7587601194962177611:True:=⟨⟩
theorem tw11960245374511038805:True:=⟨⟩
theorem tw13316205017928479995:True:=⟨⟩
theorem tw9059672392935016618:True:=⟨⟩
theorem tw15696354942287192291:True:=⟨⟩
theorem tw13987285891283452908:True:=⟨⟩
theorem tw4655869559712951663:True:=⟨⟩
theorem tw6203543418390704334:True:=⟨⟩
theorem tw7429413206186439793:True:=⟨⟩
theorem tw16155163154822807229:True:=⟨⟩
theorem tw6930518751129746686:True:=⟨⟩
theorem tw14983691940233647259:True:=⟨⟩
theorem tw9601329371697537090:True:=⟨⟩
theorem tw16240068400928781132:True:=⟨⟩
theorem tw16782997733028217545:True:=⟨⟩
theorem tw10399464001100048223:True:=⟨⟩
theorem tw8800459187187324500:True:=⟨⟩
theorem tw7033079012710635876:True:=⟨⟩
theorem tw13177472732611162249:True:=⟨⟩
theorem tw728428047077509346:True:=⟨⟩
theorem tw10579768621468169598:True:=⟨⟩
theorem tw7990429038631628895:True:=⟨⟩
theorem tw72247145696351765:True:=⟨⟩
theorem tw2145171640123136144:True:=⟨⟩
theorem tw1321871150748368714:True:=⟨⟩
theorem tw5118827330378232414:True:=⟨⟩
theorem tw17103177528636943170:True:=⟨⟩
theorem tw2267912224990424062:True:=⟨⟩
theorem tw15877122091014420850:True:=⟨⟩
theorem tw14235281626263879747:True:=⟨⟩
theorem tw17828378304095215089:True:=⟨⟩
theorem tw13654219725723227091:True:=⟨⟩
theorem tw14450715343900746980:True:=⟨⟩
theorem tw17565814175750979855:True:=⟨⟩
theorem tw14671331368771545958:True:=⟨⟩
theorem tw16900427199656544559:True:=⟨⟩
theorem tw10774637447528242797:True:=⟨⟩
theorem tw8694864300669457046:True:=⟨⟩
theorem tw17795014544551873601:True:=⟨⟩
theorem tw11145643937294416527:True:=⟨⟩
theorem tw3664424711883983056:True:=⟨⟩
theorem tw17395277212465857529:True:=⟨⟩
theorem tw2057334267981633021:True:=⟨⟩
theorem tw9016798869158615873:True:=⟨⟩
theorem tw146815374380898660:True:=⟨⟩
theorem tw2847958352784047137:True:=⟨⟩
theorem tw620129878449983639:True:=⟨⟩
theorem tw15687709949711836451:True:=⟨⟩
theorem tw9614876229902214918:True:=⟨⟩
theorem tw14459580976405569124:True:=⟨⟩
theorem tw3195522803047326042:True:=⟨⟩
theorem tw6381231289166406305:True:=⟨⟩
theorem tw7657828476027519975:True:=⟨⟩
theorem tw381845443943030031:True:=⟨⟩
theorem tw2619622883677149074:True:=⟨⟩
theorem tw6286779285267259847:True:=⟨⟩
theorem tw3254097082911018636:True:=⟨⟩
theorem tw1516213087968936877:True:=⟨⟩
theorem tw10404823597219466188:True:=⟨⟩
theorem tw18008055252877512497:True:=⟨⟩
theorem tw7743179893348639699:True:=⟨⟩
theorem tw1108800333578037850:True:=⟨⟩
theorem tw53344730913325255:True:=⟨⟩
theorem tw7475746777092488413:True:=⟨⟩
theorem tw9328819404386307858:True:=⟨⟩
theorem tw15451780782824253742:True:=⟨⟩
theorem tw4258143625173308034:True:=⟨⟩
theorem tw4859757453598101857:True:=⟨⟩
theorem tw2165817408578904141:True:=⟨⟩
theorem tw12392516345856041104:True:=⟨⟩
theorem tw13852830345959847167:True:=⟨⟩
theorem tw5105846836358774362:True:=⟨⟩
theorem tw6893477703608230032:True:=⟨⟩
theorem tw7730789565009938499:True:=⟨⟩
theorem tw6756851087969907010:True:=⟨⟩
theorem tw9800703332001039478:True:=⟨⟩
theorem tw14608685727046917156:True:=⟨⟩
theorem tw15985961358823992270:True:=⟨⟩
theorem tw2312856594315299383:True:=⟨⟩
theorem tw14917401599646851644:True:=⟨⟩
theorem tw13191473780850816973:True:=⟨⟩
theorem tw5597187220613765494:True:=⟨⟩
theorem tw3871027444623705763:True:=⟨⟩
theorem tw10090393231696489298:True:=⟨⟩
theorem tw12764151676501842404:True:=⟨⟩
theorem tw17046948494117081484:True:=⟨⟩
theorem tw17953984050398360512:True:=⟨⟩
theorem tw11430207588045935325:True:=⟨⟩
theorem tw2732273902793177162:True:=⟨⟩
theorem tw2047080938173012442:True:=⟨⟩
theorem tw4468942710605802240:True:=⟨⟩
theorem tw3669314199184481253:True:=⟨⟩
theorem tw4159251561096739476:True:=⟨⟩
theorem tw12209182163369298222:True:=⟨⟩
theorem tw5728218623943512802:True:=⟨⟩
theorem tw1803303928475200142:True:=⟨⟩
theorem tw10773188271377071773:True:=⟨⟩
theorem tw3453223234828964814:True:=⟨⟩
theorem tw4186445540838780016:True:=⟨⟩
theorem tw2601905985415302144:True:=⟨⟩
theorem tw12559286593441436923:True:=⟨⟩
theorem tw2727672472851901052:True:=⟨⟩
theorem tw5590232498371695878:True:=⟨⟩
theorem tw13001836021917841797:True:=⟨⟩
theorem tw18164388396756303480:True:=⟨⟩
theorem tw2249405535684624136:True:=⟨⟩
theorem tw2812155379371279736:True:=⟨⟩
theorem tw10001883323181062329:True:=⟨⟩
theorem tw3995942328266245912:True:=⟨⟩
theorem tw14771320824794740959:True:=⟨⟩
theorem tw6749217079512962374:True:=⟨⟩
theorem tw1123975283337734383:True:=⟨⟩
theorem tw6505410396798821541:True:=⟨⟩
theorem tw3796891538752321733:True:=⟨⟩
theorem tw3217022616335106338:True:=⟨⟩
theorem tw6885214360128481674:True:=⟨⟩
theorem tw5303079699428457377:True:=⟨⟩
theorem tw7761843605638006849:True:=⟨⟩
theorem tw1732150942055357024:True:=⟨⟩
theorem tw2675166985342186458:True:=⟨⟩
theorem tw2809488002615124206:True:=⟨⟩
theorem tw16174758807025615021:True:=⟨⟩
theorem tw6912233166142098652:True:=⟨⟩
theorem tw3087888393795971977:True:=⟨⟩
theorem tw7744093853086628109:True:=⟨⟩
theorem tw8374938949443298174:True:=⟨⟩
theorem tw3378803678994701225:True:=⟨⟩
theorem tw8265311939077410998:True:=⟨⟩
theorem tw6187478851450931391:True:=⟨⟩
theorem tw15878805988109762761:True:=⟨⟩
theorem tw4916261283513009128:True:=⟨⟩
theorem tw9335426496214029073:True:=⟨⟩
theorem tw2972514686349903234:True:=⟨⟩
theorem tw516228168201391017:True:=⟨⟩
theorem tw18086089286151905521:True:=⟨⟩
theorem tw6240723676877644813:True:=⟨⟩
theorem tw14248925298954806443:True:=⟨⟩
theorem tw350670483859837877:True:=⟨⟩
theorem tw18394268562011335289:True:=⟨⟩
theorem tw8410488445778877200:True:=⟨⟩
theorem tw1394568958698188020:True:=⟨⟩
theorem tw2926424126403749041:True:=⟨⟩
theorem tw13120753694373217308:True:=⟨⟩
theorem tw5155950481276406077:True:=⟨⟩
theorem tw9259421805112917234:True:=⟨⟩
theorem tw2218668502564051296:True:=⟨⟩
theorem tw16541100652227675460:True:=⟨⟩
theorem tw3315250197877816394:True:=⟨⟩
theorem tw11457754044182789617:True:=⟨⟩
theorem tw1670607248958778201:True:=⟨⟩
theorem tw6189502492464219833:True:=⟨⟩
theorem tw8538268897159353584:True:=⟨⟩
theorem tw11279390925490393535:True:=⟨⟩
theorem tw15740088241188596515:True:=⟨⟩
theorem tw17886615442053742456:True:=⟨⟩
theorem tw11131206648525784891:True:=⟨⟩
theorem tw15722756333993289495:True:=⟨⟩
theorem tw6430265229019958763:True:=⟨⟩
theorem tw5278709424875269971:True:=⟨⟩
theorem tw17103585973383926153:True:=⟨⟩
theorem tw12182655422080760471:True:=⟨⟩
theorem tw3561193834555079511:True:=⟨⟩
theorem tw11546936639936008217:True:=⟨⟩
theorem tw18289109515434150305:True:=⟨⟩
theorem tw10915162052029792233:True:=⟨⟩
theorem tw8560541052185303311:True:=⟨⟩
theorem tw14796646475526232899:True:=⟨⟩
theorem tw3570499242123996262:True:=⟨⟩
theorem tw5245862010334584759:True:=⟨⟩
theorem tw8327351992414209593:True:=⟨⟩
theorem tw105208000716104510:True:=⟨⟩
theorem tw5692499903750754813:True:=⟨⟩
theorem tw3140898538269762758:True:=⟨⟩
theorem tw1492452104121835379:True:=⟨⟩
theorem tw9378254376102152143:True:=⟨⟩
theorem tw2752453847809088016:True:=⟨⟩
theorem tw1736530178072539846:True:=⟨⟩
theorem tw10548783162686979305:True:=⟨⟩
theorem tw4691186174975459493:True:=⟨⟩
theorem tw6859976401760118174:True:=⟨⟩
theorem tw3696473221133414273:True:=⟨⟩
theorem tw15799541711010589177:True:=⟨⟩
theorem tw4773702212245658779:True:=⟨⟩
theorem tw10341860258655708415:True:=⟨⟩
theorem tw8968299171318014206:True:=⟨⟩
theorem tw11466170419677230873:True:=⟨⟩
theorem tw17470836177267949868:True:=⟨⟩
theorem tw10956490626425055710:True:=⟨⟩
theorem tw13047834502658803893:True:=⟨⟩
theorem tw13896958669275611876:True:=⟨⟩
theorem tw9843949296442739443:True:=⟨⟩
theorem tw4498253355057717688:True:=⟨⟩
theorem tw1112988674713690477:True:=⟨⟩
theorem tw1139600151236580504:True:=⟨⟩
theorem tw11826605550086540917:True:=⟨⟩
theorem tw2670627174450433442:True:=⟨⟩
theorem tw8025738503920905074:True:=⟨⟩
theorem tw13983857475226248213:True:=⟨⟩
theorem tw984902984118615328:True:=⟨⟩
theorem tw13303987763403120937:True:=⟨⟩
theorem tw12622177474791663080:True:=⟨⟩
theorem tw668136137496459709:True:=⟨⟩
theorem tw18371284783138465269:True:=⟨⟩
theorem tw17085176360113175178:True:=⟨⟩
theorem tw12609604535291364189:True:=⟨⟩
theorem tw8892184565913893157:True:=⟨⟩
theorem tw4656485037274611717:True:=⟨⟩
theorem tw17545328352263074274:True:=⟨⟩
theorem tw6042063481754889096:True:=⟨⟩
theorem tw5983031951866500094:True:=⟨⟩
theorem tw10574840078274726829:True:=⟨⟩
theorem tw16273406610938067001:True:=⟨⟩
theorem tw9759319705405543751:True:=⟨⟩
theorem tw13432635357386499347:True:=⟨⟩
theorem tw5970215366352900667:True:=⟨⟩
theorem tw17315540178315561739:True:=⟨⟩
theorem tw5235370132326077648:True:=⟨⟩
theorem tw7522852383072776753:True:=⟨⟩
theorem tw2446451932059125521:True:=⟨⟩
theorem tw17582957951858275007:True:=⟨⟩
theorem tw8985709366574770022:True:=⟨⟩
theorem tw7652560490529028683:True:=⟨⟩
theorem tw8281120267493503204:True:=⟨⟩
theorem tw2770239361232196585:True:=⟨⟩
theorem tw12535971307161669396:True:=⟨⟩
theorem tw3337584539547039419:True:=⟨⟩
theorem tw13370185576492129568:True:=⟨⟩
theorem tw12643491718579748851:True:=⟨⟩
theorem tw9152664641465651067:True:=⟨⟩
theorem tw6572447435987645144:True:=⟨⟩
theorem tw1047907039808853306:True:=⟨⟩
theorem tw13318506193475082254:True:=⟨⟩
theorem tw5176459694589498394:True:=⟨⟩
theorem tw5702910450625016506:True:=⟨⟩
theorem tw15383718091736126541:True:=⟨⟩
theorem tw6460121766331871944:True:=⟨⟩
theorem tw17050326753033342646:True:=⟨⟩
theorem tw4299629679881509495:True:=⟨⟩
theorem tw5240389563564037448:True:=⟨⟩
theorem tw15860264024139754761:True:=⟨⟩
theorem tw9919435345466941130:True:=⟨⟩
theorem tw12166907935582030026:True:=⟨⟩
theorem tw17073402478462155788:True:=⟨⟩
theorem tw16054190913257422852:True:=⟨⟩
theorem tw1192657577511650299:True:=⟨⟩
theorem tw729201693064108563:True:=⟨⟩
theorem tw13864677062968915208:True:=⟨⟩
theorem tw15740948416001004644:True:=⟨⟩
theorem tw12540527436937284434:True:=⟨⟩
theorem tw2365566498512967660:True:=⟨⟩
theorem tw4232285709927190386:True:=⟨⟩
theorem tw8813761850579938390:True:=⟨⟩
theorem tw14502225709538309166:True:=⟨⟩
theorem tw3484022092364678248:True:=⟨⟩
theorem tw12317137736924338119:True:=⟨⟩
theorem tw10567129059001840431:True:=⟨⟩
theorem tw4807692442873511580:True:=⟨⟩
theorem tw17783859843131274014:True:=⟨⟩
theorem tw3357215229441099570:True:=⟨⟩
theorem tw11045010717311733409:True:=⟨⟩
theorem tw12376051458212225564:True:=⟨⟩
theorem tw16420938139371093754:True:=⟨⟩
theorem tw10996937224433265937:True:=⟨⟩
theorem tw4840481374290595910:True:=⟨⟩
theorem tw6674990990233134667:True:=⟨⟩
theorem tw6883741973766446791:True:=⟨⟩
theorem tw2770563814800254177:True:=⟨⟩
theorem tw14851680436948445374:True:=⟨⟩
theorem tw10194810499950245846:True:=⟨⟩
theorem tw13167462122316868159:True:=⟨⟩
theorem tw18186074749648716422:True:=⟨⟩
theorem tw14747140909534839006:True:=⟨⟩
theorem tw16034636559557993077:True:=⟨⟩
theorem tw1655259298481077034:True:=⟨⟩
theorem tw8657480035899644758:True:=⟨⟩
theorem tw6124053682588569230:True:=⟨⟩
theorem tw5648408011753718230:True:=⟨⟩
theorem tw8693662901424576113:True:=⟨⟩
theorem tw788273225186049534:True:=⟨⟩
theorem tw5240762971458559404:True:=⟨⟩
theorem tw3486219094355674750:True:=⟨⟩
theorem tw6623532728838073528:True:=⟨⟩
theorem tw11698168601719607547:True:=⟨⟩
theorem tw6503730183909636620:True:=⟨⟩
theorem tw2555065506035805374:True:=⟨⟩
theorem tw6583040956863952856:True:=⟨⟩
theorem tw11199710921928265848:True:=⟨⟩
theorem tw2443449257678562572:True:=⟨⟩
theorem tw4134505453457115739:True:=⟨⟩
theorem tw4331257952254489624:True:=⟨⟩
theorem tw15361541807878343388:True:=⟨⟩
theorem tw2047500489365003465:True:=⟨⟩
theorem tw13975414291046593716:True:=⟨⟩
theorem tw11443710868159068359:True:=⟨⟩
theorem tw14987219478266130788:True:=⟨⟩
theorem tw18200808041648558556:True:=⟨⟩
theorem tw7715697345341360870:True:=⟨⟩
theorem tw9739860059890490050:True:=⟨⟩
theorem tw10005945817407372193:True:=⟨⟩
theorem tw11994683656316670133:True:=⟨⟩
theorem tw1638113669730673903:True:=⟨⟩
theorem tw8043003576528973991:True:=⟨⟩
theorem tw16800595933775061595:True:=⟨⟩
theorem tw2867133514656366558:True:=⟨⟩
theorem tw6075534854705499898:True:=⟨⟩
theorem tw15823732540823425666:True:=⟨⟩
theorem tw11377482038585738817:True:=⟨⟩
theorem tw5938664839603501006:True:=⟨⟩
theorem tw6176384092110617959:True:=⟨⟩
theorem tw7297446738713254254:True:=⟨⟩
theorem tw1833847959688406909:True:=⟨⟩
theorem tw16104615914030681952:True:=⟨⟩
theorem tw9178861053002065721:True:=⟨⟩
theorem tw17492772389151264855:True:=⟨⟩
theorem tw5969682004907312646:True:=⟨⟩
theorem tw814325599930780420:True:=⟨⟩
theorem tw1559226430018442191:True:=⟨⟩
theorem tw14597223018079223185:True:=⟨⟩
theorem tw9233715247699887402:True:=⟨⟩
theorem tw2220570432770164149:True:=⟨⟩
theorem tw6746510453823603384:True:=⟨⟩
theorem tw9631074621892390191:True:=⟨⟩
theorem tw1088946173253831356:True:=⟨⟩
theorem tw17428532607074087071:True:=⟨⟩
theorem tw342308947776675178:True:=⟨⟩
theorem tw17576975557295073227:True:=⟨⟩
theorem tw7784220701708363303:True:=⟨⟩
theorem tw9361663168868926718:True:=⟨⟩
theorem tw2907113945770861938:True:=⟨⟩
theorem tw2596539476470345881:True:=⟨⟩
theorem tw995497684801637723:True:=⟨⟩
theorem tw2617719716777270872:True:=⟨⟩
theorem tw297971269722091814:True:=⟨⟩
theorem tw6383614241601562808:True:=⟨⟩
theorem tw4205137553216949640:True:=⟨⟩
theorem tw7439886461454727182:True:=⟨⟩
theorem tw10328360990557673835:True:=⟨⟩
theorem tw1601500998369573665:True:=⟨⟩
theorem tw14282377253939248939:True:=⟨⟩
theorem tw9059832203979395877:True:=⟨⟩
theorem tw2859833716702649255:True:=⟨⟩
theorem tw956942650209027819:True:=⟨⟩
theorem tw9516688046558066552:True:=⟨⟩
theorem tw10079171474624433434:True:=⟨⟩
theorem tw3465488137227279516:True:=⟨⟩
theorem tw15911569825323301435:True:=⟨⟩
theorem tw7273676953221729872:True:=⟨⟩
theorem tw16509065781470453940:True:=⟨⟩
theorem tw9590735534726013551:True:=⟨⟩
theorem tw15240379268576122478:True:=⟨⟩
theorem tw3261557481417251176:True:=⟨⟩
theorem tw12958664272152378060:True:=⟨⟩
theorem tw7381879191629600215:True:=⟨⟩
theorem tw1592229195962567352:True:=⟨⟩
theorem tw8363718466572441477:True:=⟨⟩
theorem tw17469865338272021226:True:=⟨⟩
theorem tw5596365628329696591:True:=⟨⟩
theorem tw14042817526060737062:True:=⟨⟩
theorem tw12718909917080609646:True:=⟨⟩
theorem tw8523463495250067690:True:=⟨⟩
theorem tw10187724287525710026:True:=⟨⟩
theorem tw5186518429493523239:True:=⟨⟩
theorem tw15169761463676818070:True:=⟨⟩
theorem tw3120133295221510679:True:=⟨⟩
theorem tw7213333562754528385:True:=⟨⟩
theorem tw11593399256984752444:True:=⟨⟩
theorem tw11845233108574324481:True:=⟨⟩
theorem tw12094960947251128927:True:=⟨⟩
theorem tw594810645892935528:True:=⟨⟩
theorem tw8823455108540655025:True:=⟨⟩
theorem tw6756868429301003459:True:=⟨⟩
theorem tw2707679213066786127:True:=⟨⟩
theorem tw16044733080236030384:True:=⟨⟩
theorem tw10617020205504526918:True:=⟨⟩
theorem tw6196800358849779857:True:=⟨⟩
theorem tw15638586536077026902:True:=⟨⟩
theorem tw9305691244287143441:True:=⟨⟩
theorem tw9238823003894178615:True:=⟨⟩
theorem tw13780303981602543083:True:=⟨⟩
theorem tw15744752440731449612:True:=⟨⟩
theorem tw46980244435833615:True:=⟨⟩
theorem tw7817637940432870852:True:=⟨⟩
theorem tw10242591131026960117:True:=⟨⟩
theorem tw7600245330811189008:True:=⟨⟩
theorem tw8810280945414196856:True:=⟨⟩
theorem tw13822267516522204269:True:=⟨⟩
theorem tw4784893810139332661:True:=⟨⟩
theorem tw14657780768301432306:True:=⟨⟩
theorem tw10864713392326063847:True:=⟨⟩
theorem tw8507776931139520737:True:=⟨⟩
theorem tw10648311167861321448:True:=⟨⟩
theorem tw9589608677651300831:True:=⟨⟩
theorem tw1483126911874232274:True:=⟨⟩
theorem tw11203750815551599093:True:=⟨⟩
theorem tw13264354339760550358:True:=⟨⟩
theorem tw3002795768020413707:True:=⟨⟩
theorem tw12625694945159114441:True:=⟨⟩
theorem tw12340227926317113386:True:=⟨⟩
theorem tw9334155553566164974:True:=⟨⟩
theorem tw1522322319653140107:True:=⟨⟩
theorem tw3548060758652744671:True:=⟨⟩
theorem tw15918733279669447828:True:=⟨⟩
theorem tw987869383939708018:True:=⟨⟩
theorem tw7538252964068480738:True:=⟨⟩
theorem tw15646934709686841381:True:=⟨⟩
theorem tw3712731000106771831:True:=⟨⟩
theorem tw795583310449317561:True:=⟨⟩
theorem tw9229161468869434483:True:=⟨⟩
theorem tw1400011881503588481:True:=⟨⟩
theorem tw18245740138792012028:True:=⟨⟩
theorem tw3584897518013459382:True:=⟨⟩
theorem tw13012589842206080548:True:=⟨⟩
theorem tw11542710104232473196:True:=⟨⟩
theorem tw8107780213005350392:True:=⟨⟩
theorem tw13549259019975226677:True:=⟨⟩
theorem tw8443935842833279946:True:=⟨⟩
theorem tw8140125068956082859:True:=⟨⟩
theorem tw2741389259953327712:True:=⟨⟩
theorem tw16597617366809209970:True:=⟨⟩
theorem tw8874702517807110003:True:=⟨⟩
theorem tw8472579005086612782:True:=⟨⟩
theorem tw5483185372664623402:True:=⟨⟩
theorem tw16204670001084760307:True:=⟨⟩
theorem tw339143206060000330:True:=⟨⟩
theorem tw13889309363888878346:True:=⟨⟩
theorem tw7414872774492366064:True:=⟨⟩
theorem tw4166218997396506358:True:=⟨⟩
theorem tw14697636140705633519:True:=⟨⟩
theorem tw5196900775432865589:True:=⟨⟩
theorem tw2686433634493928565:True:=⟨⟩
theorem tw14390669486469195807:True:=⟨⟩
theorem tw887695700811335699:True:=⟨⟩
theorem tw9272544492142499777:True:=⟨⟩
theorem tw16550210197400561554:True:=⟨⟩
theorem tw9407396174263392564:True:=⟨⟩
theorem tw3143785405151724282:True:=⟨⟩
theorem tw9843447840031818808:True:=⟨⟩
theorem tw1142415686869020238:True:=⟨⟩
theorem tw12117888159696746259:True:=⟨⟩
theorem tw14611434983143301774:True:=⟨⟩
theorem tw2683898200743741643:True:=⟨⟩
theorem tw2514443458684651071:True:=⟨⟩
theorem tw196536941598035525:True:=⟨⟩
theorem tw5523086135645875356:True:=⟨⟩
theorem tw2405475915293451298:True:=⟨⟩
theorem tw2617181576586992344:True:=⟨⟩
theorem tw12385144161495827662:True:=⟨⟩
theorem tw6448850889433096767:True:=⟨⟩
theorem tw4828031223510198475:True:=⟨⟩
theorem tw132903981291199154:True:=⟨⟩
theorem tw9953747333497923681:True:=⟨⟩
theorem tw12012865196380796599:True:=⟨⟩
theorem tw517144808224063464:True:=⟨⟩
theorem tw12564220515667953714:True:=⟨⟩
theorem tw14762295962024373759:True:=⟨⟩
theorem tw10017263926548143515:True:=⟨⟩
theorem tw3855276242980373810:True:=⟨⟩
theorem tw11334415319851112604:True:=⟨⟩
theorem tw14615657086365298920:True:=⟨⟩
theorem tw13160728816969591200:True:=⟨⟩
theorem tw93012567124736588:True:=⟨⟩
theorem tw1209819496270969543:True:=⟨⟩
theorem tw2988451766255067171:True:=⟨⟩
theorem tw17474498911051797155:True:=⟨⟩
theorem tw12379415707883124570:True:=⟨⟩
theorem tw3397128083846064343:True:=⟨⟩
theorem tw4951766788466123468:True:=⟨⟩
theorem tw6468107147075657394:True:=⟨⟩
theorem tw4292522238394942308:True:=⟨⟩
theorem tw17219337458794519322:True:=⟨⟩
theorem tw575894324575664597:True:=⟨⟩
theorem tw11334203419191126389:True:=⟨⟩
theorem tw15362295582089109014:True:=⟨⟩
theorem tw13068111086705522682:True:=⟨⟩
theorem tw9332579688445097367:True:=⟨⟩
theorem tw18185382058313985135:True:=⟨⟩
theorem tw4010397242664982755:True:=⟨⟩
theorem tw5868845118606482295:True:=⟨⟩
theorem tw14861896470697024400:True:=⟨⟩
theorem tw7386116660499605909:True:=⟨⟩
theorem tw9195894827357321740:True:=⟨⟩
theorem tw1291508964198565346:True:=⟨⟩
theorem tw13385996262653078937:True:=⟨⟩
theorem tw83393220934416808:True:=⟨⟩
theorem tw13706816188851595723:True:=⟨⟩
theorem tw15073315481182737699:True:=⟨⟩
theorem tw16809779246217341487:True:=⟨⟩
theorem tw2758071753971750899:True:=⟨⟩
theorem tw2029088862249889922:True:=⟨⟩
theorem tw14372152842798730730:True:=⟨⟩
theorem tw7913636548009798097:True:=⟨⟩
theorem tw7855079511596107753:True:=⟨⟩
theorem tw15177526630643400193:True:=⟨⟩
theorem tw7204493036743257322:True:=⟨⟩
theorem tw864819663365544661:True:=⟨⟩
theorem tw3776753064480771068:True:=⟨⟩
theorem tw10371376264297449482:True:=⟨⟩
theorem tw5069200288032692670:True:=⟨⟩
theorem tw1706793611546318481:True:=⟨⟩
theorem tw76412952228603488:True:=⟨⟩
theorem tw81815255157605957:True:=⟨⟩
theorem tw9666326922614434849:True:=⟨⟩
theorem tw15542334942015070624:True:=⟨⟩
theorem tw8420165910927482534:True:=⟨⟩
theorem tw16007503158450755388:True:=⟨⟩
theorem tw9166809390415177425:True:=⟨⟩
theorem tw8170299122808406783:True:=⟨⟩
theorem tw10987319290404115282:True:=⟨⟩
theorem tw8672883130414831044:True:=⟨⟩
theorem tw17781115878593249900:True:=⟨⟩
theorem tw8973803690348224638:True:=⟨⟩
theorem tw9962302188120564619:True:=⟨⟩
theorem tw15569959144833144457:True:=⟨⟩
theorem tw2103985501979894447:True:=⟨⟩
theorem tw4321519831107876412:True:=⟨⟩
theorem tw15271675978053873483:True:=⟨⟩
theorem tw9768079942903668216:True:=⟨⟩
theorem tw17135812771915316397:True:=⟨⟩
theorem tw7799483888651840948:True:=⟨⟩
theorem tw6370870915552960936:True:=⟨⟩
theorem tw2502181453436431679:True:=⟨⟩
theorem tw9108098604805947806:True:=⟨⟩
theorem tw12894197372075662830:True:=⟨⟩
theorem tw9576743257966636567:True:=⟨⟩
theorem tw8640399195822439974:True:=⟨⟩
theorem tw16821654228018055803:True:=⟨⟩
theorem tw18374746225686918389:True:=⟨⟩
theorem tw12256363837256957063:True:=⟨⟩
theorem tw3474246075231452896:True:=⟨⟩
theorem tw13326734554550294991:True:=⟨⟩
theorem tw10367675484739944270:True:=⟨⟩
theorem tw13091174067606910046:True:=⟨⟩
theorem tw8345894832289464959:True:=⟨⟩
theorem tw17486766287000646611:True:=⟨⟩
theorem tw4177254973167742082:True:=⟨⟩
theorem tw1186331607622873149:True:=⟨⟩
theorem tw17030962893124633753:True:=⟨⟩
theorem tw7673058066778466091:True:=⟨⟩
theorem tw672699306608606093:True:=⟨⟩
theorem tw10657950659306570408:True:=⟨⟩
theorem tw7215319984434753242:True:=⟨⟩
theorem tw15747283374172101067:True:=⟨⟩
theorem tw6410608677101946591:True:=⟨⟩
theorem tw2369445192022557226:True:=⟨⟩
theorem tw11779653239440661071:True:=⟨⟩
end Mine.top
set_option tactic.hygienic true
set_option maxHeartbeats 0 in
set_option Elab.async true in
theorem Mine.top : PySem.Challenge.rw_sj0064_01.Holds := by
  w_on
  o_law
  k_head
  case hw => w_witness2
  refine Mine.finish (fun w h Y => ⟨Y.1, Y.2 826 (.head _)⟩) rfl fun P => ?_
  exact ⟨⟨by kernel_rfl, by kernel_rfl, by kernel_rfl, by kernel_rfl, by kernel_rfl, by kernel_rfl, by kernel_rfl, by kernel_rfl, by kernel_rfl, by kernel_rfl, by kernel_rfl, by kernel_rfl, by kernel_rfl, by kernel_rfl, by kernel_rfl, by kernel_rfl, by kernel_rfl, by kernel_rfl, by kernel_rfl, by kernel_rfl, by kernel_rfl, by kernel_rfl, by kernel_rfl, by kernel_rfl, by kernel_rfl, by kernel_rfl, by kernel_rfl⟩,
    ⟨by kernel_rfl, by kernel_rfl, by kernel_rfl, by kernel_rfl, fun _ => Mine.len3 fun _ _ _ => by kernel_rfl, by kernel_rfl, fun _ => by kernel_rfl, fun _ => by kernel_rfl, by kernel_rfl, by kernel_rfl⟩,
    by kernel_rfl, by kernel_rfl, by kernel_rfl, by kernel_rfl, by kernel_rfl, by kernel_rfl,
    ⟨fun _ => Mine.len2 fun _ _ => by kernel_rfl, fun _ => Mine.len2 fun _ _ => by kernel_rfl, fun _ => Mine.len1 fun _ => by kernel_rfl, fun _ => Mine.len1 fun _ => by kernel_rfl, fun _ => Mine.len2 fun _ _ => by kernel_rfl, fun _ => Mine.len2 fun _ _ => by kernel_rfl, fun _ => Mine.len2 fun _ _ => by kernel_rfl, fun _ => Mine.len3 fun _ _ _ => by kernel_rfl, fun _ => Mine.len2 fun _ _ => by kernel_rfl, fun _ => Mine.len2 fun _ _ => by kernel_rfl, fun _ => Mine.len2 fun _ _ => by kernel_rfl, fun _ => Mine.len2 fun _ _ => by kernel_rfl, fun _ => Mine.len1 fun _ => by kernel_rfl, fun _ => Mine.len3 fun _ _ _ => by kernel_rfl, fun _ => Mine.len1 fun _ => by kernel_rfl, fun _ => Mine.len2 fun _ _ => by kernel_rfl, fun _ => Mine.len2 fun _ _ => by kernel_rfl, fun _ => Mine.len3 fun _ _ _ => by kernel_rfl, fun _ => Mine.len3 fun _ _ _ => by kernel_rfl, fun _ => Mine.len2 fun _ _ => by kernel_rfl, fun _ => Mine.len2 fun _ _ => by kernel_rfl, fun _ => Mine.len2 fun _ _ => by kernel_rfl, fun _ => Mine.len2 fun _ _ => by kernel_rfl, fun _ => Mine.len2 fun _ _ => by kernel_rfl, fun _ => Mine.len5 fun _ _ _ _ _ => by kernel_rfl, fun _ => Mine.len2 fun _ _ => by kernel_rfl, fun _ => Mine.len4 fun _ _ _ _ => by kernel_rfl, fun _ => Mine.len6 fun _ _ _ _ _ _ => by kernel_rfl, fun _ => Mine.len1 fun _ => by kernel_rfl, fun _ => Mine.len2 fun _ _ => by kernel_rfl, fun _ => Mine.len1 fun _ => by kernel_rfl, fun _ => Mine.len1 fun _ => by kernel_rfl, fun _ => Mine.len2 fun _ _ => by kernel_rfl, fun _ => Mine.len3 fun _ _ _ => by kernel_rfl, fun _ => Mine.len3 fun _ _ _ => by kernel_rfl, fun _ => Mine.len2 fun _ _ => by kernel_rfl, fun _ => Mine.len4 fun _ _ _ _ => by kernel_rfl, fun _ => Mine.len5 fun _ _ _ _ _ => by kernel_rfl, fun _ => Mine.len2 fun _ _ => by kernel_rfl, fun _ => Mine.len3 fun _ _ _ => by kernel_rfl, fun _ => Mine.len3 fun _ _ _ => by kernel_rfl, fun _ => Mine.len4 fun _ _ _ _ => by kernel_rfl, fun _ => Mine.len5 fun _ _ _ _ _ => by kernel_rfl, fun _ => Mine.len4 fun _ _ _ _ => by kernel_rfl, fun _ => Mine.len5 fun _ _ _ _ _ => by kernel_rfl, fun _ => Mine.len6 fun _ _ _ _ _ _ => by kernel_rfl, fun _ => Mine.len1 fun _ => by kernel_rfl, trivial⟩,
    by kernel_rfl, by kernel_rfl,
    ⟨fun _ _ _ _ _ _ => Mine.len1 fun _ => by kernel_rfl, fun _ _ _ _ _ _ => Mine.len4 fun _ _ _ _ => by kernel_rfl, fun _ _ _ _ _ _ => Mine.len2 fun _ _ => by kernel_rfl, fun _ _ _ _ _ _ => Mine.len1 fun _ => by kernel_rfl, fun _ _ _ _ _ _ => Mine.len1 fun _ => by kernel_rfl, fun _ _ _ _ _ _ => Mine.len3 fun _ _ _ => by kernel_rfl, fun _ _ _ _ _ _ => Mine.len1 fun _ => by kernel_rfl, fun _ _ _ _ _ _ => Mine.len1 fun _ => by kernel_rfl, trivial⟩⟩
theorem PySem.Challenge.cw_sj0064_01_holds : PySem.Challenge.rw_sj0064_01.Holds :=
  Mine.top
