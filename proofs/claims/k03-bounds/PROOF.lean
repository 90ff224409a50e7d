import PyProof.Rows.All
import Wide.All
import OpenK.AllK
import HandS.Head2
import HandS.HeadHook4
import HandS.HeadNt
import HandS.ExcSuper
import KE.KExcPX
import KE.KSuper
import KE.KIsAll
import KE.KTryMore
import HandS.ExcField
import HandS.Codes
import PySem.Challenge.RW_everypress_k03_bounds_of_boards
import Wide.FinOn
import PyProof.EqAt
import PyProof.EqKinds
import PyProof.TupleCall
import HandS.ForMost
import HandS.Walk
import HandS.IsInst
import HandS.Property
import HandS.TupAny
import KE.GoesNew
import HandS.TupMul
import HandS.ListItems
import KE.KDictPairs
import KE.KDictCopyH
import KE.SortData
import KE.KEqDict
import HandS.DictComp
import HandS.Conv
import HandS.Nested
import HandS.ExcInit
import HandS.ExcIs
import KE.KExcSuper
import KE.KExcIs
import KE.IntTextLaws
import KE.KIntText
import HandS.Lambda
import KE.KeyNested
import HandS.Wide
import HandS.Deep
import HandS.Text
import PyProof.ReprRoads
import HandS.RaiseMore
import HandS.Style
import KE.KDictList
import HandS.Star
import HandS.ExcValue
import HandS.Defaults
import HandS.EndTab
import HandS.FStr
import PyProof.NeKinds
import HandS.Small
import PyProof.InstNe
import HandS.More
import HandS.TupLen
import KE.KDictKeyed
import HandS.TryOnly
import PyProof.ListStr
set_option Elab.async false
set_option linter.all false
set_option maxRecDepth 100000
set_option maxHeartbeats 4000000
section
namespace PLH
open PySem PySem.Spec PyProof.Rows L2
abbrev FnC : Type:=Option (Str × Str × Arguments × FuncBody × Scope × Addr × Addr)
def fnC (K : PySem.W.Frag) (a : Addr) : FnC:=match K.lookup a with
 | some ⟨_,_,.func fd,_⟩=>some (fd.name,fd.qualname,fd.params,fd.body,fd.scope,fd.globals,fd.builtins)
 | _=>none
structure DefC where
 at_ : PySem.W.Frag → Addr
 cls : PySem.W.Frag → Addr
 name : Str
 qual : Str
 params : Arguments
 body : List Stmt
 scope : Scope
def DefC.val (d : DefC) : FnC:=some (d.name,d.qual,d.params,.stmts d.body,d.scope,mainGlobals,builtinsNs)
def Z9n (K : PySem.W.Frag) (c b : Addr) : Bool:=match K.lookup c with
 | some ⟨_,_,.cell (some (.ref x)),_⟩=>decide (x = b)
 | _=>false
def Zlo (K : PySem.W.Frag) (c : Addr) : Bool:=match K.lookup c with
 | some ⟨_,_,.fields vs,_⟩=>(match (vs[2]? : Option Value) with
  | some (.str f _)=>decide (f = "/claim/cut.py")
  | _=>false)
 | _=>false
def Zrm (K : PySem.W.Frag) (q : Str) (D : Addr) : List (Str × Addr) → Value → Value → Option Addr → Value → Bool
 | [(x,c)],.none,.none,none,.ref ca=>decide (x = "__class__") && (Z9n K c D && (PySem.W.codeIn K (.ref ca) q && Zlo K ca))
 | _,_,_,_,_=>false
def DefC.ok (K : PySem.W.Frag) (d : DefC) : Bool:=match K.lookup (d.at_ K) with
 | some ⟨_,_,.func fd,_⟩=>Zrm K d.qual (d.cls K) fd.closure fd.defaults fd.kwdefaults fd.annotations fd.code
 | _=>false
theorem Z7m {K : PySem.W.Frag} {c b : Addr} (h : Z9n K c b = true) : ∃ (v : Value) (d : Option Addr) (sl : Array (Option Value)),K.lookup c = some ⟨v,d,.cell (some (.ref b)),sl⟩:=by
 unfold Z9n at h
 split at h
 ·rename_i v d x sl e
  rw [← of_decide_eq_true h]
  exact ⟨v,d,sl,e⟩
 ·cases h
theorem Zln {K : PySem.W.Frag} {c : Addr} (h : Zlo K c = true) : ∃ (v : Value) (d : Option Addr) (vs : Array Value) (sl : Array (Option Value)) (t : Tok),K.lookup c = some ⟨v,d,.fields vs,sl⟩ ∧ vs[2]? = some (.str "/claim/cut.py" t):=by
 unfold Zlo at h
 split at h
 ·rename_i v d vs sl e
  split at h
  ·rename_i f t e2
   exact ⟨v,d,vs,sl,t,e,by rw [e2,of_decide_eq_true h]⟩
  ·cases h
 ·cases h
theorem DefC.get {K : PySem.W.Frag} {d : DefC} (e : fnC K (d.at_ K) = d.val) (c : d.ok K = true) :
  ∃ (ocx dcx pmx ctx clx oclx : Value) (odx cldx cddx : Option Addr) (slx cslx ccsx : Array (Option Value)) (vsx : Array Value) (tfx : Tok) (ccx cax : Addr),
   K.lookup (d.at_ K) = some ⟨ocx,odx,.func (PySem.W.fnX d.name d.qual d.params d.body d.scope [(("__class__" : Str),ccx)] .none .none dcx pmx none (.ref cax) ctx),slx⟩ ∧ PySem.W.codeIn K (.ref cax) d.qual = true ∧
   K.lookup ccx = some ⟨clx,cldx,.cell (some (.ref (d.cls K))),cslx⟩ ∧ K.lookup cax = some ⟨oclx,cddx,.fields vsx,ccsx⟩ ∧ vsx[2]? = some (.str "/claim/cut.py" tfx):=by
 unfold fnC at e
 unfold DefC.ok at c
 cases q : K.lookup (d.at_ K) with
 | none=>
  rw [q] at c
  cases c
 | some o=>
  obtain ⟨oc,od,dt,osl⟩:=o
  rw [q] at c e
  cases dt with
  | func fd=>
   obtain ⟨n1,n2,n3,n4,n5,n6,n7,n8,n9,n10,n11,n12,n13,n14,n15⟩:=fd
   have e2 : (some (n1,n2,n3,n4,n5,n6,n15) : FnC) = some (d.name,d.qual,d.params,.stmts d.body,d.scope,mainGlobals,builtinsNs):=e
   simp only [Option.some.injEq,Prod.mk.injEq] at e2
   obtain ⟨h1,h2,h3,h4,h5,h6,h8⟩:=e2
   subst h1 h2 h3 h4 h5 h6 h8
   have c3 : Zrm K d.qual (d.cls K) n7 n8 n9 n12 n13 = true:=c
   unfold Zrm at c3
   split at c3
   ·rename_i x cc ca
    obtain ⟨k1,k2⟩:=Bool.and_eq_true_iff.mp c3
    obtain ⟨k3,k4⟩:=Bool.and_eq_true_iff.mp k2
    obtain ⟨k5,k6⟩:=Bool.and_eq_true_iff.mp k4
    obtain ⟨v1,d1,s1,e1⟩:=Z7m k3
    obtain ⟨v2,d2,vs,s2,t,e3,e4⟩:=Zln k6
    rw [of_decide_eq_true k1]
    exact ⟨oc,n10,n11,n14,v1,v2,od,d1,d2,osl,s1,s2,vs,t,cc,ca,rfl,k5,e1,e3,e4⟩
   ·cases c3
  | _=>cases c
def Zgp (x : Str) (K : PySem.W.Frag) : Bool:=He.eqO (PySem.W.findIn K (.ref (He.ga K x)) "__init__") (some (some (.ref (He.ma K (He.ga K x) "__init__"))))
def oexA (K : PySem.W.Frag) (C : Addr) : Bool:=match K.lookup C with
 | some ⟨.type "type",_,.cls cd,sl⟩=>(match cd.mro,sl.toList with
  | .ref C' :: bm,[_,_,_,_,some (.builtin n),_]=>C' == C && (n == "ValueError.__new__" && (!cd.hasDel && (cd.hasDict && PySem.HandSPX.refsVE bm)))
  | _,_=>false)
 | _=>false
def oexB (K : PySem.W.Frag) (C : Addr) : Bool:=oexA K C && (decide (PySem.W.findIn K (.ref C) "__setattr__" = some (some (.builtin "object.__setattr__"))) && (decide (PySem.W.subIn K (.ref C) (.type "BaseException") = some true) &&
 (decide (PySem.W.typeIn K (.ref C) = some (.type "type")) && PySem.W.keepIn K (.ref C))))
def suB (K : PySem.W.Frag) (D C : Addr) : Bool:=(PySem.W.clsIn K D).isSome && (decide (PySem.W.mroIn K C (.ref D) = some true) && (decide (PySem.W.nsIn K cStatics "thirdparty.any" = some none) &&
 (decide (PySem.W.ks_superIn K C D "__init__" = some (some (.builtin "ValueError.__init__"))) && decide (PySem.W.subIn K (.ref C) (.type "ValueError") = some true))))
def excB (K : PySem.W.Frag) (D : Addr) : Bool:=decide (PySem.W.findIn K (.ref D) "__getattribute__" = some (some (.builtin "BaseException.__getattribute__"))) && (decide (PySem.W.findIn K (.ref D) "__getattr__" = some none) && (decide (PySem.W.subIn K (.ref D) (.type "BaseException") = some true) &&
 (PySem.W.hasDictIn K D && (decide (PySem.W.findIn K (.ref D) "__class__" = some (some (.builtin "object.__class__"))) && (decide (PySem.W.specialIn K (.builtin "object.__class__") "__get__" = some (some (.builtin "getset_descriptor.__get__"))) &&
 (decide (PySem.W.takesIn K (.builtin "object.__class__") = some true) && decide (PySem.W.mroIn K D (.type "object") = some true)))))))
def errB (K : PySem.W.Frag) (D C f : Addr) : Bool:=suB K D C && (oexB K C && (decide (PySem.W.findIn K (.ref C) "value" = some none) && (decide (PySem.W.findIn K (.ref C) "__init__" = some (some (.ref f))) && (decide (PySem.W.typeIn K (.ref f) = some (.type "function")) && (excB K C && xfB K C)))))
def errsN (K : PySem.W.Frag) (D f : Addr) (Cs : List Addr) : Bool:=Cs.all (fun C=>errB K D C f) && ((List.range Cs.length).all fun i=>(List.range Cs.length).all fun j=>decide (PySem.W.kitOne K (.ref (Cs.getD i 0)) (.ref (Cs.getD j 0)) = some (i == j || j + 1 == Cs.length))) &&
 Cs.all (fun C=>decide (PySem.W.exmOne K (.ref C) (.ref D) = some true)) && Cs.all (fun C=>decide (PySem.W.kitOne K (.ref C) (.type "tuple") = some false))
def Zip : Value → Bool
 | .ref _=>true
 | _=>false
def lamB (p : He.Defn) (K : PySem.W.Frag) : Bool:=decide (PySem.W.tabIn K p.1 = some (He.cT K p)) && ((K.lookup (He.cT K p).2).isNone && (match K.lookup (He.fAd K p) with
 | some ⟨_,_,.func fd,_⟩=>Zip fd.code
 | _=>false))
abbrev AlA : Type:=Bool × List He.FnW
abbrev AlB : Type:=Bool × List FnC
abbrev AlH : Type:=AlA × AlB
def obsA (fa : List (List He.Fa)) (fn : List He5.DefA) (K : PySem.W.Frag) : AlA:=((fa.all fun l=>l.all fun f=>f.ok K) && fn.all fun d=>d.ok K,fn.map fun d=>He5.fnA K (d.at_ K))
def obsB (fc : List DefC) (ex : List (PySem.W.Frag → Bool)) (K : PySem.W.Frag) : AlB:=((fc.all fun d=>d.ok K) && ex.all fun b=>b K,fc.map fun d=>fnC K (d.at_ K))
def valA (fn : List He5.DefA) : AlA:=(true,fn.map He5.DefA.val)
def valB (fc : List DefC) : AlB:=(true,fc.map DefC.val)
structure SaysH (fa : List (List He.Fa)) (fn : List He5.DefA) (fc : List DefC) (ex : List (PySem.W.Frag → Bool)) (K : PySem.W.Frag) : Prop where
 a : obsA fa fn K = valA fn
 b : obsB fc ex K = valB fc
def Z3p (o : Obj) : List Addr:=match o.data with
 | .dict es _=>es.toList.flatMap fun e=>He.refV e.val
 | .func fd=>He.refV fd.code ++ (He.refV fd.defaults ++ fd.closure.map (·.2))
 | .cls cd=>[cd.ns]
 | .fields vs=>(match o.cls with
  | .type c=>(match decide (c = "property") with
   | true=>vs.toList.flatMap He.refV
   | false=>[])
  | _=>[])
 | _=>[]
def Zaq (g : Addr → Option Obj) (as : List Addr) : List Addr:=as.flatMap fun a=>match g a with
 | some o=>Z3p o
 | none=>[]
def ZZn (g : Addr → Option Obj) : Nat → List Addr → List Addr
 | 0,as=>as
 | n + 1,as=>as ++ ZZn g n (Zaq g as)
abbrev Zrn (n : Nat) (g : Addr → Option Obj) : PySem.W.Frag:=He.frG g (ZZn g n [mainGlobals,cStatics])
def hookH (n : Nat) (fa : List (List He.Fa)) (fn : List He5.DefA) (fc : List DefC) (ex : List (PySem.W.Frag → Bool)) : PySem.W.Hook where
 α:=AlH
 obs:=fun s=>(obsA fa fn (Zrn n s.heap.get?),obsB fc ex (Zrn n s.heap.get?))
 val:=fun _=>(valA fn,valB fc)
 says:=fun _ h=>∃ K : PySem.W.Frag,K.In h ∧ SaysH fa fn fc ex K
 of:=fun _ _ e=>⟨_,He.frG_in,(Prod.mk.inj e).1,(Prod.mk.inj e).2⟩
 keeps:=fun _ _ _ ⟨K,hK,c⟩ k=>⟨K,PySem.W.Frag.In.keeps hK k,c⟩
def seeA (n : Nat) (fa : List (List He.Fa)) (fn : List He5.DefA) (s : PySem.W.SharedT) : AlA:=obsA fa fn (Zrn n (HandSHeadRun.getT s))
def seeB (n : Nat) (fc : List DefC) (ex : List (PySem.W.Frag → Bool)) (s : PySem.W.SharedT) : AlB:=obsB fc ex (Zrn n (HandSHeadRun.getT s))
def seeH (n : Nat) (fa : List (List He.Fa)) (fn : List He5.DefA) (fc : List DefC) (ex : List (PySem.W.Frag → Bool)) (s : PySem.W.SharedT) : (hookH n fa fn fc ex).α:=(seeA n fa fn s,seeB n fc ex s)
theorem seeH_eq {n : Nat} {fa : List (List He.Fa)} {fn : List He5.DefA} {fc : List DefC} {ex : List (PySem.W.Frag → Bool)} (s : PySem.W.SharedT) : seeH n fa fn fc ex s = (hookH n fa fn fc ex).obs s.abs:=by
 have e : HandSHeadRun.getT s = s.abs.heap.get?:=funext (HandSHeadRun.getT_eq s)
 unfold seeH seeA seeB
 rw [e] <;> rfl
open PySem.W in
def RunS (r : OpenRow) (q : Program) (M : Nat) (loose : List Str) (w : World) : Prop:=
 ∀ os : OsState,(HandSHeadRun.endF (HandSHeadRun.stepQ (HandSHeadRun.denQ HandSHeadRun.tabQ) r.prog w) M r.prog w os).map (fun s=>(HandSHeadRun.looksF r.prog (boot_heap w.params) s.abs,HandSHeadRun.seenQ q loose (importedModules r.prog.main.body) (fun s=>xlAt q [] s && recOk r.toRowW.records s) s.abs)) = some (true,openGood q loose)
open PySem.W in
def RunO {α : Type} (r : OpenRow) (ob : SharedT → α) (v : α) (M : Nat) (w : World) : Prop:=
 ∀ os : OsState,(HandSHeadRun.endF (HandSHeadRun.stepQ (HandSHeadRun.denQ HandSHeadRun.tabQ) r.prog w) M r.prog w os).map ob = some v
theorem run_all {r : PySem.W.OpenRow} {q : Program} {n M : Nat} {fa : List (List He.Fa)} {fn : List He5.DefA} {fc : List DefC} {ex : List (PySem.W.Frag → Bool)} {loose : List Str} {w : World} (h : RunS r q M loose w) (h1 : RunO r (seeA n fa fn) (valA fn) M w) (h2 : RunO r (seeB n fc ex) (valB fc) M w) :
  HandSHeadRun.RunEq r q (hookH n fa fn fc ex) (seeH n fa fn fc ex) M loose w:=fun os=>by
 obtain ⟨s,e,e0⟩:=Option.map_eq_some_iff.mp (h os)
 obtain ⟨s1,e1,e2⟩:=Option.map_eq_some_iff.mp (h1 os)
 obtain ⟨s2,e3,e4⟩:=Option.map_eq_some_iff.mp (h2 os)
 rw [e] at e1 e3
 cases e1
 cases e3
 obtain ⟨l1,l2⟩:=Prod.mk.inj e0
 rw [e]
 exact congrArg some (Prod.ext l1 (Prod.ext l2 (Prod.ext e2 e4)))
section
variable {fa : List (List He.Fa)} {fn : List He5.DefA} {fc : List DefC} {ex : List (PySem.W.Frag → Bool)} {K : PySem.W.Frag}
theorem SaysH.fact (c : SaysH fa fn fc ex K) (i j : Nat) {l : List He.Fa} {f : He.Fa} (h : fa[i]? = some l:=by rfl) (h2 : l[j]? = some f:=by rfl) : f.ok K = true:=
 List.all_eq_true.mp (List.all_eq_true.mp (Bool.and_eq_true_iff.mp (congrArg Prod.fst c.a)).1 l (List.mem_of_getElem? h)) f (List.mem_of_getElem? h2)
theorem SaysH.more (c : SaysH fa fn fc ex K) (i : Nat) {b : PySem.W.Frag → Bool} (h : ex[i]? = some b:=by rfl) : b K = true:=
 List.all_eq_true.mp (Bool.and_eq_true_iff.mp (congrArg Prod.fst c.b)).2 b (List.mem_of_getElem? h)
theorem SaysH.def_ (c : SaysH fa fn fc ex K) (i : Nat) {d : He5.DefA} (h : fn[i]? = some d:=by rfl) : ∃ fd,FunD K d.name d.qual d.params d.body d.scope (d.dvs K) (d.kws K) (d.at_ K) fd:=by
 have e : fn.map (fun d=>He5.fnA K (d.at_ K)) = fn.map He5.DefA.val:=congrArg Prod.snd c.a
 have e2 : (fn.map fun d=>He5.fnA K (d.at_ K))[i]? = (fn.map He5.DefA.val)[i]?:=by rw [e]
 rw [List.getElem?_map,List.getElem?_map,h] at e2
 exact He5.DefA.funD (Option.some.inj e2) (List.all_eq_true.mp (Bool.and_eq_true_iff.mp (congrArg Prod.fst c.a)).2 d (List.mem_of_getElem? h))
theorem SaysH.fun_ (c : SaysH fa fn fc ex K) (i : Nat) {d : He5.DefA} {st : Stmt} (h : fn[i]? = some d) (hp : d.params = defArgs st) (hb : d.body = defBody st) (hs : d.scope = defScope st) (hd : d.dfl = []) : ∃ fd,Fun K d.name d.qual st (d.at_ K) fd:=by
 obtain ⟨fd,F⟩:=c.def_ i h
 have e : d.dvs K = []:=by
  unfold He5.DefA.dvs
  rw [hd]
  rfl
 rw [hp,hb,hs,e] at F
 exact ⟨fd,He5.fun_of F⟩
theorem SaysH.ctor (c : SaysH fa fn fc ex K) (i : Nat) {d : DefC} (h : fc[i]? = some d:=by rfl) : fnC K (d.at_ K) = d.val ∧ d.ok K = true:=by
 have e : fc.map (fun d=>fnC K (d.at_ K)) = fc.map DefC.val:=congrArg Prod.snd c.b
 have e2 : (fc.map fun d=>fnC K (d.at_ K))[i]? = (fc.map DefC.val)[i]?:=by rw [e]
 rw [List.getElem?_map,List.getElem?_map,h] at e2
 exact ⟨Option.some.inj e2,List.all_eq_true.mp (Bool.and_eq_true_iff.mp (congrArg Prod.fst c.b)).1 d (List.mem_of_getElem? h)⟩
end
end PLH
end
section
namespace PLH
open PySem PySem.Spec PyProof.Rows L2
def topH (i : Nat) : Stmt:=PySem.Challenge.pw_everypress_k03_bounds_of_boards.main.body.getD i (.Pass ⟨0,0,0,0⟩)
def dH0 : He5.DefA:=⟨fun K=>(He.ga K "is_name"), "is_name", "is_name",defArgs (topH 12),defBody (topH 12),defScope (topH 12),[],[]⟩
def dH1 : He5.DefA:=⟨fun K=>(He.ga K "do_ascend"), "do_ascend", "do_ascend",defArgs (topH 13),defBody (topH 13),defScope (topH 13),[],[]⟩
def dH2 : He5.DefA:=⟨fun K=>(He.ga K "number_in"), "number_in", "number_in",defArgs (topH 14),defBody (topH 14),defScope (topH 14),[],[]⟩
def dH3 : He5.DefA:=⟨fun K=>(He.ga K "common_multiple"), "common_multiple", "common_multiple",defArgs (topH 15),defBody (topH 15),defScope (topH 15),[],[]⟩
def dH4 : He5.DefA:=⟨fun K=>(He.ma K (He.ga K "Loop") "__init__"), "__init__", "Loop.__init__",defArgs (inClass (topH 37) 0),defBody (inClass (topH 37) 0),defScope (inClass (topH 37) 0),[],[]⟩
def dH5 : He5.DefA:=⟨fun K=>(He.ma K (He.ga K "Track") "__init__"), "__init__", "Track.__init__",defArgs (inClass (topH 38) 0),defBody (inClass (topH 38) 0),defScope (inClass (topH 38) 0),[],[]⟩
def dH6 : He5.DefA:=⟨fun K=>(He.ma K (He.ga K "Button") "__init__"), "__init__", "Button.__init__",defArgs (inClass (topH 39) 0),defBody (inClass (topH 39) 0),defScope (inClass (topH 39) 0),[],[]⟩
def dH7 : He5.DefA:=⟨fun K=>(He.ga K "words_in"), "words_in", "words_in",defArgs (topH 40),defBody (topH 40),defScope (topH 40),[],[]⟩
def dH8 : He5.DefA:=⟨fun K=>(He.ma K (He.ga K "Reader") "__init__"), "__init__", "Reader.__init__",defArgs (inClass (topH 41) 0),defBody (inClass (topH 41) 0),defScope (inClass (topH 41) 0),[],[]⟩
def dH9 : He5.DefA:=⟨fun K=>(He.ma K (He.ga K "Reader") "want"), "want", "Reader.want",defArgs (inClass (topH 41) 1),defBody (inClass (topH 41) 1),defScope (inClass (topH 41) 1),[],[]⟩
def dH10 : He5.DefA:=⟨fun K=>(He.ma K (He.ga K "Reader") "row"), "row", "Reader.row",defArgs (inClass (topH 41) 2),defBody (inClass (topH 41) 2),defScope (inClass (topH 41) 2),[],[]⟩
def dH11 : He5.DefA:=⟨fun K=>(He.ma K (He.ga K "Reader") "headed"), "headed", "Reader.headed",defArgs (inClass (topH 41) 3),defBody (inClass (topH 41) 3),defScope (inClass (topH 41) 3),[],[]⟩
def dH12 : He5.DefA:=⟨fun K=>(He.ma K (He.ga K "Reader") "is_deed"), "is_deed", "Reader.is_deed",defArgs (inClass (topH 41) 9),defBody (inClass (topH 41) 9),defScope (inClass (topH 41) 9),[],[]⟩
def dH13 : He5.DefA:=⟨fun K=>(He.ma K (He.ga K "Reader") "loop_in"), "loop_in", "Reader.loop_in",defArgs (inClass (topH 41) 6),defBody (inClass (topH 41) 6),defScope (inClass (topH 41) 6),[],[]⟩
def dH14 : He5.DefA:=⟨fun K=>(He.ma K (He.ga K "Reader") "read_loop"), "read_loop", "Reader.read_loop",defArgs (inClass (topH 41) 7),defBody (inClass (topH 41) 7),defScope (inClass (topH 41) 7),[],[]⟩
def dH15 : He5.DefA:=⟨fun K=>(He.ma K (He.ga K "Reader") "read_track"), "read_track", "Reader.read_track",defArgs (inClass (topH 41) 5),defBody (inClass (topH 41) 5),defScope (inClass (topH 41) 5),[],[]⟩
def dH16 : He5.DefA:=⟨fun K=>(He.ma K (He.ga K "Reader") "read_button"), "read_button", "Reader.read_button",defArgs (inClass (topH 41) 8),defBody (inClass (topH 41) 8),defScope (inClass (topH 41) 8),[],[]⟩
def dH17 : He5.DefA:=⟨fun K=>(He.ma K (He.ga K "Reader") "read"), "read", "Reader.read",defArgs (inClass (topH 41) 4),defBody (inClass (topH 41) 4),defScope (inClass (topH 41) 4),[],[]⟩
def dH18 : He5.DefA:=⟨fun K=>(He.ma K (He.ga K "Board") "__init__"), "__init__", "Board.__init__",defArgs (inClass (topH 48) 0),defBody (inClass (topH 48) 0),defScope (inClass (topH 48) 0),[],[]⟩
def dH19 : He5.DefA:=⟨fun K=>(He.ga K "_law_pot"), "_law_pot", "_law_pot",defArgs (topH 50),defBody (topH 50),defScope (topH 50),[],[]⟩
def dH20 : He5.DefA:=⟨fun K=>(He.ga K "_law_take"), "_law_take", "_law_take",defArgs (topH 51),defBody (topH 51),defScope (topH 51),[],[]⟩
def dH21 : He5.DefA:=⟨fun K=>(He.ga K "_law_cells"), "_law_cells", "_law_cells",defArgs (topH 52),defBody (topH 52),defScope (topH 52),[],[]⟩
def dH22 : He5.DefA:=⟨fun K=>(He.ga K "_law_told"), "_law_told", "_law_told",defArgs (topH 53),defBody (topH 53),defScope (topH 53),[],[]⟩
def dH23 : He5.DefA:=⟨fun K=>(He.ga K "_law_letters"), "_law_letters", "_law_letters",defArgs (topH 54),defBody (topH 54),defScope (topH 54),[],[]⟩
def dH24 : He5.DefA:=⟨fun K=>(He.ga K "_law_is_judged"), "_law_is_judged", "_law_is_judged",defArgs (topH 55),defBody (topH 55),defScope (topH 55),[],[]⟩
def dH25 : He5.DefA:=⟨fun K=>(He.ga K "_law_track_cases"), "_law_track_cases", "_law_track_cases",defArgs (topH 56),defBody (topH 56),defScope (topH 56),[],[]⟩
def dH26 : He5.DefA:=⟨fun K=>(He.ga K "_law_place_cases"), "_law_place_cases", "_law_place_cases",defArgs (topH 57),defBody (topH 57),defScope (topH 57),[],[]⟩
def dH27 : He5.DefA:=⟨fun K=>(He.ga K "_law_button_cases"), "_law_button_cases", "_law_button_cases",defArgs (topH 58),defBody (topH 58),defScope (topH 58),[],[]⟩
def dH28 : He5.DefA:=⟨fun K=>(He.ga K "law"), "law", "law",defArgs (topH 59),defBody (topH 59),defScope (topH 59),[],[]⟩
def fnH0 : List He5.DefA:=[dH0,dH1,dH2,dH3,dH4,dH5,dH6,dH7,dH8,dH9,dH10,dH11,dH12,dH13,dH14,dH15,dH16,dH17,dH18,dH19,dH20,dH21,dH22,dH23,dH24]
def fnH1 : List He5.DefA:=[dH25,dH26,dH27,dH28]
def fnH : List He5.DefA:=fnH0 ++ fnH1
abbrev sPH : Stmt:=inClass (topH 2) 0
def cH : DefC:=⟨fun K=>(He.ma K (He.ga K "PressError") "__init__"),fun K=>(He.ga K "PressError"), "__init__", "PressError.__init__",C8.fnArgs sPH,C8.fnBody sPH,C8.fnScope sPH⟩
def fcH : List DefC:=[cH]
def gH0 : List He.Fa:=[.glo "Loop",.cls "Loop",.mkr "Loop",.noat "Loop" "name",.noat "Loop" "length",.noat "Loop" "span",.noat "Loop" "then",.noat "Loop" "places"]
def gH1 : List He.Fa:=[.glo "Track",.cls "Track",.mkr "Track",.noat "Track" "name",.noat "Track" "own_loops"]
def gH2 : List He.Fa:=[.glo "Button",.cls "Button",.mkr "Button",.noat "Button" "name",.noat "Button" "quantum",.noat "Button" "deeds"]
def gH3 : List He.Fa:=[.glo "Reader",.cls "Reader",.mkr "Reader",.noat "Reader" "own_lines",.noat "Reader" "at",.noat "Reader" "own_tracks",.noat "Reader" "own_buttons",.noat "Reader" "own_bar",.noat "Reader" "later",.meth "Reader" "want",.meth "Reader" "row",.meth "Reader" "headed",.meth "Reader" "is_deed",.meth "Reader" "loop_in",.meth "Reader" "read_loop",.meth "Reader" "read_track",.meth "Reader" "read_button",.meth "Reader" "read"]
def gH4 : List He.Fa:=[.glo "Board",.cls "Board",.mkr "Board",.noat "Board" "own_text",.noat "Board" "own_tracks",.noat "Board" "own_buttons",.noat "Board" "own_bar"]
def gH5 : List He.Fa:=[.str "LETTERS" "abcdefghijklmnopqrstuvwxyz",.str "FIGURES" "0123456789",.int "MOST_LETTERS" 8,.int "MOST_FIGURES" 9,.str "BLANK" " ",.str "FEED" "\n",.str "TRACK" "track",.str "LOOP" "loop",.str "BUTTON" "button",.str "EVERY" "every",.str "LASTS" "lasts",.str "ENDS" "ends",.str "GOES" "goes",.str "PLAYS" "plays",.str "KEEPS" "keeps",.str "STOPS" "stops",.int "DEEP" 2,.int "MOST_TRACKS" 4,.int "MOST_LOOPS" 3,.int "MOST_BUTTONS" 5,.int "MOST_LENGTH" 6,.int "MOST_ROUNDS" 3,.int "MOST_SOUNDS" 3,.int "MOST_BAR" 12]
def gH6 : List He.Fa:=[.free "len",.free "isinstance",.free "int",.free "bool",.free "str",.free "tuple",.free "list",.free "all",.free "any",.free "range",.free "zip",.free "enumerate",.free "sorted",.free "dict",.free "abs",.free "max",.free "min",.free "repr",.free "super"]
def gH7 : List He.Fa:=[.glo "is_name",.glo "do_ascend",.glo "number_in",.glo "common_multiple",.glo "words_in",.glo "_law_pot",.glo "_law_take",.glo "_law_cells",.glo "_law_told",.glo "_law_letters",.glo "_law_is_judged",.glo "_law_track_cases",.glo "_law_place_cases",.glo "_law_button_cases",.glo "law"]
def gH8 : List He.Fa:=[.glo "BadBoard",.glo "NoTrack",.glo "NoButton",.glo "LastButton",.glo "PressError"]
def faH : List (List He.Fa):=[gH0,gH1,gH2,gH3,gH4,gH5,gH6,gH7,gH8]
def eH0 : PySem.W.Frag → Bool:=Zgp "PressError"
def eH1 : PySem.W.Frag → Bool:=fun K=>errsN K (He.ga K "PressError") (He.ma K (He.ga K "PressError") "__init__") [He.ga K "BadBoard",He.ga K "NoTrack",He.ga K "NoButton",He.ga K "LastButton",He.ga K "PressError"]
def eH2 : PySem.W.Frag → Bool:=lamB ("_law_is_judged",none)
def exH0 : List (PySem.W.Frag → Bool):=[eH0,eH1,eH2]
def exH : List (PySem.W.Frag → Bool):=exH0
abbrev RH : PySem.W.OpenRow:=PySem.W.OpenLaw.row PySem.Challenge.rw_everypress_k03_bounds_of_boards
abbrev qvH : Program:=PySem.W.view RH.prog [55,59]
def Zso : List Str:=["_wall", "PressError", "BadBoard", "NoTrack", "NoButton", "LastButton", "LETTERS", "FIGURES", "MOST_LETTERS", "MOST_FIGURES", "is_name", "do_ascend", "number_in", "common_multiple", "BLANK", "FEED", "TRACK", "LOOP", "BUTTON", "EVERY", "LASTS", "ENDS", "GOES", "PLAYS", "KEEPS"]
def Zto : List Str:=["STOPS", "DEEP", "MOST_TRACKS", "MOST_LOOPS", "MOST_BUTTONS", "MOST_LENGTH", "MOST_ROUNDS", "MOST_SOUNDS", "MOST_BAR", "Loop", "Track", "Button", "words_in", "Reader", "loop_lines", "track_lines", "deeds_of", "button_lines", "board_lines", "Board", "_law_pot", "_law_take", "_law_cells", "_law_told", "_law_letters"]
def Zuo : List Str:=["_law_track_cases", "_law_place_cases", "_law_button_cases"]
def namesH : List Str:=Zso ++ Zto ++ Zuo
set_option maxHeartbeats 0 in
theorem runS (w : World) : RunS RH qvH 10000 namesH w:=by
 intro os
 kernel_rfl
set_option maxHeartbeats 0 in
theorem runA (w : World) : RunO RH (seeA 5 faH fnH) (valA fnH) 10000 w:=by
 intro os
 kernel_rfl
set_option maxHeartbeats 0 in
theorem runB (w : World) : RunO RH (seeB 5 fcH exH) (valB fcH) 10000 w:=by
 intro os
 kernel_rfl
end PLH
end
section
namespace PLH
open PySem PySem.W PySem.Calls PyProof.Rows
set_option maxRecDepth 100000 in
set_option maxHeartbeats 0 in
theorem headH : WalkO PLH.qvH PLH.namesH (XL PLH.qvH []) (PLH.hookH 5 PLH.faH PLH.fnH PLH.fcH PLH.exH).says (OpenLaw.row PySem.Challenge.rw_everypress_k03_bounds_of_boards).toRowW (HandSHeadRun.topDef (OpenLaw.row PySem.Challenge.rw_everypress_k03_bounds_of_boards).prog 59) [] (fun f vs=>PySem.call f vs) → PySem.Challenge.rw_everypress_k03_bounds_of_boards.Holds:=by
 intro hc
 w_on; o_law
 refine HandSHeadRun.head_any (r:=OpenLaw.row PySem.Challenge.rw_everypress_k03_bounds_of_boards) (q:=PLH.qvH) (H:=PLH.hookH 5 PLH.faH PLH.fnH PLH.fcH PLH.exH) (ob:=PLH.seeH 5 PLH.faH PLH.fnH PLH.fcH PLH.exH) (M:=10000) (loose:=PLH.namesH) (d:=HandSHeadRun.topDef (OpenLaw.row PySem.Challenge.rw_everypress_k03_bounds_of_boards).prog 59) (kwd:=[]) PLH.seeH_eq
  (by kernel_rfl) (fun s=>by kernel_rfl) (fun w=>PLH.run_all (PLH.runS w) (PLH.runA w) (PLH.runB w)) (by kernel_rfl) (by kernel_rfl) (by kernel_rfl) (by rfl) (by first | decide +kernel | assumption) (by decide +kernel) ⟨rfl,rfl,rfl,rfl,rfl,by decide +kernel⟩ ?hw hc
 case hw=>w_witness2
end PLH
end
section
namespace Ev
open PySem PySem.Spec PyProof.Rows L2
def SqX (K : PySem.W.Frag) : Bool → Hp → Addr → List V → Prop
 | false=>SqL K
 | true=>SqT K
def HSeq : Bool → Heap → Addr → Array Value → Prop
 | false=>fun h a its=>h.IsList a its
 | true=>fun h a its=>h.IsTuple a its
def HIt : Bool → Heap → Addr → Addr → Nat → Prop
 | false=>fun h it a i=>h.IsListIter it a i
 | true=>fun h it a i=>h.IsTupleIter it a i
def itO : Bool → Addr → Obj
 | false=>fun a=>{ cls:=.type "list_iterator",data:=.fields #[.ref a,.int 0 0] }
 | true=>fun a=>{ cls:=.type "tuple_iterator",data:=.fields #[.ref a,.int 0 0] }
theorem begX (f : Bool) (a : Addr) (its : Array Value) : Begins (.ref a) (itO f a) fun h=>HSeq f h a its:=by
 cases f
 ·exact begins_list a its
 ·exact begins_tuple a its
theorem drX {prog : Program} {w : World} {A : Around} (f : Bool) (hh : A.handled = none) (it a : Addr) (hne : a ≠ it) (its : Array Value) :
  Draws prog w A it [it,a] its.size (fun i v=>its[i]? = some v) (fun i h=>HIt f h it a i ∧ HSeq f h a its):=by
 cases f
 ·exact Draws.list hh it a hne its
 ·exact Draws.tuple hh it a hne its
theorem HIt.keep {f : Bool} {h h' : Heap} {it a : Addr} {i : Nat} (x : HIt f h it a i) (k : ∀ o,h.get? it = some o → h'.get? it = some o) : HIt f h' it a i:=by
 cases f
 ·exact Heap.IsListIter.at x k
 ·exact Heap.IsTupleIter.at x k
theorem HIt.obj {f : Bool} {h : Heap} {it a : Addr} {i : Nat} (x : HIt f h it a i) : ∃ o,h.get? it = some o ∧ ∀ v,o.data ≠ .cell v:=by
 cases f
 ·obtain ⟨o,e,_,d⟩:=x
  exact ⟨o,e,fun v z=>by rw [d] at z; cases z⟩
 ·obtain ⟨o,e,_,d⟩:=x
  exact ⟨o,e,fun v z=>by rw [d] at z; cases z⟩
theorem HIt.first {f : Bool} {h : Heap} {it a : Addr} (e : h.get? it = some (itO f a)) : HIt f h it a 0:=by
 cases f
 ·exact ⟨_,e,rfl,rfl⟩
 ·exact ⟨_,e,rfl,rfl⟩
section
variable {X : Cx} {pins : List (Addr × Obj)} {σ : L2.St} {H : Hp} {s : Shared} {a : Addr} {xs ys : List V}
theorem sqx (I : Inv X pins σ H s) (f : Bool) (h : SqX X.K f H a xs) : ∃ its : List Value,Vals xs its ∧ HSeq f s.heap a its.toArray ∧ xs.length ≤ sizeLine ∧ a < s.heap.objs.size:=by
 cases f
 ·obtain ⟨its,r,p,z⟩:=I.list h
  exact ⟨its,r,p.isList,z,p.lt⟩
 ·obtain ⟨its,r,p,z⟩:=I.tuple h
  exact ⟨its,r,p,z,p.lt⟩
theorem ZRm (I : Inv X pins σ H s) (f : Bool) (h : SqX X.K f H a xs) (h' : SqX X.K f H a ys) : xs = ys:=by
 cases f
 ·exact I.list_inj h h'
 ·exact I.tuple_inj h h'
end
theorem ZXn {a N : Nat} (h : a < N) : ∀ b ∈ [a],b < N:=fun b hb=>by
 have e : b = a:=by simpa using hb
 rw [e]
 exact h
def ItX2 (K : PySem.W.Frag) (f : Bool) (a : Addr) (g : Bool) (b : Addr) : It:=
 {go:=fun i H=>∃ (xs ys : List V) (x y : V),SqX K f H a xs ∧ SqX K g H b ys ∧ xs[i]? = some x ∧ ys[i]? = some y
  yld:=fun i H v H'=>∃ T x y,v = .ref T ∧ H T = none ∧ H' = upd H T (.tup [x,y]) ∧ (∀ xs,SqX K f H a xs → xs[i]? = some x) ∧ ∀ ys,SqX K g H b ys → ys[i]? = some y
  stop:=fun i H=>∃ xs ys : List V,SqX K f H a xs ∧ SqX K g H b ys ∧ i = min xs.length ys.length }
abbrev tnX2 (f g : Bool) (a b z TI TO i1 i2 : Addr) : Nat → Heap → Prop:=fun i h=>
 IsZip h z TI TO .none ∧ IsTupOf2 h TI (.ref i1) (.ref i2) ∧ (∃ x y,IsTupOf2 h TO x y) ∧ HIt f h i1 a i ∧ HIt g h i2 b i
theorem ZQp {P : Program} {w : World} {K : PySem.W.Frag} {elts : List Expr} {kk : Nat} {tpos : Pos} (f g : Bool) {a b z TI TO i1 i2 : Addr} (S : ZipSep2 z TI TO i1 i2 [i1,a] [i2,b]) (ha : a ≠ i1) (hb : b ≠ i2) :
  Turn P w K (.Tuple elts kk tpos) (ItX2 K f a g b) [z,TI,TO,i1,i2] z (tnX2 f g a b z TI TO i1 i2) where
 mem:=List.mem_cons_self ..
 obj:=fun i h st c hc=>by
  obtain ⟨hz,hTI,⟨x,y,hTO⟩,h1,h2⟩:=st
  simp only [List.mem_cons,List.not_mem_nil,or_false] at hc
  rcases hc with q | q | q | q | q <;> subst q
  ·exact ⟨_,hz,fun v q=>nomatch q⟩
  ·exact ⟨_,hTI,fun v q=>nomatch q⟩
  ·exact ⟨_,hTO,fun v q=>nomatch q⟩
  ·exact h1.obj
  ·exact h2.obj
 keep:=fun i h h' st k=>by
  obtain ⟨hz,hTI,⟨x,y,hTO⟩,h1,h2⟩:=st
  exact ⟨k _ (by simp) _ hz,k _ (by simp) _ hTI,⟨x,y,k _ (by simp) _ hTO⟩,h1.keep (k _ (by simp)),h2.keep (k _ (by simp))⟩
 item:=by
  intro X hP hw hK hc i pins s σ H E I hf st hg
  subst hP hw hK
  obtain ⟨hz,hTI,hTO,h1,h2⟩:=st
  obtain ⟨xs,ys,x,y,qx,qy,hx,hy⟩:=hg
  obtain ⟨its,rv,p,_,la⟩:=sqx I f qx
  obtain ⟨jts,rw',p',_,lb⟩:=sqx I g qy
  have hh : X.A.in1.handled = none:=I.ok.hd hc
  have W:=GoesN.zip2 (elts:=elts) (x1:=kk) (pos:=tpos) S (drX (prog:=X.prog) (w:=X.w) f hh i1 a ha its.toArray) (drX (prog:=X.prog) (w:=X.w) g hh i2 b hb jts.toArray)
  have l1 : xs.length = its.length:=rv.length
  have l2 : ys.length = jts.length:=rw'.length
  have hi1 : i < xs.length:=(List.getElem?_eq_some_iff.mp hx).1
  have hi2 : i < ys.length:=(List.getElem?_eq_some_iff.mp hy).1
  refine W.goes i s _ E ?_ ⟨hz,hTI,hTO,⟨h1,p⟩,⟨h2,p'⟩⟩ fun v h' tk yv st' k htk=>?_
  ·simp only [List.size_toArray]
   omega
  obtain ⟨T,u1,u2,rfl,hT,e1,e2,hTup⟩:=yv
  obtain ⟨hz',hTI',hTO',⟨h1',_⟩,⟨h2',_⟩⟩:=st'
  obtain ⟨u1',g1,r1⟩:=rv.get hx
  obtain ⟨u2',g2,r2⟩:=rw'.get hy
  have z1 : u1 = u1':=by simpa [g1] using e1.symm
  have z2 : u2 = u2':=by simpa [g2] using e2.symm
  subst z1 z2
  have hn : H T = none:=I.hok.fresh hT
  have two : ([x,y] : List V).length ≤ sizeLine:=by rw [sizeLine_eq]; show 2 ≤ _; omega
  have new : ObjOk X.prog X.w (upd H T (.tup [x,y])) h' T (.tup [x,y]):=⟨two,[u1,u2],.cons r1 (.cons r2 .nil),hTup⟩
  have sub : ∀ c,c ∉ [z,TI,TO,i1,i2] → c ∉ [z,TO,i1,i2]:=fun c hc=>by simp at hc ⊢; exact ⟨hc.1,hc.2.2⟩
  refine ⟨.ref T,_,I.turnedNew (t':=tk) (ch:=[z,TI,TO,i1,i2]) (fun c o hb e=>k c o (sub c hb) e) hf hT new,rfl,⟨T,x,y,rfl,hn,rfl,fun l hl=>?_,fun l hl=>?_⟩,⟨hz',hTI',hTO',h1',h2'⟩,fun c hc=>?_⟩
  ·rw [ZRm I f hl qx]; exact hx
  ·rw [ZRm I g hl qy]; exact hy
  ·have lt : c < s.heap.objs.size:=by
    simp only [List.mem_cons,List.not_mem_nil,or_false] at hc
    rcases hc with q | q | q | q | q <;> subst q
    ·exact Heap.lt_size hz
    ·exact Heap.lt_size hTI
    ·obtain ⟨_,_,e⟩:=hTO; exact Heap.lt_size e
    ·obtain ⟨o,e,_⟩:=h1.obj; exact Heap.lt_size e
    ·obtain ⟨o,e,_⟩:=h2.obj; exact Heap.lt_size e
   rw [upd_ne (Nat.ne_of_lt (Nat.lt_of_lt_of_le lt hT))]
   exact (hf c hc).1
 done:=by
  intro X hP hw hK hc i pins s σ H E I hf st hg
  subst hP hw hK
  obtain ⟨hz,hTI,hTO,h1,h2⟩:=st
  obtain ⟨xs,ys,qx,qy,hi⟩:=hg
  obtain ⟨its,rv,p,_,la⟩:=sqx I f qx
  obtain ⟨jts,rw',p',_,lb⟩:=sqx I g qy
  have hh : X.A.in1.handled = none:=I.ok.hd hc
  have W:=GoesN.zip2 (elts:=elts) (x1:=kk) (pos:=tpos) S (drX (prog:=X.prog) (w:=X.w) f hh i1 a ha its.toArray) (drX (prog:=X.prog) (w:=X.w) g hh i2 b hb jts.toArray)
  have l1 : xs.length = its.length:=rv.length
  have l2 : ys.length = jts.length:=rw'.length
  have sub : ∀ c,c ∉ [z,TI,TO,i1,i2] → c ∉ [z,TO,i1,i2]:=fun c hc=>by simp at hc ⊢; exact ⟨hc.1,hc.2.2⟩
  have ei : i = min its.toArray.size jts.toArray.size:=by simp only [List.size_toArray]; omega
  subst ei
  refine W.stops s _ E ⟨hz,hTI,hTO,⟨h1,p⟩,⟨h2,p'⟩⟩ fun h' tk k htk=>?_
  refine I.step (ch:=[z,TI,TO,i1,i2]) (fun c hc=>?_) (fun c o _ _ hc e _=>k c o (sub c hc) e) (fun c o _ _ hc e _=>⟨o.slots,k c o (sub c hc) e⟩) (fun c o _ e n=>n) (fun c o hc e=>⟨o,k c o (sub c hc) e⟩) (fun _ _ e=>e) (fun _ _ _ e=>e) (fun c ps e=>⟨#[],by rw [e]; simp⟩) (fun m hm=>?_) (fun c u e=>?_) I.bare
  ·obtain ⟨f0,f1,f2,f3,f4,f5⟩:=hf c hc
   exact ⟨f3,f1,f4,f5⟩
  ·obtain ⟨o,es,ep,ho,r⟩:=hm
   exact ⟨o,es,ep,k _ o (sub _ fun q=>(hf _ q).2.1 rfl) ho,r⟩
  ·refine (I.hok c u e).stay (fun d v hd q=>k d v (sub d fun z'=>?_) q) (fun _ q=>q) fun _ _ q=>q
   have hn:=(hf d z').1
   rcases hd with rfl | hd
   ·rw [hn] at e; cases e
   ·rw [hn] at hd; cases hd
 self:=fun A i s Q E st h=>wpAny_pyIter_zip st.1 h
def Zep (K : PySem.W.Frag) (ta : TA) : TI:=fun σ H R=>ta σ H fun vs H1=>∃ a b xs ys f g,vs = [.ref a,.ref b] ∧ SqX K f H1 a xs ∧ SqX K g H1 b ys ∧ R (ItX2 K f a g b) H1
theorem ZMo {X : Cx} {e e2 : Expr} {ta : TA} {p pos tpos : Pos} {elts : List Expr} {kk : Nat} (hg : Gl X "zip") (hm : X.mg "zip" = none) (ha : PA X [e,e2] ta)
  (hs : starEach [e,e2] X.env = (false,eval e X.env) :: starEach [e2] X.env:=by rfl) (hpl : (backTo pos (starEach [e2] X.env)).any (·.1) = false:=by rfl) :
  PI X (.Tuple elts kk tpos) (.Call (.Name "zip" p) [e,e2] [] pos) (Zep X.K ta):=by
 refine ⟨fun pins s σ H R I h=>?_⟩
 refine Call_ (ld_blt I hg hm PyProof.Rows.boot_zip (PyProof.Rows.callWith_type1 (thn (ha.run pos pins s σ H _ I h) fun us s1 ⟨vs,H1,I1,r1,q1⟩=>?_) hs hpl))
 obtain ⟨a,b,xs,ys,f,g,rfl,qx,qy,q⟩:=q1
 obtain ⟨v1,v2,rfl,ra,rb⟩:=vals2 r1
 obtain rfl : v1 = Value.ref a:=ra
 obtain rfl : v2 = Value.ref b:=rb
 obtain ⟨its,rv,p1,_,la⟩:=sqx I1 f qx
 obtain ⟨jts,rw',p2,_,lb⟩:=sqx I1 g qy
 refine zip_begins2 (begX f a its.toArray) (begX g b jts.toArray) p1 p2 fun h' hz hTI hTO g1 g2 hsz hk=>?_
 refine wpAny_pyIter_zip hz ?_
 have I2 : Inv X pins σ H1 { s1 with heap:=h' }:=I1.kept (t':=s1.toks) hk
 have S:=zip_sep2 (N:=s1.heap.objs.size) (fp1:=[a]) (fp2:=[b]) (ZXn la) (ZXn lb)
 refine ⟨s1.heap.objs.size + 4,[s1.heap.objs.size + 4,s1.heap.objs.size + 2,s1.heap.objs.size + 3,s1.heap.objs.size,s1.heap.objs.size + 1],_,ItX2 X.K f a g b,H1,rfl,I2,ZQp f g S (Nat.ne_of_lt la) (Nat.ne_of_lt (Nat.lt_succ_of_lt lb)),⟨hz,hTI,⟨_,_,hTO⟩,.first g1,.first g2⟩,fun c hc=>?_,q⟩
 have le : s1.heap.objs.size ≤ c:=by
  simp only [List.mem_cons,List.not_mem_nil,or_false] at hc
  rcases hc with z | z | z | z | z <;> subst z <;> first | exact Nat.le_refl _ | exact Nat.le_add_right _ _
 exact I1.fpOk le (I1.hok.fresh le)
theorem ZUm {K : PySem.W.Frag} {f g : Bool} {a b : Addr} {xs ys : List V} {n : Nat} (hn : n = min xs.length ys.length) : Walk (ItX2 K f a g b) n (fun H=>SqX K f H a xs ∧ SqX K g H b ys) (YPair (fun i=>xs[i]?) (fun i=>ys[i]?)):=by
 subst hn
 refine ⟨fun i _ hi q=>?_,fun _ q=>⟨xs,ys,q.1,q.2,rfl⟩,fun i H v H' _ q y=>?_⟩
 ·have h1 : i < xs.length:=by omega
  have h2 : i < ys.length:=by omega
  exact ⟨xs,ys,xs[i],ys[i],q.1,q.2,List.getElem?_eq_getElem h1,List.getElem?_eq_getElem h2⟩
 ·obtain ⟨T,x,z,h1,h2,h3,h4,h5⟩:=y
  exact ⟨T,x,z,h1,h2,h3,h4 xs q.1,h5 ys q.2⟩
end Ev
end
section
namespace Ev
open PySem PySem.Spec PyProof.Rows L2
open PySem.W (EachIs AllAlike Sortable)
section
variable {X : Cx}
theorem ZQb {x : Str} {v : V} {pos : Pos} (hg : Gl X x) (hm : ∃ u,X.mg x = some u ∧ RelV v u) (hd : (x == ("__debug__" : Str)) = false:=by decide) : PE X (.Name x pos) (tC v):=by
 obtain ⟨u,h,r⟩:=hm
 exact pe_glob hg h r hd
def repS (z : Str) (n : Nat) : Str:=⟨(List.replicate n z.cps.toList).flatten.toArray⟩
theorem Zcp : ∀ (l : List (Array Nat)) (a : Array Nat),l.foldl (· ++ ·) a = (a.toList ++ (l.map (·.toList)).flatten).toArray
 | [],a=>by simp
 | x :: l,a=>by
  rw [List.foldl_cons,Zcp l]
  simp
theorem Zqm : OpR X (binaryOp .Mult) (fun x y H Q=>∃ (z : Str) (n : Nat),x = .str z ∧ y = .int (n : Int) ∧ n ≤ 1000 ∧ z.length ≤ 1000 ∧ Q (.str (repS z n)) H):=by
 intro pins s σ H x y v u Q I rx ry h
 obtain ⟨z,n,rfl,rfl,hn,hz,q⟩:=h
 obtain ⟨t,rfl⟩:=rx
 obtain ⟨t',rfl⟩:=ry
 have hm : z.length * n ≤ 1000 * 1000:=Nat.mul_le_mul hz hn
 have c0 : (decide ((n : Int) < -(2 ^ 63 : Int)) || decide ((n : Int) ≥ 2 ^ 63)) = false:=by
  rw [decide_eq_false (by omega),decide_eq_false (by omega)]; rfl
 have lenZ : z.cps.toList.length = z.length:=by simp [Str.length]
 have big : ¬ (sizeLine < z.length * n):=by rw [sizeLine_eq]; omega
 refine P.mul_str c0 (fun h1 _ h2=>?_) (fun h1 _=>?_) ?_
 ·have h3 : (1000 : Int) ≤ (2 ^ 63 - 1) / (n : Int):=by
   rw [Int.le_ediv_iff_mul_le (by omega)]
   omega
  omega
 ·rw [Int.toNat_natCast]
  exact decide_eq_false big
 ·by_cases h1 : (n : Int) < 1
  ·have e0 : n = 0:=by omega
   subst e0
   rw [if_pos (by omega)]
   exact ⟨by decide,.str _,H,I.tok _,⟨_,rfl⟩,q⟩
  ·rw [if_neg h1]
   by_cases h2 : ((n : Int) == 1 || z.length == 0) = true
   ·rw [if_pos h2]
    have e : repS z n = z:=by
     rw [Bool.or_eq_true] at h2
     rcases h2 with h2 | h2
     ·have e1 : n = 1:=by have:=eq_of_beq h2; omega
      subst e1
      show (⟨((List.replicate 1 z.cps.toList).flatten).toArray⟩ : Str) = z
      simp
     ·have e1 : z.cps.toList = []:=List.eq_nil_of_length_eq_zero (by rw [lenZ]; exact eq_of_beq h2)
      show (⟨((List.replicate n z.cps.toList).flatten).toArray⟩ : Str) = z
      rw [e1]
      have e2 : z = ⟨z.cps.toList.toArray⟩:=rfl
      rw [e2,e1]
      simp
    rw [e] at q
    exact ⟨.str _,H,I,⟨_,rfl⟩,q⟩
   ·rw [if_neg h2,Int.toNat_natCast]
    have e : (⟨(List.replicate n z.cps).foldl (· ++ ·) #[]⟩ : Str) = repS z n:=by
     rw [Zcp]
     show (⟨_⟩ : Str) = ⟨_⟩
     simp
    rw [e]
    refine ⟨?_,.str _,H,I.tok _,⟨_,rfl⟩,q⟩
    show (repS z n).length ≤ sizeLine
    have el : (repS z n).length = n * z.length:=by
     show ((List.replicate n z.cps.toList).flatten).toArray.size = _
     simp [List.length_flatten,lenZ]
    rw [el,Nat.mul_comm]
    omega
theorem Zyo (hu : X.A.units < cLine) : OpR X (compareOp .NotEq) (fun x y H Q=>∃ a b ks ls,x = .ref a ∧ y = .ref b ∧ H a = some (.dK ks) ∧ H b = some (.dK ls) ∧ (ks.length ≠ ls.length ∧ Q (.bl true) H ∨ ks = [] ∧ ls = [] ∧ Q (.bl false) H)):=by
 intro pins s σ H x y v u Q I rx ry h
 obtain ⟨a,b,ks,ls,rfl,rfl,ea,eb,q⟩:=h
 obtain rfl : v = Value.ref a:=rx
 obtain rfl : u = Value.ref b:=ry
 obtain ⟨_,ya,va,ra,da⟩:=(show ObjOk X.prog X.w H s.heap a (.dK ks) from I.hok a _ ea)
 obtain ⟨_,yb,vb,rb,db⟩:=(show ObjOk X.prog X.w H s.heap b (.dK ls) from I.hok b _ eb)
 have l1:=ra.length
 have l2:=rb.length
 rcases q with ⟨hne,q⟩ | ⟨rfl,rfl,q⟩
 ·have hl : ¬ va.length = vb.length:=by omega
  exact PySem.W.keq_ne (knd:=mixKind X.prog X.w) (r:=true) ya yb da db hu (fun e=>absurd e hl) (fin_bl I q (by simp [hl]))
 ·have e1 : va = []:=List.eq_nil_of_length_eq_zero l1.symm
  have e2 : vb = []:=List.eq_nil_of_length_eq_zero l2.symm
  subst e1 e2
  exact PySem.W.keq_ne (knd:=mixKind X.prog X.w) (r:=true) ya yb da db hu (fun _=>hits_all rb ra (fun p hp=>nomatch hp)) (fin_bl I q (by simp))
theorem ZKl (l : Addr) (its : Array Value) (n : Nat) (dd : Option Addr) (sl : Array (Option Value)) (u : Tok) : Meets (Builtin.«tuple.__mul__» ⟨[.ref l,.int 1 u],[]⟩) (fun _ R st=>
  st.heap.get? l = some { cls:=.type "tuple",dict:=dd,data:=.seq its n,slots:=sl } ∧ R (.ok (.ret (Value.ref l))) st):=
 .of_wp fun prog w A R st hh=>by
  obtain ⟨hp,gs,dr,tk,os⟩:=st
  obtain ⟨hl,hh⟩:=hh
  have f1:=AutoSeq1.idx_int
  have c1 : (its.isEmpty || (1 : Int) == 1) = true:=by simp
  wp_walk using wpAny_loadPart' hl
  exact ⟨_,rfl,hh⟩
theorem Zqn : OpR X (binaryOp .Mult) (fun x y H Q=>∃ l xs,x = .ref l ∧ y = .int 1 ∧ SqT X.K H l xs ∧ Q (.ref l) H):=by
 intro pins s σ H x y v u Q I rx ry h
 obtain ⟨l,xs,rfl,rfl,hT,q⟩:=h
 cases rx
 obtain ⟨t,rfl⟩:=ry
 obtain ⟨its,r,⟨⟨cls,dd,data,sl⟩,ho,hc,n,hd⟩,hs⟩:=I.tuple hT
 simp only at hc hd
 subst hc hd
 exact wpAny_binaryOp_repeat_ref (T:= "tuple") (U:= "int") (by decide) ⟨_,ho,rfl⟩ (fun s'=>typeIs_int s' 1 t) noFill_tuple_mul F.fills_int_mul F.slot_int_rmul repeat_tuple F.slot_int_index.lookup
  (call_meets F.slot_int_rmul (typeIs_int s 1 t) F.entry_int_rmul (F.args_int_rmul_2 _ _) (int_rmul_tuple 1 t l its.toArray n dd sl)
   ⟨ho,rfl,⟨_,ho,rfl⟩,call_meets F.slot_tuple_mul ⟨_,ho,rfl⟩ F.entry_tuple_mul (F.args_tuple_mul_2 _ _) (ZKl l its.toArray n dd sl t) ⟨ho,⟨.ref l,H,I,rfl,q⟩⟩⟩)
structure OwnSp (K : PySem.W.Frag) (C : Addr) (m : Str) (f : Addr) : Prop where
 at_ : PySem.W.findIn K (.ref C) m = some (some (.ref f))
 ty : PySem.W.typeIn K (.ref f) = some (.type "function")
end
end Ev
end
section
namespace Ev
open PySem PySem.Spec PyProof.Rows L2
section
variable {H H' H1 H2 : Hp} {a b p : Addr} {o u ob oa : HO}
theorem Z3 (h : H a = some o) (hp : H p = none) : upd H p u a = some o:=by
 rw [upd_ne (ne_of_none h hp)]; exact h
theorem ZA (hp : H p = none) : Same H (upd H p u):=fun b o e=>Z3 e hp
theorem _root_.L2.Same.new (s : Same H H1) (hp : H1 p = none) : Same H (upd H1 p u):=s.trans (ZA hp)
theorem _root_.L2.Same.sqx {K : PySem.W.Frag} {f : Bool} {xs : List V} (s : Same H H') (h : SqX K f H a xs) : SqX K f H' a xs:=by
 cases f
 ·exact s.seq h
 ·rcases h with (h | ⟨o,h⟩) | h
  ·exact .inl (.inl (s _ _ h))
  ·exact .inl (.inr ⟨o,s _ _ h⟩)
  ·exact .inr h
theorem _root_.L2.Same.sqt {K : PySem.W.Frag} {xs : List V} (s : Same H H') (h : SqT K H a xs) : SqT K H' a xs:=s.sqx (f:=true) h
mutual
theorem _root_.L2.Same.dp {K : PySem.W.Frag} (s : Same H H') : ∀ {v : V} {d : PyData},Dp K H v d → Dp K H' v d
 | _,_,.non=>.non
 | _,_,.bl b=>.bl b
 | _,_,.int i=>.int i
 | _,_,.str x=>.str x
 | _,_,.lst h t=>.lst (s.seq h) (L2.Same.dpAll s t)
 | _,_,.tup h t=>.tup (s.sqt h) (L2.Same.dpAll s t)
theorem _root_.L2.Same.dpAll {K : PySem.W.Frag} (s : Same H H') : ∀ {vs : List V} {ds : List PyData},DpAll K H vs ds → DpAll K H' vs ds
 | _,_,.nil=>.nil
 | _,_,.cons h t=>.cons (L2.Same.dp s h) (L2.Same.dpAll s t)
end
def Keep (S : List Addr) (H H' : Hp) : Prop:=∀ b o,H b = some o → b ∉ S → H' b = some o
theorem Keep.refl (S : List Addr) (H : Hp) : Keep S H H:=fun _ _ h _=>h
theorem Keep.trans {S : List Addr} (a : Keep S H H1) (b : Keep S H1 H2) : Keep S H H2:=fun c o h n=>b c o (a c o h n) n
theorem Keep.of (S : List Addr) (s : Same H H') : Keep S H H':=fun b o h _=>s b o h
theorem Keep.same {S : List Addr} (k : Keep S H H1) (s : Same H1 H2) : Keep S H H2:=fun b o h n=>s b o (k b o h n)
theorem Keep.new {S : List Addr} (k : Keep S H H1) (hp : H1 p = none) : Keep S H (upd H1 p u):=fun b o h n=>Z3 (k b o h n) hp
theorem Keep.put {S : List Addr} (k : Keep S H H1) (ha : a ∈ S) : Keep S H (upd H1 a u):=fun b o h n=>by
 rw [upd_ne (fun e=>n (by rw [e]; exact ha))]
 exact k b o h n
theorem Keep.sub {S T : List Addr} (k : Keep S H H1) (h : ∀ x ∈ S,x ∈ T) : Keep T H H1:=fun b o e n=>k b o e fun z=>n (h b z)
theorem _root_.L2.Same.fresh (s : Same H H') (h : H' p = none) : H p = none:=s.free h
end
theorem _root_.L2.DpAll.len {K : PySem.W.Frag} {H : Hp} : ∀ {vs : List V} {ds : List PyData},DpAll K H vs ds → vs.length = ds.length
 | _,_,.nil=>rfl
 | _,_,.cons _ t=>congrArg (· + 1) (L2.DpAll.len t)
theorem _root_.L2.DpAll.get {K : PySem.W.Frag} {H : Hp} : ∀ {vs : List V} {ds : List PyData} {i : Nat} {v : V},DpAll K H vs ds → vs[i]? = some v → ∃ d,ds[i]? = some d ∧ Dp K H v d
 | _,_,0,_,.cons h _,e=>by cases e; exact ⟨_,rfl,h⟩
 | _,_,i + 1,_,.cons _ t,e=>L2.DpAll.get (i:=i) t e
theorem _root_.L2.DpAll.snoc {K : PySem.W.Frag} {H : Hp} {v : V} {d : PyData} : ∀ {vs : List V} {ds : List PyData},DpAll K H vs ds → Dp K H v d → DpAll K H (vs ++ [v]) (ds ++ [d])
 | _,_,.nil,h=>.cons h .nil
 | _,_,.cons h t,h'=>.cons h (L2.DpAll.snoc t h')
theorem _root_.L2.DpAll.strs {K : PySem.W.Frag} {H : Hp} : ∀ (ns : List Str),DpAll K H (ns.map V.str) (ns.map PyData.str)
 | []=>.nil
 | n :: r=>.cons (.str n) (L2.DpAll.strs r)
def tyD : PyData → String
 | .none=> "NoneType"
 | .bool _=> "bool"
 | .int _=> "int"
 | .str _=> "str"
 | .list _=> "list"
 | .tuple _=> "tuple"
 | .dict _=> "dict"
theorem ZSm {K : PySem.W.Frag} {H : Hp} {v : V} {d : PyData} (h : Dp K H v d) : TyX K H v (.type (tyD d)):=by
 cases h with
 | non=>exact .base .non
 | bl b=>exact .base (.bl b)
 | int i=>exact .base (.int i)
 | str x=>exact .base (.str x)
 | lst h t=>
  rcases h with (h | ⟨o,h⟩) | ⟨o,its,n,e,c,_⟩
  ·exact .base (.lst h)
  ·exact .base (.frz h)
  ·exact .kList e c
 | tup h t=>
  rcases h with (h | ⟨o,h⟩) | ⟨o,its,n,e,c,_⟩
  ·exact .base (.tup h)
  ·exact .fTuple h
  ·exact .kTuple e c
theorem Zno {K : PySem.W.Frag} (d : PyData) : PySem.W.kitOne K (.type (tyD d)) (.type "str") = some (match d with | .str _=>true | _=>false):=by
 cases d with
 | none=>exact kit_ty (show kitB "NoneType" "str" = some false by decide +kernel)
 | bool b=>exact kit_ty (show kitB "bool" "str" = some false by decide +kernel)
 | int i=>exact kit_ty (show kitB "int" "str" = some false by decide +kernel)
 | str x=>exact kit_ty (show kitB "str" "str" = some true by decide +kernel)
 | list xs=>exact kit_ty (show kitB "list" "str" = some false by decide +kernel)
 | tuple xs=>exact kit_ty (show kitB "tuple" "str" = some false by decide +kernel)
 | dict xs=>exact kit_ty (show kitB "dict" "str" = some false by decide +kernel)
theorem Z2p : (1 : Nat) ≤ sizeLine:=by rw [sizeLine_eq]; omega
theorem Zyb {n : Nat} (h : n ≤ 100000) : n ≤ sizeLine:=by rw [sizeLine_eq]; omega
theorem ZXc {n : Nat} (h : n ≤ 100000) : n < sizeLine:=by rw [sizeLine_eq]; omega
section
variable {α : Type}
structure FldR (K : PySem.W.Frag) (C : Addr) (fs : α → List (Str × V)) (f : Str) (get : α → V) (put : α → V → α) : Prop where
 cl : Cls K C
 na : NoAttr K C f
 lk : ∀ o,(fs o).lookup f = some (get o)
 pu : ∀ o v,putF f v (fs o) = fs (put o v)
 sz : ∀ o,(fs o).length < 1000
def AtO (C : Addr) (fs : α → List (Str × V)) (H : Hp) (a : Addr) (o : α) : Prop:=∃ dx,H a = some (.ins C dx (fs o))
variable {C a b : Addr} {fs : α → List (Str × V)} {o : α} {H H' : Hp} {S : List Addr}
theorem AtO.same (h : AtO C fs H a o) (s : Same H H') : AtO C fs H' a o:=let ⟨dx,e⟩:=h; ⟨dx,s _ _ e⟩
theorem AtO.keep (h : AtO C fs H a o) (s : Keep S H H') (n : a ∉ S) : AtO C fs H' a o:=let ⟨dx,e⟩:=h; ⟨dx,s _ _ e n⟩
theorem AtO.some (h : AtO C fs H a o) : ∃ u,H a = some u:=let ⟨_,e⟩:=h; ⟨_,e⟩
variable {X : Cx} {f : Str} {get : α → V} {put : α → V → α} {e oe value : Expr} {ta tv : TE} {pos pos' : Pos}
def tGet (C : Addr) (fs : α → List (Str × V)) (get : α → V) (ta : TE) : TE:=fun σ H Q=>ta σ H fun x H1=>∃ a o,x = .ref a ∧ AtO C fs H1 a o ∧ Q (get o) H1
theorem ZH (R : FldR X.K C fs f get put) (he : PE X e ta) (hb : attributeBase e f X.env (eval e X.env) = eval e X.env:=by rfl) : PE X (.Attribute e f pos) (tGet C fs get ta):=by
 refine ⟨fun pins s σ H Q I h=>attr_of hb (thn (he.run pins s σ H _ I h) fun u s1 ⟨x,H1,I1,rx,a,o,ex,⟨dx,ea⟩,q⟩=>?_)⟩
 subst ex
 obtain rfl : u = Value.ref a:=rx
 exact getattr_ok I1 ea R.cl R.na (R.lk o) fun u' s2 I2 ru=>⟨get o,H1,I2,ru,q⟩
structure But (a : Addr) (H H' : Hp) : Prop where
 off : ∀ b,b ≠ a → H' b = H b
theorem But.keep (h : But a H H') (ha : a ∈ S) : Keep S H H':=fun b o e n=>(h.off b fun q=>n (by rw [q]; exact ha)).trans e
theorem But.free (h : But a H H') {p : Addr} (e : H' p = none) (hn : ∃ u,H' a = .some u) : H p = none:=by
 obtain ⟨u,hu⟩:=hn
 have ne : p ≠ a:=fun q=>by rw [q,hu] at e; cases e
 rw [← h.off p ne]
 exact e
def sPut (C : Addr) (fs : α → List (Str × V)) (put : α → V → α) (ta tv : TE) : TS:=fun D σ H=>tv σ H fun y H1=>ta σ H1 fun x H2=>∃ a o,x = .ref a ∧ AtO C fs H2 a o ∧ ∀ H3,AtO C fs H3 a (put o y) → But a H2 H3 → D.nx σ H3
theorem ZDp (R : FldR X.K C fs f get put) (ha : PE X oe ta) (hv : PE X value tv) (hs : swapsWith value (some (.Attribute oe f pos')) pos.line X.env = pure false:=by rfl) : PS X (.Assign [.Attribute oe f pos'] value pos) (sPut C fs put ta tv):=by
 refine ⟨fun pins s σ H D I h=>plainObj_wpAny_Assign_Attribute (thn (hv.run pins s σ H _ I h) fun u s1 ⟨y,H1,I1,ry,q⟩=>thn (ha.run pins s1 σ H1 _ I1 q) fun ov s2 ⟨x,H2,I2,rx,a,o,ex,⟨dx,ea⟩,q2⟩=>?_) hs⟩
 subst ex
 obtain rfl : ov = Value.ref a:=rx
 refine setattr_ok I2 ea R.cl R.na (R.sz o) ry fun s3 I3=>⟨σ,_,I3,q2 _ ⟨dx,?_⟩ ⟨fun b hb=>upd_ne hb⟩⟩
 rw [upd_same,R.pu]
def Z6p (C : Addr) (fs : α → List (Str × V)) (get : α → V) (put : α → V → α) (rd : V → V → Hp → VK → Prop) (ta tv : TE) : TS:=fun D σ H=>ta σ H fun x H1=>∃ a o,x = .ref a ∧ AtO C fs H1 a o ∧
 tv σ H1 fun y H2=>rd (get o) y H2 fun z H3=>∃ o',AtO C fs H3 a o' ∧ ∀ H4,AtO C fs H4 a (put o' z) → But a H3 H4 → D.nx σ H4
theorem ZZh {op : Operator} {rd : V → V → Hp → VK → Prop} (R : FldR X.K C fs f get put) (ha : PE X oe ta) (hv : PE X value tv) (hop : InOp X op rd) : PS X (.AugAssign (.Attribute oe f pos') op value pos) (Z6p C fs get put rd ta tv):=by
 refine ⟨fun pins s σ H D I h=>wpAny_AugAssign_AttributeAny (thn (ha.run pins s σ H _ I h) fun ov s1 ⟨x,H1,I1,rx,a,o,ex,⟨dx,ea⟩,q⟩=>?_)⟩
 subst ex
 obtain rfl : ov = Value.ref a:=rx
 refine getattr_ok I1 ea R.cl R.na (R.lk o) fun u s2 I2 ru=>thn (hv.run pins s2 σ H1 _ I2 q) fun w3 s3 ⟨y,H2,I3,ry,q3⟩=>thn (hop pins s3 σ H2 (get o) y u w3 _ I3 ru ry q3) fun w4 s4 ⟨z,H3,I4,rz,o',⟨dx',ea'⟩,q4⟩=>?_
 refine setattr_ok I4 ea' R.cl R.na (R.sz o') rz fun s5 I5=>⟨σ,_,I5,q4 _ ⟨dx',?_⟩ ⟨fun b hb=>upd_ne hb⟩⟩
 rw [upd_same,R.pu]
end
def ZKp (t : TE) : TE:=fun σ H Q=>∃ R : VK,t σ H R ∧ ∀ x H1,R x H1 → Q x H1
theorem Ztb {X : Cx} {e : Expr} {t : TE} (he : PE X e t) : PE X e (ZKp t):=
 ⟨fun pins s σ H Q I ⟨R,h,k⟩=>thn (he.run pins s σ H R I h) fun u s1 ⟨v,H1,I1,r1,q⟩=>⟨v,H1,I1,r1,k v H1 q⟩⟩
section
variable {α : Type} {X : Cx} {CX : CXT} {k : Nat} {C f p g : Addr} {fs : α → List (Str × V)} {fd : FuncData} {ps : List Str} {sp : Sp} {dvs : List V} {ds : List Value} {E : XK} {o e : Expr} {es : List Expr} {m : Str} {apos pos : Pos} {ta : TE} {t : TA}
def ZJp (C : Addr) (fs : α → List (Str × V)) (sp : Sp) (dvs : List V) (E : XK) (ta : TE) (t : TA) : TE:=fun σ H Q=>ta σ H fun x H1=>∃ a o,x = .ref a ∧ AtO C fs H1 a o ∧ t σ H1 fun vs H2=>sp (.ref a :: (vs ++ dvs)) H2 Q E
theorem Zob (hl : ∀ o,(fs o).lookup m = none) (h : PE X e (tMeth C m sp dvs E (ZKp ta) t)) : PE X e (ZJp C fs sp dvs E ta t):=
 ⟨fun pins s σ H Q I q=>h.run pins s σ H Q I ⟨_,q,fun x H1 ⟨a,o,ex,⟨dx,ea⟩,q⟩=>⟨a,dx,fs o,ex,ea,hl o,by rw [ex]; exact q⟩⟩⟩
end
end Ev
end
section
namespace Ev
open PySem PySem.Spec PyProof.Rows L2
theorem ifT {c : Bool} {A B : Prop} (hc : c = true) (h : A) : if c = true then A else B:=by
 rw [if_pos hc]; exact h
theorem ifF {c : Bool} {A B : Prop} (hc : c = false) (h : B) : if c = true then A else B:=by
 rw [hc,if_neg Bool.false_ne_true]; exact h
theorem dT {p : Prop} [Decidable p] (h : p) : decide p = true:=decide_eq_true h
theorem dF {p : Prop} [Decidable p] (h : ¬ p) : decide p = false:=decide_eq_false h
theorem nT {p : Prop} [Decidable p] (h : p) : (!decide p) = false:=by rw [decide_eq_true h]; rfl
theorem nF {p : Prop} [Decidable p] (h : ¬ p) : (!decide p) = true:=by rw [decide_eq_false h]; rfl
section
variable {J : It} {n : Nat} {G : Hp → Prop} {Y : Nat → Hp → V → Hp → Prop}
structure Stays (R : Nat → V → Hp → Prop) : Prop where
 same : ∀ i y H H',Same H H' → R i y H → R i y H'
 lst : ∀ i y H (D : Addr) acc acc',H D = some (.lst acc) → R i y H → R i y (upd H D (.lst acc'))
theorem ZVi (w : Walk J n G Y) {g : TG} {tt : TT} {te : TE} {vs : List Nat} {σ : L2.St} {H1 : Hp} {D : Addr} {Qd : Hp → Prop} (R : Nat → V → Hp → Prop) (st : Stays R) (hn : n < sizeLine) (hD : H1 D = none) (hG : ∀ H,Same H1 H → G H)
  (hs : ∀ i x H H' (Z : VK) (F : Hp → Prop),i < n → Same H1 H → Y i H x H' → (∀ y H4,Same H H4 → R i y H4 → Z y H4) → g x (wipe σ vs) H' fun σ2 H2=>wipe σ2 vs = wipe σ vs ∧ tt σ2 H2 fun b H3=>if b = true then te σ2 H3 Z else F H3)
  (hd : ∀ H ys,Same H1 H → H D = some (.lst ys) → ys.length = n → (∀ (i : Nat) (y : V),ys[i]? = some y → R i y H) → Qd H) :
  ∃ W : Nat → Nat → Hp → Prop,(∃ m,W 0 m (upd H1 D (.lst []))) ∧ ∀ i m H,W i m H →
   (J.stop i H ∧ Qd H) ∨ (J.go i H ∧ ∃ Nx : Hp → Prop,(∀ H',Nx H' → ∃ m',m' < m ∧ W (i + 1) m' H') ∧ ∀ x H',J.yld i H x H' → g x (wipe σ vs) H' fun σ2 H2=>wipe σ2 vs = wipe σ vs ∧ tt σ2 H2 fun b H3=>
    if b = true then te σ2 H3 fun y H4=>∃ acc,H4 D = some (.lst acc) ∧ acc.length < sizeLine ∧ Nx (upd H4 D (.lst (acc ++ [y]))) else Nx H3):=by
 refine lc_it w (fun i H=>Same H1 H ∧ ∃ ys,H D = some (.lst ys) ∧ ys.length = i ∧ ∀ (j : Nat) (y : V),ys[j]? = some y → R j y H) ⟨ZA hD,[],upd_same,rfl,fun j y e=>by simp at e⟩ (fun i H _ p=>hG H p.1) ?_ (fun H p=>let ⟨s,ys,e,l,r⟩:=p; hd H ys s e l r)
 rintro i x H H' hi ⟨s,ys,e,l,r⟩ y
 refine hs i x H H' _ _ hi s y fun v H4 s4 rv=>?_
 have e4:=s4 _ _ e
 refine ⟨ys,e4,by omega,fun b o h=>?_,ys ++ [v],upd_same,by simp [l],fun j z hz=>?_⟩
 ·have ne : b ≠ D:=ne_of_none h hD
  rw [upd_ne ne]
  exact s4 _ _ (s _ _ h)
 ·refine st.lst j z H4 D ys _ e4 ?_
  by_cases hj : j < ys.length
  ·rw [List.getElem?_append_left hj] at hz
   exact st.same j z H H4 s4 (r j z hz)
  ·rw [List.getElem?_append_right (by omega)] at hz
   have e0 : j - ys.length = 0:=by
    cases h0 : j - ys.length with
    | zero=>rfl
    | succ k=>rw [h0] at hz; simp at hz
   rw [e0] at hz
   cases hz
   have ej : j = i:=by omega
   rw [ej]
   exact rv
end
theorem ZBg (f : Nat → V → Prop) : Stays (fun i y _=>f i y):=⟨fun _ _ _ _ _ h=>h,fun _ _ _ _ _ _ _ h=>h⟩
mutual
def noL : PyData → Bool
 | .list _=>false
 | .tuple ds=>noLs ds
 | .dict _=>false
 | _=>true
def noLs : List PyData → Bool
 | []=>true
 | d :: ds=>noL d && noLs ds
end
theorem Zrj {α : Type} [Inhabited α] (l : List α) (f : α → Bool) : l.all f = (((List.range l.length).map fun i=>f (l.getD i default)).all id):=by
 induction l with
 | nil=>rfl
 | cons a l ih=>
  rw [List.all_cons,ih,List.length_cons,List.range_succ_eq_map,List.map_cons,List.all_cons,List.map_map]
  rfl
theorem Zmg {f : Nat → Bool} : ∀ {ys : List V} {n : Nat},ys.length = n → (∀ (i : Nat) (y : V),ys[i]? = some y → y = V.bl (f i)) → ys = ((List.range n).map f).map V.bl:=fun {ys n} h r=>by
 refine List.ext_getElem? fun i=>?_
 by_cases hi : i < n
 ·have h1 : i < ys.length:=by omega
  rw [List.getElem?_eq_getElem h1,r i ys[i] (List.getElem?_eq_getElem h1)]
  simp [hi]
 ·rw [List.getElem?_eq_none (by omega),List.getElem?_eq_none (by simp; omega)]
def Z3n (t : TT) : TT:=fun σ H Q=>∃ R : Bool → Hp → Prop,t σ H R ∧ ∀ b H1,R b H1 → Q b H1
theorem ZRg {X : Cx} {e : Expr} {t : TT} (h : PT X e t) : PT X e (Z3n t):=
 ⟨fun pins s σ H Q I ⟨R,q,k⟩=>thn (h.run pins s σ H R I q) fun d s1 ⟨H1,I1,q1⟩=>⟨H1,I1,k d H1 q1⟩⟩
theorem Z4e {c : TT} {tb : TS} {D : Ends} {σ : L2.St} {H : Hp} (W : Nat → L2.St → Hp → Prop) (m : Nat) (h0 : W m σ H)
  (hs : ∀ m σ H,W m σ H → c σ H fun b H1=>if b = true then tb { D with nx:=fun σ' H'=>∃ m',m' < m ∧ W m' σ' H',ct:=fun σ' H'=>∃ m',m' < m ∧ W m' σ' H',bk:=D.nx } σ H1 else D.nx σ H1) :
  tWhile (Z3n c) tb D σ H:=by
 refine ⟨W,⟨m,h0⟩,fun m σ H w=>⟨_,hs m σ H w,fun b H1 q=>?_⟩⟩
 cases b
 ·exact q
 ·exact ⟨_,fun _ _ h=>h,q⟩
end Ev
end
section
namespace Ev
open PySem PySem.Spec PyProof.Rows L2
def SupO (a D x C : Addr) : HO:=.ext fun h=>h.get? a = some (PySem.W.ks_superObj D x C)
def MwO (a x : Addr) : HO:=.ext fun h=>h.get? a = some (PySem.W.kxs_mw "ValueError.__init__" x)
structure SuC (K : PySem.W.Frag) (D C : Addr) : Prop where
 clsD : ∃ cd,PySem.W.clsIn K D = some cd
 sub : PySem.W.mroIn K C (.ref D) = some true
 opq : PySem.W.nsIn K cStatics "thirdparty.any" = some none
 sup : PySem.W.ks_superIn K C D "__init__" = some (some (.builtin "ValueError.__init__"))
 sB : PySem.W.subIn K (.ref C) (.type "ValueError") = some true
section
variable {X : Cx} {pins : List (Addr × Obj)} {σ : L2.St} {H : Hp} {s : Shared} {a C D : Addr} {E : Value → Shared → Prop} {A : Around}
theorem ZSk (I : Inv X pins σ H s) (e : H a = some (exo a C none)) : ∃ t1 : Addr,PySem.W.InstAt s.heap a { cls:=.ref C,dict:=none,data:=.fields #[.ref t1,.none,.none,.none,.bool false,.none] } C none:=by
 obtain ⟨t1,ho⟩:=exo_at I.hok e
 exact ⟨t1,ho,rfl,rfl,True.intro⟩
theorem ZLn {Q : Value → Shared → Prop} (T : SuC X.K D C) (I : Inv X pins σ H s) (e : H a = some (exo a C none))
  (h : ∀ so s',H so = none → Inv X pins σ (upd H so (SupO so D a C)) s' → Q (.ref so) s') : wpAny (model X.prog X.w) A (call (.type "super") [.ref D,.ref a]) Q E s:=by
 obtain ⟨cd,hD⟩:=T.clsD
 obtain ⟨t1,J⟩:=ZSk I e
 have KI:=I.kIn
 have hs : PySem.W.Looks (model X.prog X.w) s.heap (isSubtype (.ref C) (.ref D)) true:=PySem.W.looks_mroIn KI T.sub
 obtain ⟨hp,g,d,t,os⟩:=s
 obtain ⟨oD,hD1,hD2⟩ : ∃ oD,hp.get? D = some oD ∧ oD.data = .cls cd:=by
  unfold PySem.W.clsIn at hD
  split at hD
  ·rename_i c d' cd' sl ho
   cases hD
   exact ⟨_,KI _ _ ho,rfl⟩
  ·cases hD
 refine ks_wpAny_call_super hD1 hD2 J.at_ J.cls (fun c e=>?_) hs (fun h' e' k=>?_)
 ·cases e
 ·have I2 : Inv X pins σ (upd H hp.objs.size (SupO hp.objs.size D a C)) ⟨h',g,d,t,os⟩:=
   I.laid (t':=t) (a:=hp.objs.size) (o:=SupO hp.objs.size D a C) (h':=h') k (Nat.le_refl _) ⟨e',⟨_,e'⟩,fun h1 h2 z st=>st _ z⟩
  exact h _ _ (I.hok.fresh (Nat.le_refl _)) I2
theorem ZFl {so : Addr} {pl : Sem Bool} {Q : Value × List Value → Shared → Prop} (T : SuC X.K D C) (I : Inv X pins σ H s) (e : H a = some (exo a C none)) (es : H so = some (SupO so D a C))
  (h : ∀ u s',H u = none → Inv X pins σ (upd H u (MwO u a)) s' → Q (.ref u,[]) s') : wpAny (model X.prog X.w) A (getMethod (.ref so) "__init__" pl) Q E s:=by
 obtain ⟨t1,J⟩:=ZSk I e
 have KI:=I.kIn
 have hso : s.heap.get? so = some (PySem.W.ks_superObj D a C):=(show ObjOk X.prog X.w H s.heap so (.ext fun h=>h.get? so = some (PySem.W.ks_superObj D a C)) from I.hok so _ es).1
 have hI : PySem.W.Looks (model X.prog X.w) s.heap (isInstance (.ref a) (.type "ValueError")) true:=J.type.andThen (PySem.W.looks_subIn KI T.sB)
 have hno : PySem.W.Looks (model X.prog X.w) s.heap (opaqueClassAbove (.ref C)) none:=PySem.W.looks_opaque KI T.opq
 have hm:=T.sup
 obtain ⟨hp,g,d,t,os⟩:=s
 cases hc : PySem.W.clsIn X.K C with
 | none=>
  unfold PySem.W.ks_superIn at hm
  rw [hc] at hm
  cases hm
 | some cd=>
  unfold PySem.W.ks_superIn at hm
  rw [hc] at hm
  refine PySem.W.kxs_getMethod PySem.W.kxs_ValueError hso hno (l₀:=cd.mro) ?_ rfl KI hm hI (PySem.W.ks_ne KI J hc) (by decide) ?_
  ·exact fun A Q E s k q=>wpAny_bind ((PySem.W.looks_clsIn KI hc) A _ E s k (wpAny_pure q))
  ·have e' : (hp.push (PySem.W.kxs_mw "ValueError.__init__" a)).get? hp.objs.size = some (PySem.W.kxs_mw "ValueError.__init__" a):=Heap.get?_push_at rfl rfl
   have I2 : Inv X pins σ (upd H hp.objs.size (MwO hp.objs.size a)) ⟨hp.push (PySem.W.kxs_mw "ValueError.__init__" a),g,d,t + 1,os⟩:=
    I.laid (t':=t + 1) (a:=hp.objs.size) (o:=MwO hp.objs.size a) (fun b o z=>Heap.get?_push_of_some _ z) (Nat.le_refl _) ⟨e',⟨_,e'⟩,fun h1 h2 z st=>st _ z⟩
   exact h _ _ (I.hok.fresh (Nat.le_refl _)) I2
theorem ZEl {u : Addr} {rest : List Value} {Q : Value → Shared → Prop} (T : OexC X.K C) (I : Inv X pins σ H s) (e : H a = some (exo a C none)) (eu : H u = some (MwO u a)) (hl : rest.length ≤ sizeLine)
  (h : ∀ s',Inv X pins σ H s' → Q .none s') : wpAny (model X.prog X.w) A (call (.ref u) rest) Q E s:=by
 obtain ⟨nm,q,N,bs,bm,sn,sub,ab,col,dd,k0,k1,k2,k3,k5,hC,hbm⟩:=T.cls
 obtain ⟨t1,ho⟩:=exo_at I.hok e
 have hC2:=I.kIn _ _ hC
 have hu : s.heap.get? u = some (PySem.W.kxs_mw "ValueError.__init__" a):=(show ObjOk X.prog X.w H s.heap u (.ext fun h=>h.get? u = some (PySem.W.kxs_mw "ValueError.__init__" a)) from I.hok u _ eu).1
 obtain ⟨hp,g,d,t,os⟩:=s
 refine wpAny_call (codeAny_of_tree ?_)
 show wpAny _ A.in1 (callAny (.ref u) ⟨rest,[]⟩) _ _ _
 simp only [callAny]
 refine wpAny_bind (wpAny_load hu ?_)
 simp only [PySem.W.kxs_mw,show (Value.type "method-wrapper" == Value.type "method" || Value.type "method-wrapper" == Value.type "builtin_function_or_method" || Value.type "method-wrapper" == Value.type "method-wrapper") = true by decide,if_true]
 refine PySem.W.KFB.if_so (by decide) ?_
 refine wpAny_bind (PySem.ESX.check_bound F.excBase_ValueError hC2 ho rfl ?_)
 refine wpAny_bind (wpAny_pure (wpAny_pure ?_))
 refine ⟨plainId_quiet F.excBase_ValueError.init.plain _,codeAny_builtin F.excBase_ValueError.initEntry ?_⟩
 refine PySem.W.exc_init_tree (cls:=.ref C) (t0:=t1) (dv:=none) (c2:=.none) (c3:=.none) (b4:=.bool false) ho hl fun h' k hx ht=>?_
 have J:=I.write (t':=t) (x:=a) (e:=a) (o:=exo a C none) (by rw [e]; exact True.intro) (.inl rfl) k ⟨_,hx⟩ (exo_ok hx)
 have eu2 : upd H a (exo a C none) = H:=by
  funext b
  by_cases hb : b = a
  ·rw [hb,upd_same,e]
  ·rw [upd_ne hb]
 rw [eu2] at J
 exact h _ J
end
end Ev
end
section
namespace Ev
open PySem PySem.Spec PyProof.Rows L2 NdefX
def Z8h (K : PySem.W.Frag) (H : Hp) (v : V) : Prop:=∀ (X : Cx) (pins : List (Addr × Obj)) (s : Shared) (σ : L2.St) (H' : Hp) (us : List Value) (Q : VK),X.K = K → Same H H' → X.A.guards = some [] → X.A.units + 64 < cLine →
 Inv X pins σ H' s → Vals [v] us → (∀ x,Q (.str x) H') → wpAny (model X.prog X.w) X.A (call (.builtin "repr") us) (EP X pins σ Q) X.xe s
theorem Z8h.same {K : PySem.W.Frag} {H H' : Hp} {v : V} (h : Z8h K H v) (st : Same H H') : Z8h K H' v:=
 fun X pins s σ H2 us Q e s2=>h X pins s σ H2 us Q e (st.trans s2)
abbrev iN : List Str:=["self", "value", "__class__"]
abbrev iP : List Str:=["self", "value"]
abbrev iC : List Str:=["__class__"]
def Zdp (p0 p1 p2 p3 p4 p5 p6 p7 p8 p9 p10 p11 : Pos) : List Stmt:=
 [.Expr (.Call (.Attribute (.Call (.Name "super" p0) [] [] p1) "__init__" p2) [.Call (.Name "repr" p3) [.Name "value" p4] [] p5] [] p6) p7,
  .Assign [.Attribute (.Name "self" p8) "value" p9] (.Name "value" p10) p11]
structure InitF (P : Program) (K : PySem.W.Frag) (mg : Str → Option Value) (f D : Addr) (F : NF) (doc pm ctv : Value) : Prop where
 lk : ∃ oc od osl,K.lookup f = some ⟨oc,od,.func (F.fd doc pm ctv),osl⟩
 code : PySem.W.codeIn K (.ref F.c) F.qual = true
 cell : ∃ cc cl cld csl,F.cl = [(("__class__" : Str),cc)] ∧ K.lookup cc = some ⟨cl,cld,.cell (some (.ref D)),csl⟩
 body : ∃ p0 p1 p2 p3 p4 p5 p6 p7 p8 p9 p10 p11,F.body = Zdp p0 p1 p2 p3 p4 p5 p6 p7 p8 p9 p10 p11 ∧ (p2.endLine == p6.line) = true
 sc : NScope iN iP iC F.scope
 su : F.scope.names.lookup ("super" : Str) = some .globalImplicit
 re : F.scope.names.lookup ("repr" : Str) = some .globalImplicit
 hd : ∃ ar : Arg,(F.params.posonlyargs ++ F.params.args).head? = some ar ∧ ar.arg = ("self" : Str)
 file : ∃ ccl cdd vs ccs fl tf,K.lookup F.c = some ⟨ccl,cdd,.fields vs,ccs⟩ ∧ vs[2]? = some (.str fl tf) ∧ ((P.main.file : Str) == fl) = true
 top : (P.main.scope.names.lookup ("super" : Str)).isSome = false
 ms : mg "super" = none
 mr : mg "repr" = none
structure IPre (K : PySem.W.Frag) (D : Addr) (H : Hp) (a C : Addr) (v : V) : Prop where
 at_ : H a = some (exo a C none)
 su : SuC K D C
 ox : OexC K C
 no : PySem.W.findIn K (.ref C) "value" = some none
 rep : Z8h K H v
theorem Z5h {H : Hp} {b : Addr} {o : HO} (h : H b = none) : Same H (upd H b o):=fun c u e=>by
 rw [upd_ne (fun z=>by rw [z,h] at e; cases e)]
 exact e
section
variable {X : Cx} {f D L : Addr} {F : NF} {doc pm ctv : Value}
theorem Z8l (U : InitF X.prog X.K X.mg f D F doc pm ctv) (hXe : X.env = envF F f L) (hN : X.N = iN) (hXg : X.A.guards = some []) (hXu : X.A.units + 64 < cLine) {s : Shared} {H : Hp} {a C : Addr} {v : V} {Q : VK}
  (I : Inv X [] [some (.ref a),some v,some (.ref D)] H s) (pre : IPre X.K D H a C v)
  (post : ∀ H1 dx,Same H H1 → H1 dx = none → dx ≠ a → Q .non (upd (upd H1 dx (exd dx [(("value" : Str),v)])) a (exo a C (some dx)))) :
  PySem.wpAt (model X.prog X.w) X.A (.func F.body X.env) (execs F.body X.env) (SP X [] { nx:=fun _ H'=>Q .non H',rt:=Q }) X.xe s:=by
 obtain ⟨⟨oc,od,osl,lk⟩,hcd,⟨cc,ccl,ccld,ccsl,e1,lc⟩,⟨p0,p1,p2,p3,p4,p5,p6,p7,p8,p9,p10,p11,e2,hp26⟩,S,hks,hkr,⟨ar,hhd,har⟩,⟨ocl,cdd,vs,ccs,fl,tf,lco,hvs,hfl⟩,htop,ms,mr⟩:=U
 have KX:=I.kIn
 obtain ⟨cd,hD⟩:=pre.su.clsD
 obtain ⟨oD,hD1,hD2⟩ : ∃ oD,s.heap.get? D = some oD ∧ oD.data = .cls cd:=by
  unfold PySem.W.clsIn at hD
  split at hD
  ·rename_i c' d' cd' sl' ho
   cases hD
   exact ⟨_,KX _ _ ho,rfl⟩
  ·cases hD
 have hk : X.env.scope.kind = .function:=I.ok.kind
 have ks : X.env.kindOf "super" = some .globalImplicit:=by rw [hXe]; exact hks
 have kc : X.env.kindOf "__class__" = some .free:=by rw [hXe]; exact S.frk _ (List.mem_cons_self ..)
 have kse : X.env.kindOf "self" = some .local:=by rw [hXe]; exact S.par _ (List.mem_cons_self ..)
 have kv : X.env.kindOf "value" = some .local:=by rw [hXe]; exact S.par _ (List.mem_cons_of_mem _ (List.mem_cons_self ..))
 have kr : Gl X "repr":= by unfold Gl; rw [hXe]; exact hkr
 have hcl : X.env.cells.lookup ("__class__" : Str) = some cc:=by rw [hXe]; show F.cl.lookup _ = _; rw [e1]; rfl
 obtain ⟨mb,hb1,hb2⟩:=I.mod.blt
 obtain ⟨m,hns,hl⟩:=I.loc
 have mself : m "self" = some (.ref a):=by
  obtain ⟨u,ru,lk'⟩:=hl 0 "self" (.ref a) (by rw [hN]; rfl) rfl (.inl kse)
  obtain rfl : u = Value.ref a:=ru
  rcases lk' with ⟨_,z⟩ | ⟨z,_⟩
  ·exact z
  ·rcases z with z | z <;> rw [kse] at z <;> cases z
 rw [e2]
 unfold Zdp
 refine ks_wpAt_execs_cons (ks_wpAt_Expr_any ?_ (by unfold interactive; rw [hk]; rfl) rfl)
 have hpos : methodCallPos true (.Call (.Name "super" p0) [] [] p1) X.env p2 p6 = pure p6:=by
  unfold methodCallPos
  rw [hp26]
  rfl
 have hform : methodCallForm (([.Call (.Name "repr" p3) [.Name "value" p4] [] p5] : List Expr).length + ([] : List Keyword).length) (backTo p6 (starEach [.Call (.Name "repr" p3) [.Name "value" p4] [] p5] X.env)) (backToKw p6 (keywordEach [] X.env)) = true:=rfl
 refine ks_wpAt_MethodCall (pl:=(do return (← importBound (.Call (.Name "super" p0) [] [] p1) X.env).getD true)) ?_ (by
  rw [arm_eval_Call]
  unfold methodCall
  rw [hform,hpos]
  rfl)
 refine (ks_wpAt_super_base (f:=f) (fd:=F.fd doc pm ctv) (ar:=ar) ks kc (by decide) (by rw [hXe]) (KX _ _ lk) rfl hhd (by rw [hXe]) (KX _ _ lco) rfl hvs hfl htop ?_)
 refine PySem.W.ks_loadName_global hk ks (Calls.loadGlobal_builtin (by rw [I.ok.glob]; exact I.mod.glob.keeps I.bk) ms (by rw [I.ok.blt]; exact hb1.keeps I.bk) ((hb2 "super" (by decide)).trans PyProof.Rows.Boot.«super») ⟨rfl,?_⟩)
 refine wpAny_loadName_free hk kc hcl ⟨_,KX _ _ lc,rfl⟩ ?_
 rw [har]
 refine wpAny_loadName_local hk kse hns mself ?_
 refine ks_wpAny_isType_cls hD1 hD2 ⟨rfl,ZLn pre.su I pre.at_ fun so s2 hso I2=>?_⟩
 have a1 : upd H so (SupO so D a C) a = some (exo a C none):=Z5h hso _ _ pre.at_
 refine ZFl pre.su I2 a1 upd_same fun u s3 hu I3=>?_
 have a2:=Z5h (o:=MwO u a) hu _ _ a1
 have S2 : Same H (upd (upd H so (SupO so D a C)) u (MwO u a)):=(Z5h hso).trans (Z5h hu)
 have hrep : PE X (.Call (.Name "repr" p3) [.Name "value" p4] [] p5) _:=pe_callB (id:= "repr") (r:=fun xs H' Q=>∃ v,xs = [v] ∧ Z8h X.K H' v ∧ ∀ x,Q (.str x) H')
  (fun pins s σ H' xs us Q I r ⟨v,e,ok,q⟩=>by
   subst e
   exact ok X pins s σ H' us Q rfl (fun _ _ z=>z) hXg hXu I r q) kr mr PyProof.Rows.Boot.«repr» (pa_cons (pe_var (i:=1) (by rw [hN]; rfl) (.inl kv)) pa_nil)
 show wpAny (model X.prog X.w) X.A (callWith p6 (.ref u) [] ((false,eval (.Call (.Name "repr" p3) [.Name "value" p4] [] p5) X.env) :: backTo p6 (starEach [] X.env)) []) _ _ s3
 refine PySem.W.kxs_callWith (u:=u) (i:= "ValueError.__init__") (x:=a) rfl (Calls.evalArgs_plain ?_)
 refine thn ((pa_cons hrep pa_nil).run p6 [] s3 _ _ (fun us H'=>us.length ≤ 1 ∧ Same H H' ∧ H' a = some (exo a C none) ∧ H' u = some (MwO u a)) I3 ?_) fun us s4 hh=>?_
 ·exact ⟨v,rfl,⟨v,rfl,pre.rep.same S2,fun x=>⟨Nat.le_refl _,S2,a2,upd_same⟩⟩⟩
 ·obtain ⟨vs',H4,I4,r4,hl4,S4,a4,u4⟩:=hh
  have hu4 : s4.heap.get? u = some (PySem.W.kxs_mw "ValueError.__init__" a):=(show ObjOk X.prog X.w H4 s4.heap u (.ext fun h=>h.get? u = some (PySem.W.kxs_mw "ValueError.__init__" a)) from I4.hok u _ u4).1
  refine ⟨hu4,ZEl pre.ox I4 a4 u4 (by show us.length ≤ sizeLine; rw [← Paired.length r4,sizeLine_eq]; omega) fun s5 I5=>?_⟩
  refine wpAt_of_wpAny ?_
  refine (pss_one (ps_ost (f:= "value") (pe_var (i:=0) (by rw [hN]; rfl) (.inl kse)) (pe_var (i:=1) (by rw [hN]; rfl) (.inl kv)) rfl)).run [] s5 _ _ _ I5 ?_
  exact ⟨v,rfl,.ref a,rfl,a,C,rfl,pre.ox,pre.no,.inl ⟨a4,fun dx h1 h2=>post H4 dx S4 h1 h2⟩⟩
end
section
variable {CX : CXT} {P : Program} {w : World} {K : PySem.W.Frag} {mg : Str → Option Value} {base : Heap} {k : Nat} {f D : Addr} {F : NF} {doc pm ctv : Value}
theorem Z6i {cc : Addr} {y : Str} {c' : Addr} (e : ([(("__class__" : Str),cc)] : List (Str × Addr)).lookup y = some c') : y = "__class__" ∧ c' = cc:=by
 rw [List.lookup_cons] at e
 split at e
 ·rename_i q
  exact ⟨eq_of_beq q,(Option.some.inj e).symm⟩
 ·cases e
theorem Znn (U : InitF P K mg f D F doc pm ctv) {A : Around} {outer : List PySem.Env} {s : Shared} {H : Hp} {args : Args} {us : List Value} {a C : Addr} {v : V} {Q : VK} {E : XK} (hg : A.guards = some []) (hr : Room (k + 1) A)
  (e0 : Env0 P w K mg base A outer s H) (hb : BindsTo s (F.fd doc pm ctv) args (iP.zip us)) (r : Vals [.ref a,v] us) (pre : IPre K D H a C v)
  (post : ∀ H1 dx,Same H H1 → H1 dx = none → dx ≠ a → Q .non (upd (upd H1 dx (exd dx [(("value" : Str),v)])) a (exo a C (some dx)))) :
  codeAny (model P w) A (.call (.ref f) args) (CR CX outer P w H s Q E) s:=by
 obtain ⟨cc,ccl,ccld,ccsl,e1,lc⟩:=U.cell
 obtain ⟨oc,od,osl,lk⟩:=U.lk
 obtain ⟨p0,p1,p2,p3,p4,p5,p6,p7,p8,p9,p10,p11,e2,hp26⟩:=U.body
 have S:=U.sc
 have KB : ∀ b o,K.lookup b = some o → s.heap.get? b = some o ∧ H b = none:=fun b o e=>e0.bs b o (e0.mod.kin _ _ e)
 have KX : K.In s.heap:=e0.mod.kin.keeps fun b o e=>(e0.bs b o e).1
 have lim : s.heap.NoLimit:=e0.mod.nolimit.keeps fun b o e=>(e0.bs b o e).1
 refine codeAny_call_function hr.depth (KX _ _ lk) rfl S.co S.gen rfl (PySem.W.codeRec_of KX U.code) (hb _ _ _ _ ?_)
 refine wpAny_newFunctionEnv S.nocell (fun ⟨n,_⟩ hy=>S.par n (List.of_mem_zip hy).1) (fun h₁ hns hsb=>⟨lim.fresh _ hsb,?_⟩) S.kind
 show codeAny _ _ (.func F.body (envF F f s.heap.objs.size)) _ _
 refine ks_codeAny_funcAt ?_
 have kp : ∀ b o,s.heap.get? b = some o → h₁.get? b = some o:=fun b o e=>hsb.extBut b o (Nat.ne_of_lt (Heap.lt_size e)) (Heap.get?_push_of_some _ e)
 have CA : CellsAt F.cl iC [some (.ref D)] s.heap H:=by
  rw [e1]
  refine ⟨rfl,fun y c' e=>?_,fun x y c' e e'=>by rw [(Z6i e).1,(Z6i e').1],fun i y e=>?_⟩
  ·obtain ⟨_,rfl⟩:=Z6i e
   exact ⟨(KB _ _ lc).2,_,_,(KB _ _ lc).1,rfl⟩
  ·match i,e with
   | 0,e=>
    cases e
    exact ⟨cc,rfl,fun v e=>by
     cases e
     exact ⟨_,rfl,_,(KB _ _ lc).1,rfl⟩⟩
   | n + 1,e=>cases e
 have I : Inv (ncx CX P w K mg base iN F f A outer s H E) [] (startF iN [.ref a,v] [some (.ref D)]) H { s with heap:=h₁,toks:=s.toks + (iP.zip us).length }:=
  inv_startN (ps:=iP) (fr:=iC) S hr.hd e0 rfl r CA hns kp
 have room:=(hr.deeper (envF F f s.heap.objs.size)).un
 refine ks_wpAt_mono (Z8l (X:=ncx CX P w K mg base iN F f A outer s H E) U rfl rfl hg (by show (A.deeper (envF F f s.heap.objs.size)).units + 64 < cLine; omega) I pre post) (fun fl s' hs=>?_) fun e s' hs=>hs
 match fl,hs with
 | .ret u,⟨v,σ',H',J,rv,q⟩=>exact ⟨v,H',J.os,J.bare,J.base,J.hok,rv,q⟩
 | .next,⟨σ',H',J,q⟩=>exact ⟨.non,H',J.os,J.bare,J.base,J.hok,rfl,q⟩
 | .brk,⟨_,_,_,q⟩=>exact q.elim
 | .cont,⟨_,_,_,q⟩=>exact q.elim
end
end Ev
end
section
namespace Ev
open PySem PySem.Spec PyProof.Rows L2 NdefX
structure MkX (K : PySem.W.Frag) (D C f : Addr) : Prop where
 su : SuC K D C
 ox : OexC K C
 no : PySem.W.findIn K (.ref C) "value" = some none
 init : PySem.W.findIn K (.ref C) "__init__" = some (some (.ref f))
 fn : PySem.W.typeIn K (.ref f) = some (.type "function")
def exq (a C : Addr) (d : Option Addr) : HO:=.ext fun h=>∃ (ob : Obj) (vs : Array Value),h.get? a = some ob ∧ ob.cls = .ref C ∧ ob.dict = d ∧ ob.data = .fields vs
def Z7h (H : Hp) (a C : Addr) (v : V) : Prop:=∃ dx,(H a = some (exo a C (some dx)) ∨ H a = some (exq a C (some dx))) ∧ H dx = some (exd dx [(("value" : Str),v)])
theorem Z7h.same {H H' : Hp} {a C : Addr} {v : V} (h : Z7h H a C v) (s : Same H H') : Z7h H' a C v:=
 let ⟨dx,h1,h2⟩:=h
 ⟨dx,h1.imp (s _ _) (s _ _),s _ _ h2⟩
def ZLl (H1 H2 : Hp) (a C : Addr) (v : V) : Prop:=∃ dx,H1 dx = none ∧ H2 a = some (exo a C (some dx)) ∧ H2 dx = some (exd dx [(("value" : Str),v)])
def Zbq (X : Cx) (C : Addr) (te : TE) : TE:=fun σ H Q=>te σ H fun v H1=>Z8h X.K H1 v ∧ ∀ a H2,(X.ex = [] → X.s_0.heap.get? a = none) → H1 a = none → Same H1 H2 → ZLl H1 H2 a C v → Q (.ref a) H2
section
variable {X : Cx} {k : Nat} {f D C : Addr} {Fi : NF} {doc pm ctv : Value} {x : Str} {e : Expr} {te : TE} {p pos : Pos}
theorem ZIo (U : InitF X.prog X.K X.mg f D Fi doc pm ctv) (T : MkX X.K D C f) (hb : Binds X.K (Fi.fd doc pm ctv) iP []) (hg : X.A.guards = some []) (hr : Room (k + 2) X.A) (hgl : Gl X x) (hm : X.mg x = some (.ref C)) (he : PE X e te)
  (hs : starEach [e] X.env = (false,eval e X.env) :: starEach [] X.env:=by rfl) (hdb : (x == ("__debug__" : Str)) = false:=by decide) : PE X (.Call (.Name x p) [e] [] pos) (Zbq X C te):=by
 refine ⟨fun pins s σ H Q I h=>?_⟩
 obtain ⟨nm,q,N,bs,bm,sn,sub,ab,col,dd,k0,k1,k2,k3,k5,hC,hbm⟩:=T.ox.cls
 refine wpAny_Call_Name_kw (ld_glob I hgl hm ?_ hdb)
 refine PySem.W.callWith_K (h₀:=X.base) I.ok.mod.kin T.ox.kC (thn ((pa_cons he pa_nil hs).run pos pins s σ H (fun vs H1=>match vs with
  | [v]=>Z8h X.K H1 v ∧ ∀ a H2,(X.ex = [] → X.s_0.heap.get? a = none) → H1 a = none → Same H1 H2 → ZLl H1 H2 a C v → Q (.ref a) H2
  | _=>False) I h) fun us s1 ⟨vs,H1,I1,r1,z⟩=>⟨I1.kIn,?_⟩) hs rfl
 match vs,r1,z with
 | [],_,z=>exact z.elim
 | _ :: _ :: _,_,z=>exact z.elim
 | [v],r1,⟨rep,q1⟩=>
  show wpAny _ _ (call (.ref C) us) _ _ _
  have old : ∀ b,s1.heap.objs.size ≤ b → X.ex = [] → X.s_0.heap.get? b = none:=fun b hb hx=>by
   cases q : X.s_0.heap.get? b with
   | none=>rfl
   | some o=>
    obtain ⟨o',e'⟩:=I1.base.there b o q (by rw [hx]; exact nofun)
    exact absurd (Heap.lt_size e') (Nat.not_lt.mpr hb)
  obtain ⟨hp,g,dr,tk,os⟩:=s1
  have hsz : hp.objs.size ≤ hp.objs.size + 1:=Nat.le_succ _
  have hn : H1 (hp.objs.size + 1) = none:=I1.hok.fresh hsz
  have kk : ∀ b o,hp.get? b = some o → ((hp.push (PySem.W.kdv_tup us)).push (PySem.HandSPX.excO C hp.objs.size)).get? b = some o:=fun b o e=>Heap.get?_push_of_some _ (Heap.get?_push_of_some _ e)
  have hget : ((hp.push (PySem.W.kdv_tup us)).push (PySem.HandSPX.excO C hp.objs.size)).get? (hp.objs.size + 1) = some (PySem.HandSPX.excO C hp.objs.size):=by heap_get
  have I2 : Inv X pins σ (upd H1 (hp.objs.size + 1) (exo (hp.objs.size + 1) C none)) ⟨(hp.push (PySem.W.kdv_tup us)).push (PySem.HandSPX.excO C hp.objs.size),g,dr,tk,os⟩:=
   I1.laid (t':=tk) (a:=hp.objs.size + 1) (o:=exo (hp.objs.size + 1) C none) (h':=(hp.push (PySem.W.kdv_tup us)).push (PySem.HandSPX.excO C hp.objs.size)) kk hsz (exo_ok hget)
  have r2 : Vals [V.ref (hp.objs.size + 1),v] (Value.ref (hp.objs.size + 1) :: us):=.cons rfl r1
  have hus : us.length ≤ sizeLine:=by
   rw [← Paired.length r1,sizeLine_eq]
   show 1 ≤ _
   omega
  have hl : (Value.ref (hp.objs.size + 1) :: us ++ []).length = iP.length:=by
   rw [List.append_nil,← r2.length] <;> rfl
  have bound:=hb _ (Value.ref (hp.objs.size + 1) :: us) I2.kIn hl
  rw [List.append_nil] at bound
  have S1 : Same H1 (upd H1 (hp.objs.size + 1) (exo (hp.objs.size + 1) C none)):=Z5h hn
  refine wpAny_call (PySem.HandSPX.call_own F.excBase_ValueError (fun Y=>PySem.HandSPX.refsVE_contains Y bm hbm) (I1.kIn _ _ hC) (PySem.W.looks_findIn I1.kIn T.init) (fun self=>PySem.W.bind_fn I1.kIn self T.fn) hus
   (codeAny_mono (Znn (CX:=CX0) (k:=k) (E:=E0) (Q:=fun v' H2=>v' = .non ∧ H1 (hp.objs.size + 1) = none ∧ Same H1 H2 ∧ ZLl H1 H2 (hp.objs.size + 1) C v) U (by first | exact hg | (show (X.A.under _).guards = _; exact hg)) (hr.make C us []) (I2.env0.make C us []) bound r2
    ⟨upd_same,T.su,T.ox,T.no,rep.same S1⟩ (fun Hn dx hs hd hda=>⟨rfl,hn,?_,dx,(S1.trans hs).free hd,upd_same,by rw [upd_ne hda]; exact upd_same⟩)) fun r s' hq'=>?_))
  ·intro b o eb
   have ne1 : b ≠ hp.objs.size + 1:=fun z=>by rw [z,hn] at eb; cases eb
   have eb2:=hs _ _ (S1 _ _ eb)
   rw [upd_ne ne1,upd_ne (fun z=>by rw [z,hd] at eb2; cases eb2)]
   exact eb2
  ·match r,hq' with
   | .error _,bad=>exact bad.elim
   | .ok (.ret u),ok=>
    obtain ⟨v',H2,J,rv,ev,h0,hs,ha⟩:=I2.after ok
    subst ev
    exact ⟨rv,.ref _,H2,J,rfl,q1 _ H2 (old _ hsz) h0 hs ha⟩
   | .ok .next,bad=>exact bad.elim
   | .ok .brk,bad=>exact bad.elim
   | .ok .cont,bad=>exact bad.elim
end
def Zdq (K : PySem.W.Frag) (te : TE) : TE:=fun σ H Q=>te σ H fun x H1=>∃ (a C : Addr) (v : V),x = .ref a ∧ Z7h H1 a C v ∧ XfC K C ∧ PySem.W.findIn K (.ref C) "value" = some none ∧ Q v H1
def rIsX (K : PySem.W.Frag) : List V → Hp → VK → Prop:=fun xs H Q=>∃ (a C : Addr) (v c : V) (cv : Value) (b : Bool),xs = [.ref a,c] ∧ Z7h H a C v ∧ ExcC K C ∧ (∀ u,RelV c u → u = cv) ∧ PySem.W.kitOne K (.ref C) cv = some b ∧ Q (.bl b) H
section
variable {X : Cx} {e : Expr} {te : TE} {pos : Pos}
theorem ZRk {pins : List (Addr × Obj)} {σ : L2.St} {H : Hp} {s : Shared} {a C : Addr} {v : V} (I : Inv X pins σ H s) (h : Z7h H a C v) : ∃ (oe od : Obj) (mA : Str → Option Value),PySem.W.InstAt s.heap a oe C (some od) ∧
  (∀ f,PySem.W.lookIn f od = some (mA f)) ∧ ∀ f,RelO ([(("value" : Str),v)].lookup f) (mA f):=by
 obtain ⟨dx,h1,h2⟩:=h
 obtain ⟨mA,hns,hr⟩:=exd_at I.hok h2
 obtain ⟨od,hd,hl⟩:=lookIn_ns hns
 rcases h1 with h1 | h1
 ·obtain ⟨t1,ho⟩:=exo_at I.hok h1
  exact ⟨_,od,mA,⟨ho,rfl,rfl,hd⟩,hl,hr⟩
 ·obtain ⟨⟨ob,vs,ho,c1,c2,c3⟩,_⟩:=(show ObjOk X.prog X.w H s.heap a (exq a C (some dx)) from I.hok a _ h1)
  obtain ⟨ocl,odi,oda,osl⟩:=ob
  cases c1
  cases c2
  cases c3
  exact ⟨_,od,mA,⟨ho,rfl,rfl,hd⟩,hl,hr⟩
theorem ZLo (he : PE X e te) (hb : attributeBase e "value" X.env (eval e X.env) = eval e X.env:=by rfl) : PE X (.Attribute e "value" pos) (Zdq X.K te):=by
 refine ⟨fun pins s σ H Q I h=>?_⟩
 refine attr_of hb (thn (he.run pins s σ H _ I h) fun u s1 hh=>?_)
 obtain ⟨x,H1,I1,rx,a,C,v,ex,ea,T,hno,q⟩:=hh
 subst ex
 obtain rfl : u = Value.ref a:=rx
 obtain ⟨oe,od,mA,J,hl,hr⟩:=ZRk I1 ea
 obtain ⟨u,hu,ru⟩:=RelO.some_of (v:=v) (o:=mA "value") (by
  have z:=hr "value"
  exact z)
 exact HandSPX.exc_get I1.kIn J T.ga T.gg T.exC (PySem.W.findObj_own T.hdC hno rfl (by rw [hl,hu])) (handed_of ru) ⟨v,H1,I1.tok _,ru,q⟩
theorem Z5m : CallR X (.builtin "isinstance") (rIsX X.K):=by
 intro pins s σ H xs us Q I r h
 obtain ⟨a,C,v,c,cv,b,rfl,ea,T,hcv,e,q⟩:=h
 obtain ⟨oe,od,mA,J,hl,hr⟩:=ZRk I ea
 obtain ⟨u1,u2,rfl,r1,r2⟩:=vals2 r
 have e2:=hcv _ r2
 subst e2
 obtain rfl : u1 = Value.ref a:=r1
 have hcl : (PySem.W.clsIn X.K C).isSome = true:=by
  obtain ⟨cd,hc,_⟩:=PySem.W.any_some T.hd
  rw [hc]
  rfl
 exact PySem.W.kia_one (PySem.W.kitx_exc hcl T.hg T.hk T.hs T.ha T.hn T.ht T.hm) I.kIn J e (fun z=>nomatch z) fun tk=>⟨.bl b,H,I.tok tk,rfl,q⟩
end
end Ev
end
section
namespace Ev
open PySem PyProof.Rows L2
structure LoopM where
 name : Str
 length : Nat
 span : Nat
 then_ : Str
 places : List (List Str)
structure TrackM where
 name : Str
 loops : List LoopM
structure ButtonM where
 name : Str
 quantum : Nat
 deeds : List (Str × Str × Str)
structure BoardM where
 tracks : List TrackM
 buttons : List ButtonM
 bar : Nat
abbrev Zth : List Nat:=(("abcdefghijklmnopqrstuvwxyz" : Str)).cps.toList
abbrev Zog : List Nat:=(("0123456789" : Str)).cps.toList
def Zq (s : Str) : Bool:=decide (1 ≤ s.length) && decide (s.length ≤ 8) && s.cps.toList.all fun c=>decide (c ∈ Zth)
def ascB {α : Type} (lt : α → α → Bool) (l : List α) : Bool:=(l.zip (l.drop 1)).all fun p=>lt p.1 p.2
def ltI (a b : Int) : Bool:=decide (a < b)
def ltS (a b : Str) : Bool:=decide (a.cps.toList < b.cps.toList)
def figW (s : Str) : Bool:=decide (1 ≤ s.length) && decide (s.length ≤ 9) && s.cps.toList.all fun c=>decide (c ∈ Zog)
def Zs (s : Str) : Int:=if figW s = true ∧ (s.cps.toList = [48] ∨ s.cps.toList.head? ≠ some 48) then ((PySem.NumText.digitsVal s.cps.toList : Nat) : Int) else -1
def ZUj (x : Str) : Prop:=x.length ≤ 100000
def Z3g (n : Nat) : Str:=⟨(List.replicate n 32).toArray⟩
def sB : Str:= " "
def Zp (l : Str) (n : Nat) : Option (List Str):=
 if cutS l none (some (n : Int)) = Z3g n ∧ ("" : Str) ∉ Txt.split (cutS l (some (n : Int)) none) sB then some (Txt.split (cutS l (some (n : Int)) none) sB) else none
def rowW (rest : List Str) (n : Nat) : Option (List Str):=match rest with
 | []=>none
 | l :: _=>Zp l n
def Zdb (rest : List Str) (n : Nat) (h : Str) : Option (List Str):=match rowW rest n with
 | some (w :: r)=>if w = h then some (w :: r) else none
 | _=>none
inductive LoopW : List Str → LoopM → Prop
 | lasts {w nm ln : Str} {n : Nat} : Zq nm = true → Zs ln = (n : Int) → 1 ≤ n → n ≤ 6 → LoopW [w,nm,ln, "lasts"] ⟨nm,n,0, "",List.replicate n []⟩
 | ends {w nm ln rd : Str} {n r : Nat} : Zq nm = true → Zs ln = (n : Int) → 1 ≤ n → n ≤ 6 → Zs rd = (r : Int) → 1 ≤ r → r ≤ 3 → LoopW [w,nm,ln, "ends",rd] ⟨nm,n,r * n, "",List.replicate n []⟩
 | goes {w nm ln th rd : Str} {n r : Nat} : Zq nm = true → Zs ln = (n : Int) → 1 ≤ n → n ≤ 6 → Zq th = true → Zs rd = (r : Int) → 1 ≤ r → r ≤ 3 → LoopW [w,nm,ln, "goes",th,rd] ⟨nm,n,r * n,th,List.replicate n []⟩
inductive PlacesR (len : Nat) : Int → List (List Str) → List Str → List (List Str) → List Str → Prop
 | stop {last pl rest} : rowW rest 4 = none → PlacesR len last pl rest pl rest
 | step {last : Int} {pl l r pl' rest'} {w : Str} {ss : List Str} {n : Nat} : Zp l 4 = some (w :: ss) → Zs w = (n : Int) → last < (n : Int) → n < len → 1 ≤ ss.length → ss.length ≤ 3 → (∀ s ∈ ss,Zq s = true) → ascB ltS ss = true →
   PlacesR len (n : Int) (pl.set n ss) r pl' rest' → PlacesR len last pl (l :: r) pl' rest'
inductive LoopsR : List LoopM → List Str → List LoopM → List Str → Prop
 | stop {ls rest} : Zdb rest 2 "loop" = none → LoopsR ls rest ls rest
 | step {ls l r ws L pl rest1 ls' rest'} : Zdb (l :: r) 2 "loop" = some ws → LoopW ws L → L.name ∉ ls.map (·.name) → ls.length < 3 → PlacesR L.length (-1) L.places r pl rest1 →
   LoopsR (ls ++ [{ L with places:=pl }]) rest1 ls' rest' → LoopsR ls (l :: r) ls' rest'
inductive TracksR : List TrackM → List Str → List TrackM → List Str → Prop
 | stop {ts rest} : Zdb rest 0 "track" = none → TracksR ts rest ts rest
 | step {ts l r loops rest1 ts' rest'} {w nm : Str} : Zdb (l :: r) 0 "track" = some [w,nm] → Zq nm = true → nm ∉ ts.map (·.name) → ts.length < 4 → LoopsR [] r loops rest1 → loops ≠ [] →
   TracksR (ts ++ [⟨nm,loops⟩]) rest1 ts' rest' → TracksR ts (l :: r) ts' rest'
def ZVc (left : List Str) (t : Str) : List Str:=left.drop (left.idxOf t + 1)
inductive DeedW (ts : List TrackM) : List Str → Str × Str × Str → Prop
 | stops {t : Str} : DeedW ts [t, "stops"] (t, "stops", "")
 | begins {t w lp : Str} {tm : TrackM} : w = "plays" ∨ w = "keeps" → tm ∈ ts → tm.name = t → lp ∈ tm.loops.map (·.name) → DeedW ts [t,w,lp] (t,w,lp)
inductive DeedsR (ts : List TrackM) : List Str → List (Str × Str × Str) → List Str → List (Str × Str × Str) → List Str → Prop
 | stop {left ds rest} : rowW rest 2 = none → DeedsR ts left ds rest ds rest
 | step {left ds l r row d ds' rest'} : Zp l 2 = some row → DeedW ts row d → d.1 ∈ left → DeedsR ts (ZVc left d.1) (ds ++ [d]) r ds' rest' → DeedsR ts left ds (l :: r) ds' rest'
inductive ButtonsR (ts : List TrackM) : List ButtonM → Nat → List Str → List ButtonM → Nat → List Str → Prop
 | stop {bs bar rest} : Zdb rest 0 "button" = none → ButtonsR ts bs bar rest bs bar rest
 | step {bs bar l r ds rest1 bs' bar' rest'} {w nm qw : Str} {q : Nat} : Zdb (l :: r) 0 "button" = some [w,nm, "every",qw] → Zq nm = true → Zs qw = (q : Int) → 1 ≤ q → q ≤ 12 → nm ∉ bs.map (·.name) → bs.length < 5 →
   Nat.lcm bar q ≤ 12 → DeedsR ts (ts.map (·.name)) [] r ds rest1 → ButtonsR ts (bs ++ [⟨nm,q,ds⟩]) (Nat.lcm bar q) rest1 bs' bar' rest' → ButtonsR ts bs bar (l :: r) bs' bar' rest'
structure BoardR (lines : List Str) (B : BoardM) : Prop where
 tr : ∃ rest,Zdb lines 0 "track" ≠ none ∧ TracksR [] lines B.tracks rest ∧ Zdb rest 0 "button" ≠ none ∧ ButtonsR B.tracks [] 1 rest B.buttons B.bar []
 th : ∀ t ∈ B.tracks,∀ L ∈ t.loops,L.then_ ≠ "" → L.then_ ∈ t.loops.map (·.name)
end Ev
end
section
namespace Ev
open PySem PySem.Spec PyProof.Rows L2
section
variable {α : Type}
def kvN (nm : α → Str) (xs : List α) (as : List Addr) : List (Key × V):=(xs.zip as).map fun p=>(Sum.inr (nm p.1),V.ref p.2)
theorem Zsh {nm : α → Str} {xs : List α} {as : List Addr} (h : as.length = xs.length) (x : α) (a : Addr) : kvN nm (xs ++ [x]) (as ++ [a]) = kvN nm xs as ++ [(Sum.inr (nm x),V.ref a)]:=by
 unfold kvN
 rw [List.zip_append h.symm,List.map_append]
 rfl
theorem ZWc {nm : α → Str} {xs : List α} {as : List Addr} (h : as.length = xs.length) : (kvN nm xs as).length = xs.length:=by
 simp [kvN,h]
theorem Zxd {nm : α → Str} {n : Str} : ∀ {xs : List α} {as : List Addr},n ∉ xs.map nm → valV (kvN nm xs as) (Sum.inr n) = none
 | [],_,_=>rfl
 | _ :: _,[],_=>rfl
 | x :: xs,a :: as,h=>by
  have h1 : nm x ≠ n:=fun e=>h (by simp [e])
  have h2 : n ∉ xs.map nm:=fun e=>h (by simp [e])
  exact (valV_neg (p:=(Sum.inr (nm x),V.ref a)) (fun e=>h1 (Sum.inr.inj e))).trans (Zxd h2)
theorem ZTm {nm : α → Str} : ∀ {xs : List α} {as : List Addr} {i : Nat} {x : α} {a : Addr},(xs.map nm).Nodup → xs[i]? = some x → as[i]? = some a → valV (kvN nm xs as) (Sum.inr (nm x)) = some (.ref a)
 | x :: xs,a :: as,0,_,_,_,e1,e2=>by
  cases e1
  cases e2
  exact valV_pos (p:=(Sum.inr (nm x),V.ref a)) rfl
 | y :: xs,b :: as,i + 1,x,a,nd,e1,e2=>by
  have hx : x ∈ xs:=List.mem_of_getElem? (by simpa using e1)
  have ne : nm y ≠ nm x:=fun e=>(List.nodup_cons.mp nd).1 (by rw [e]; exact List.mem_map_of_mem hx)
  refine (valV_neg (p:=(Sum.inr (nm y),V.ref b)) (fun e=>ne (Sum.inr.inj e))).trans ?_
  exact ZTm (i:=i) (List.nodup_cons.mp nd).2 (by simpa using e1) (by simpa using e2)
theorem Zxh {kvs : List (Key × V)} {k : Key} {v : V} (h : valV kvs k = none) : putK kvs k v = kvs ++ [(k,v)]:=by
 unfold putK
 rw [valV_any,h]
 rfl
end
def ZCf : HO → Bool
 | .tup _=>true
 | .frz _ (.tup _)=>true
 | _=>false
def NT (S : List Addr) (H : Hp) : Prop:=∀ s ∈ S,∀ u,H s = some u → ZCf u = false
section
variable {K : PySem.W.Frag} {H H' : Hp} {S : List Addr}
theorem ZFn {a : Addr} {xs : List V} (k : Keep S H H') (nt : NT S H) (h : SqT K H a xs) : SqT K H' a xs:=by
 rcases h with (h | ⟨o,h⟩) | h
 ·exact .inl (.inl (k _ _ h fun q=>nomatch (nt _ q _ h)))
 ·exact .inl (.inr ⟨o,k _ _ h fun q=>nomatch (nt _ q _ h)⟩)
 ·exact .inr h
mutual
theorem ZJh (k : Keep S H H') (nt : NT S H) : ∀ {v : V} {d : PyData},Dp K H v d → noL d = true → Dp K H' v d
 | _,_,.non,_=>.non
 | _,_,.bl b,_=>.bl b
 | _,_,.int i,_=>.int i
 | _,_,.str x,_=>.str x
 | _,_,.lst h t,q=>by cases q
 | _,_,.tup h t,q=>.tup (ZFn k nt h) (dpAll_keep k nt t q)
theorem dpAll_keep (k : Keep S H H') (nt : NT S H) : ∀ {vs : List V} {ds : List PyData},DpAll K H vs ds → noLs ds = true → DpAll K H' vs ds
 | _,_,.nil,_=>.nil
 | _,_,.cons h t,q=>by
  have q' : (noL _ && noLs _) = true:=q
  rw [Bool.and_eq_true] at q'
  exact .cons (ZJh k nt h q'.1) (dpAll_keep k nt t q'.2)
end
end
theorem ZHc {α : Type} {f : α → PyData} (h : ∀ x,noL (f x) = true) : ∀ l : List α,noLs (l.map f) = true
 | []=>rfl
 | a :: l=>by
  show (noL (f a) && noLs (l.map f)) = true
  rw [h a,ZHc h l]
  rfl
def Zzi (p : List Str) : PyData:=.tuple (p.map .str)
theorem Z2c (p : List Str) : noL (Zzi p) = true:=ZHc (fun _=>rfl) p
theorem Zkl (n : Nat) : repS sB n = Z3g n:=by
 show (⟨(List.replicate n [32]).flatten.toArray⟩ : Str) = ⟨(List.replicate n 32).toArray⟩
 congr 2
 induction n with
 | zero=>rfl
 | succ n ih=>rw [List.replicate_succ,List.replicate_succ,List.flatten_cons,ih]; rfl
theorem Zsi (n : Nat) : (Z3g n).length = n:=by simp [Z3g,Str.length]
theorem ZPl (z : Str) (lo hi : Option Int) : (cutS z lo hi).length ≤ z.length:=by
 show (List.toArray _).size ≤ z.cps.size
 simp only [List.size_toArray,List.length_take,List.length_drop,Array.length_toList]
 omega
def ZIk (lines : List Str) : Prop:=lines.length ≤ 50000 ∧ ∀ l ∈ lines,l.length ≤ 50000
def Zpi (ws : List Str) : Prop:=ws.length ≤ 100000 ∧ ∀ w ∈ ws,ZUj w
theorem Z3j {l : Str} {n : Nat} {ws : List Str} (h : Zp l n = some ws) : ws = Txt.split (cutS l (some (n : Int)) none) sB:=by
 unfold Zp at h
 split at h
 ·exact (Option.some.inj h).symm
 ·cases h
theorem ZJc {l : Str} {n : Nat} {ws : List Str} (h : Zp l n = some ws) (hl : l.length ≤ 50000) : Zpi ws ∧ 1 ≤ ws.length:=by
 have e:=Z3j h
 have hc:=ZPl l (some (n : Int)) none
 refine ⟨⟨?_,fun w hw=>?_⟩,?_⟩
 ·have:=split_le (cutS l (some (n : Int)) none) sB
  rw [← e] at this
  omega
 ·rw [e] at hw
  have:=part_short hw
  show w.length ≤ 100000
  omega
 ·have:=split_pos (cutS l (some (n : Int)) none) sB
  rw [← e] at this
  exact this
theorem Z2e {lines pre rest : List Str} {n : Nat} {ws : List Str} (h : rowW rest n = some ws) (e : lines = pre ++ rest) (hl : ZIk lines) : Zpi ws ∧ 1 ≤ ws.length:=by
 cases rest with
 | nil=>cases h
 | cons l r=>exact ZJc h (hl.2 l (by rw [e]; simp))
theorem ZOh {rest : List Str} {n : Nat} {hd : Str} {ws : List Str} (h : Zdb rest n hd = some ws) : rowW rest n = some ws ∧ ∃ r,ws = hd :: r:=by
 unfold Zdb at h
 split at h
 ·rename_i w r e
  split at h
  ·rename_i ew
   subst ew
   cases h
   exact ⟨e,r,rfl⟩
  ·cases h
 ·cases h
def rowQ (o : Option (List Str)) (H : Hp) (Q : VK) : Prop:=match o with
 | none=>∀ H',Same H H' → Q .non H'
 | some ws=>∀ H' p,Same H H' → H p = none → H' p = some (.lst (ws.map V.str)) → Q (.ref p) H'
theorem ZTi (x : Str) (ws : List Str) : inV (.str x) (ws.map V.str) = decide (x ∈ ws):=by
 unfold inV
 induction ws with
 | nil=>rfl
 | cons w ws ih=>
  rw [List.map_cons,List.any_cons,ih]
  have : eqV (V.str w) (V.str x) = decide (w = x):=by
   first | rfl | (show (w == x) = _; rw [Bool.eq_iff_iff]; simp)
  rw [this]
  by_cases h : w = x
  ·simp [h]
  ·simp [h,Ne.symm h,fun e : x = w=>h e.symm]
theorem Zpg (ws : List Str) : (ws.map V.str).all flatV = true:=by
 rw [List.all_map]
 exact List.all_eq_true.mpr fun _ _=>rfl
theorem Znc {H1 H' : Hp} {C x dx : Addr} (nx : H1 x = none) (ndx : H1 dx = none) (k : Keep [x] (upd (upd H1 dx (.own x)) x (.ins C dx [])) H') : Same H1 H':=fun b o e=>by
 have n1 : b ≠ x:=ne_of_none e nx
 have n2 : b ≠ dx:=ne_of_none e ndx
 refine k b o ?_ (by simp [n1])
 rw [upd_ne n1,upd_ne n2]
 exact e
theorem Keep.put1 {a : Addr} {u : HO} {H H1 : Hp} (k : Keep [a] H H1) : Keep [a] H (upd H1 a u):=k.put (by simp)
theorem Keep.putN {S : List Addr} {a : Addr} {u : HO} {H H1 : Hp} (k : Keep S H H1) (n : H a = none) : Keep S H (upd H1 a u):=fun b o h ns=>by
 rw [upd_ne (ne_of_none h n)]
 exact k b o h ns
theorem Keep.free {S : List Addr} {p : Addr} {H H1 : Hp} (k : Keep S H H1) (hp : H1 p = none) (ns : p ∉ S) : H p = none:=by
 cases e : H p with
 | none=>rfl
 | some o=>rw [k p o e ns] at hp; cases hp
theorem Keep.but {S : List Addr} {a : Addr} {H H1 H2 : Hp} (k : Keep S H H1) (h : But a H1 H2) (ha : a ∈ S) : Keep S H H2:=k.trans (h.keep ha)
theorem Keep.isSome {S : List Addr} {H H1 : Hp} (k : Keep S H H1) : Keep S H H1:=k
theorem Zzn {α : Type} (n : Nat) (x : α) : (List.replicate n [x]).flatten = List.replicate n x:=by
 induction n with
 | zero=>rfl
 | succ n ih=>rw [List.replicate_succ,List.flatten_cons,ih]; rfl
theorem ZAj {K : PySem.W.Frag} {H : Hp} {v : V} {d : PyData} (h : Dp K H v d) : ∀ n : Nat,DpAll K H (List.replicate n v) (List.replicate n d)
 | 0=>.nil
 | n + 1=>.cons h (ZAj h n)
theorem ZBj {K : PySem.W.Frag} {H : Hp} {v : V} {d : PyData} (h : Dp K H v d) : ∀ {vs : List V} {ds : List PyData} (i : Nat),DpAll K H vs ds → DpAll K H (vs.set i v) (ds.set i d)
 | _,_,_,.nil=>.nil
 | _,_,0,.cons _ t=>.cons h t
 | _,_,i + 1,.cons a t=>.cons a (ZBj h i t)
def Z4d (H : Hp) (xs : List V) (ps : List (Addr × Str)) : Prop:=∀ x ∈ xs,∃ (tp : Addr) (n : Int) (t : Addr) (nm : Str),x = .ref tp ∧ H tp = some (.tup [.int n,.ref t,.str nm]) ∧ (t,nm) ∈ ps ∧ nm ≠ ""
theorem Z4d.keep {S : List Addr} {H H' : Hp} {xs : List V} {ps : List (Addr × Str)} (h : Z4d H xs ps) (k : Keep S H H') (nt : NT S H) : Z4d H' xs ps:=fun x hx=>by
 obtain ⟨tp,n,t,nm,e,e1,e2⟩:=h x hx
 exact ⟨tp,n,t,nm,e,k _ _ e1 (fun q=>nomatch (nt _ q _ e1)),e2⟩
theorem Z4d.same {H H' : Hp} {xs : List V} {ps : List (Addr × Str)} (h : Z4d H xs ps) (s : Same H H') : Z4d H' xs ps:=fun x hx=>by
 obtain ⟨tp,n,t,nm,e,e1,e2⟩:=h x hx
 exact ⟨tp,n,t,nm,e,s _ _ e1,e2⟩
theorem Z4d.sub {H : Hp} {xs : List V} {ps qs : List (Addr × Str)} (h : Z4d H xs ps) (k : ∀ p ∈ ps,p ∈ qs) : Z4d H xs qs:=fun x hx=>by
 obtain ⟨tp,n,t,nm,e,e1,e2,e3⟩:=h x hx
 exact ⟨tp,n,t,nm,e,e1,k _ e2,e3⟩
theorem Z4d.snoc {H : Hp} {xs : List V} {ps : List (Addr × Str)} {tp t : Addr} {n : Int} {nm : Str} (h : Z4d H xs ps) (e : H tp = some (.tup [.int n,.ref t,.str nm])) (ne : nm ≠ "") : Z4d H (xs ++ [.ref tp]) ((t,nm) :: ps):=fun x hx=>by
 rcases List.mem_append.mp hx with hx | hx
 ·obtain ⟨tp,n,t,nm,e,e1,e2,e3⟩:=h x hx
  exact ⟨tp,n,t,nm,e,e1,List.mem_cons_of_mem _ e2,e3⟩
 ·rw [List.mem_singleton] at hx
  exact ⟨tp,n,t,nm,hx,e,List.mem_cons_self,ne⟩
theorem LoopW.facts {ws : List Str} {L : LoopM} (h : LoopW ws L) : Zq L.name = true ∧ 1 ≤ L.length ∧ L.length ≤ 6 ∧ L.places.length = L.length ∧ L.span ≤ 18:=by
 cases h with
 | lasts a b c d=>exact ⟨a,c,d,by simp,by simp⟩
 | @ends w nm ln rd n r a b c d e f g=>exact ⟨a,c,d,by simp,Nat.le_trans (Nat.mul_le_mul g d) (by decide)⟩
 | @goes w nm ln th rd n r a b c d e f g i=>exact ⟨a,c,d,by simp,Nat.le_trans (Nat.mul_le_mul i d) (by decide)⟩
theorem Zhp {C C' dx dx' : Addr} {fs gs : List (Str × V)} (h : fs.map (·.1) ≠ gs.map (·.1)) : HO.ins C dx fs ≠ HO.ins C' dx' gs:=fun e=>by
 injection e with _ _ e
 exact h (by rw [e])
theorem AtO.put {C a b : Addr} {α : Type} {fs : α → List (Str × V)} {o : α} {H : Hp} {u : HO} (h : AtO C fs H a o) (n : a ≠ b) : AtO C fs (upd H b u) a o:=let ⟨dx,e⟩:=h; ⟨dx,by rw [upd_ne n]; exact e⟩
theorem AtO.but {C a b : Addr} {α : Type} {fs : α → List (Str × V)} {o : α} {H H' : Hp} (h : AtO C fs H a o) (k : But b H H') (n : a ≠ b) : AtO C fs H' a o:=let ⟨dx,e⟩:=h; ⟨dx,by rw [k.off a n]; exact e⟩
theorem ZY {H : Hp} {a b : Addr} {o u : HO} (h : H b = some o) (n : b ≠ a) : upd H a u b = some o:=by rw [upd_ne n]; exact h
theorem Keep.transN {S S' : List Addr} {H H1 H2 : Hp} (k : Keep S H H1) (k' : Keep S' H1 H2) (h : ∀ s ∈ S',s ∈ S ∨ H s = none) : Keep S H H2:=fun b o e n=>k' b o (k b o e n) fun q=>by
 rcases h b q with h | h
 ·exact n h
 ·rw [e] at h; cases h
theorem Same.none {H H' : Hp} {a : Addr} (h : H' a = none) (s : Same H H') : H a = none:=s.free h
end Ev
end
section
namespace Ev
open PySem PySem.Spec PyProof.Rows L2
def ZC (G G' : Hp) : Prop:=∀ a u,G a = some u → G' a = some u ∨ ∃ kvs ob,u = .dK kvs ∧ G' a = some (.frz ob (.dK kvs))
theorem _root_.L2.DGet.rd {H : Hp} {a : Addr} {kvs : List (Key × V)} {k : Key} (e : Rd H a (.dK kvs)) : DGet H a (kV k) (valV kvs k):=.inl ⟨kvs,k,e,rfl,rfl⟩
theorem ZC.refl {G : Hp} : ZC G G:=fun _ _ h=>.inl h
theorem _root_.L2.Same.r {G G' : Hp} (s : Same G G') : ZC G G':=fun _ _ h=>.inl (s _ _ h)
theorem ZC.trans {G G1 G2 : Hp} (s : ZC G G1) (t : ZC G1 G2) : ZC G G2:=fun a u h=>by
 rcases s a u h with h1 | ⟨kvs,ob,e1,h1⟩
 ·exact t a u h1
 ·rcases t a _ h1 with h2 | ⟨_,_,e,_⟩
  ·exact .inr ⟨kvs,ob,e1,h2⟩
  ·cases e
theorem ZC.at {G G' : Hp} (s : ZC G G') {a : Addr} {u : HO} (h : G a = some u) (n : ∀ kvs,u ≠ .dK kvs) : G' a = some u:=by
 rcases s a u h with h | ⟨kvs,ob,e,_⟩
 ·exact h
 ·exact absurd e (n kvs)
theorem ZC.rd {G G' : Hp} (s : ZC G G') {a : Addr} {kvs : List (Key × V)} (h : Rd G a (.dK kvs)) : Rd G' a (.dK kvs):=by
 rcases h with h | ⟨ob,h⟩
 ·rcases s a _ h with h | ⟨kvs',ob,e,h⟩
  ·exact .inl h
  ·cases e; exact .inr ⟨ob,h⟩
 ·exact .inr ⟨ob,s.at h (fun _ e=>by cases e)⟩
theorem ZC.rdo {G G' : Hp} (s : ZC G G') {a : Addr} {u : HO} (h : Rd G a u) (n : ∀ kvs,u ≠ .dK kvs) : Rd G' a u:=by
 rcases h with h | ⟨ob,h⟩
 ·exact .inl (s.at h n)
 ·exact .inr ⟨ob,s.at h (fun _ e=>by cases e)⟩
theorem ZC.sqt {K : PySem.W.Frag} {G G' : Hp} (s : ZC G G') {a : Addr} {xs : List V} (h : SqT K G a xs) : SqT K G' a xs:=by
 rcases h with h | h
 ·exact .inl (s.rdo h (fun _ e=>by cases e))
 ·exact .inr h
theorem ZC.sql {K : PySem.W.Frag} {G G' : Hp} (s : ZC G G') {a : Addr} {xs : List V} (h : SqL K G a xs) : SqL K G' a xs:=by
 rcases h with h | h
 ·exact .inl (s.rdo h (fun _ e=>by cases e))
 ·exact .inr h
theorem ZC.sqx {K : PySem.W.Frag} {f : Bool} {G G' : Hp} (s : ZC G G') {a : Addr} {xs : List V} (h : SqX K f G a xs) : SqX K f G' a xs:=by
 cases f
 ·exact s.sql h
 ·exact s.sqt h
theorem ZC.err {G G' : Hp} (s : ZC G G') {a C : Addr} {v : V} (h : Z7h G a C v) : Z7h G' a C v:=by
 obtain ⟨dx,h1,h2⟩:=h
 exact ⟨dx,h1.imp (fun h=>s.at h (fun _ e=>by cases e)) (fun h=>s.at h (fun _ e=>by cases e)),s.at h2 (fun _ e=>by cases e)⟩
theorem ZC.tup {G G' : Hp} (s : ZC G G') {a : Addr} {o : HO} (h : G a = some o) (t : ZCf o = true) : G' a = some o:=s.at h (fun _ e=>by subst e; cases t)
mutual
theorem ZC.dp {K : PySem.W.Frag} {G G' : Hp} (s : ZC G G') : ∀ {v : V} {d : PyData},Dp K G v d → Dp K G' v d
 | _,_,.non=>.non
 | _,_,.bl b=>.bl b
 | _,_,.int i=>.int i
 | _,_,.str x=>.str x
 | _,_,.lst h t=>.lst (s.sql h) (ZC.dpAll s t)
 | _,_,.tup h t=>.tup (s.sqt h) (ZC.dpAll s t)
theorem ZC.dpAll {K : PySem.W.Frag} {G G' : Hp} (s : ZC G G') : ∀ {vs : List V} {ds : List PyData},DpAll K G vs ds → DpAll K G' vs ds
 | _,_,.nil=>.nil
 | _,_,.cons h t=>.cons (ZC.dp s h) (ZC.dpAll s t)
end
end Ev
end
section
namespace Ev
open PySem PySem.Spec PyProof.Rows L2
theorem Z3e {α : Type} {nm : α → Str} {n : Str} : ∀ {xs : List α} {as : List Addr},as.length = xs.length → n ∈ xs.map nm → (valV (kvN nm xs as) (Sum.inr n)).isSome = true
 | [],_,_,h=>by simp at h
 | _ :: _,[],h,_=>by cases h
 | x :: xs,a :: as,hl,h=>by
  by_cases e : nm x = n
  ·have:=valV_pos (p:=(Sum.inr (nm x),V.ref a)) (r:=kvN nm xs as) (k:=(Sum.inr n : Key)) (by show Sum.inr (nm x) = Sum.inr n; rw [e])
   show (valV ((Sum.inr (nm x),V.ref a) :: kvN nm xs as) (Sum.inr n)).isSome = true
   rw [this]
   rfl
  ·have h2 : n ∈ xs.map nm:=by
    rcases List.mem_cons.mp h with h | h
    ·exact absurd h.symm e
    ·exact h
   show (valV ((Sum.inr (nm x),V.ref a) :: kvN nm xs as) (Sum.inr n)).isSome = true
   rw [valV_neg (p:=(Sum.inr (nm x),V.ref a)) (fun q=>e (Sum.inr.inj q))]
   exact Z3e (Nat.succ.inj hl) h2
theorem ZOn {α : Type} {nm : α → Str} {n : Str} {xs : List α} {as : List Addr} (hl : as.length = xs.length) : (valV (kvN nm xs as) (Sum.inr n)).isSome = decide (n ∈ xs.map nm):=by
 by_cases h : n ∈ xs.map nm
 ·rw [Z3e hl h,decide_eq_true h]
 ·rw [Zxd h,decide_eq_false h]; rfl
theorem ZUk {α : Type} {nm : α → Str} : ∀ {xs : List α} {as : List Addr},as.length = xs.length → (kvN nm xs as).map (fun kv=>kV kv.1) = (xs.map nm).map V.str
 | [],[],_=>rfl
 | [],_ :: _,h=>by cases h
 | _ :: _,[],h=>by cases h
 | x :: xs,a :: as,hl=>by
  show V.str (nm x) :: (kvN nm xs as).map (fun kv=>kV kv.1) = V.str (nm x) :: (xs.map nm).map V.str
  rw [ZUk (Nat.succ.inj hl)]
theorem Zfp {left : List Str} {t : Str} (h : t ∈ left) : (left.map V.str)[left.idxOf t]? = some (V.str t) ∧ ∀ (m : Nat) (z : V),m < left.idxOf t → (left.map V.str)[m]? = some z → eqV z (V.str t) = false:=by
 have hi : left.idxOf t < left.length:=List.idxOf_lt_length_of_mem h
 constructor
 ·rw [List.getElem?_map,List.getElem?_eq_getElem hi,List.getElem_idxOf]
  rfl
 ·intro m z hm hz
  rw [List.getElem?_map,List.getElem?_eq_getElem (by omega)] at hz
  cases hz
  have ne : left[m]'(by omega) ≠ t:=fun e=>by
   have:=List.not_of_lt_findIdx (p:=(· == t)) (xs:=left) (i:=m) hm
   simp [e] at this
  show (left[m]'(by omega) == t) = false
  rw [beq_eq_false_iff_ne]
  exact ne
theorem Zao (xs : List V) (n : Nat) : cutV xs (some (n : Int)) none = xs.drop n:=by
 unfold cutV
 rw [show HT.sIx xs.length 0 (some (n : Int)) = min n xs.length from HT.sIx_nat xs.length 0 n,HT.sIx_none]
 by_cases h : n ≤ xs.length
 ·rw [Nat.min_eq_left h]
  exact List.take_of_length_le (by simp)
 ·rw [Nat.min_eq_right (by omega),List.drop_of_length_le (Nat.le_refl _),List.drop_of_length_le (by omega)]
  simp
theorem Z2g {left : List Str} {t : Str} (nd : left.Nodup) (h : t ∈ left) : (ZVc left t).Nodup ∧ t ∉ ZVc left t ∧ ∀ x ∈ ZVc left t,x ∈ left:=by
 unfold ZVc
 have hi : left.idxOf t < left.length:=List.idxOf_lt_length_of_mem h
 refine ⟨nd.sublist (List.drop_sublist _ _),fun q=>?_,fun x hx=>List.mem_of_mem_drop hx⟩
 obtain ⟨j,hj,ej⟩:=List.mem_iff_getElem.mp q
 rw [List.getElem_drop] at ej
 have e2 : left[left.idxOf t]'hi = t:=List.getElem_idxOf hi
 have:=(List.getElem_inj nd).mp (ej.trans e2.symm)
 omega
end Ev
end
section
namespace Ev
open PySem PySem.Spec PyProof.Rows L2
theorem ZId {α : Type} {l : List α} {a : α} (h : l.Nodup) (n : a ∉ l) : (l ++ [a]).Nodup:=by
 rw [List.nodup_append]
 exact ⟨h,by simp,fun x hx y hy e=>by
  rw [List.mem_singleton] at hy
  subst hy
  subst e
  exact n hx⟩
structure LoopM.Well (L : LoopM) : Prop where
 nm : Zq L.name = true
 l1 : 1 ≤ L.length
 l6 : L.length ≤ 6
 pl : L.places.length = L.length
 sp : L.span ≤ 18
 so : ∀ p ∈ L.places,p.length ≤ 3 ∧ ∀ s ∈ p,Zq s = true
theorem LoopW.none {ws : List Str} {L : LoopM} (h : LoopW ws L) : ∀ p ∈ L.places,p = []:=by
 cases h <;> exact fun p hp=>List.eq_of_mem_replicate hp
theorem PlacesR.well {n : Nat} {i : Int} {a b : List (List Str)} {r r' : List Str} (h : PlacesR n i a r b r') (w : ∀ p ∈ a,p.length ≤ 3 ∧ ∀ s ∈ p,Zq s = true) : b.length = a.length ∧ ∀ p ∈ b,p.length ≤ 3 ∧ ∀ s ∈ p,Zq s = true:=by
 induction h with
 | stop _=>exact ⟨rfl,w⟩
 | step _ _ _ _ _ h3 hn _ _ ih=>
  obtain ⟨i1,i2⟩:=ih fun p hp=>by
   rcases List.mem_or_eq_of_mem_set hp with hp | rfl
   ·exact w p hp
   ·exact ⟨h3,hn⟩
  exact ⟨by rw [i1,List.length_set],i2⟩
theorem LoopsR.well {ls ls' : List LoopM} {r r' : List Str} (h : LoopsR ls r ls' r') (nd : (ls.map (·.name)).Nodup) (w : ∀ L ∈ ls,L.Well) : (ls'.map (·.name)).Nodup ∧ ∀ L ∈ ls',L.Well:=by
 induction h with
 | stop _=>exact ⟨nd,w⟩
 | step _ hw hn _ hp _ ih=>
  obtain ⟨f1,f2,f3,f4,f5⟩:=hw.facts
  obtain ⟨p1,p2⟩:=hp.well fun p hp=>by rw [hw.none p hp]; exact ⟨by simp,by simp⟩
  refine ih ?_ ?_
  ·rw [List.map_append]
   exact ZId nd hn
  ·intro L hL
   rcases List.mem_append.mp hL with hL | hL
   ·exact w L hL
   ·rw [List.mem_singleton] at hL
    subst hL
    exact ⟨f1,f2,f3,p1.trans f4,f5,p2⟩
structure TrackM.Well (t : TrackM) : Prop where
 nm : Zq t.name = true
 nd : (t.loops.map (·.name)).Nodup
 lw : ∀ L ∈ t.loops,L.Well
 l3 : t.loops.length ≤ 3
theorem LoopsR.three {ls ls' : List LoopM} {r r' : List Str} (h : LoopsR ls r ls' r') (l3 : ls.length ≤ 3) : ls'.length ≤ 3:=by
 induction h with
 | stop _=>exact l3
 | step _ _ _ h3 _ _ ih=>exact ih (by simp; omega)
theorem TracksR.well {ts ts' : List TrackM} {r r' : List Str} (h : TracksR ts r ts' r') (nd : (ts.map (·.name)).Nodup) (l4 : ts.length ≤ 4) (w : ∀ t ∈ ts,t.Well) : (ts'.map (·.name)).Nodup ∧ ts'.length ≤ 4 ∧ ∀ t ∈ ts',t.Well:=by
 induction h with
 | stop _=>exact ⟨nd,l4,w⟩
 | step _ hnm hn h4 hl _ _ ih=>
  refine ih ?_ (by simp; omega) ?_
  ·rw [List.map_append]
   exact ZId nd hn
  ·intro t ht
   rcases List.mem_append.mp ht with ht | ht
   ·exact w t ht
   ·rw [List.mem_singleton] at ht
    subst ht
    obtain ⟨w1,w2⟩:=hl.well (by simp) (by simp)
    exact ⟨hnm,w1,w2,hl.three (by simp)⟩
structure ButtonM.Well (ts : List TrackM) (b : ButtonM) : Prop where
 nm : Zq b.name = true
 q1 : 1 ≤ b.quantum
 q12 : b.quantum ≤ 12
 nd : (b.deeds.map (·.1)).Nodup
 dw : ∀ d ∈ b.deeds,∃ row,DeedW ts row d
 sub : ∀ d ∈ b.deeds,d.1 ∈ ts.map (·.name)
theorem DeedsR.well {ts : List TrackM} {left : List Str} {ds ds' : List (Str × Str × Str)} {r r' : List Str} (h : DeedsR ts left ds r ds' r') (ndl : left.Nodup) (hl : ∀ x ∈ left,x ∈ ts.map (·.name)) (nin : ∀ d ∈ ds,d.1 ∉ left) (nd : (ds.map (·.1)).Nodup)
  (dw : ∀ d ∈ ds,∃ row,DeedW ts row d) (sub : ∀ d ∈ ds,d.1 ∈ ts.map (·.name)) : (ds'.map (·.1)).Nodup ∧ (∀ d ∈ ds',∃ row,DeedW ts row d) ∧ ∀ d ∈ ds',d.1 ∈ ts.map (·.name):=by
 induction h with
 | stop _=>exact ⟨nd,dw,sub⟩
 | step _ hd hin _ ih=>
  obtain ⟨b1,b2,b3⟩:=Z2g ndl hin
  refine ih b1 (fun x hx=>hl x (b3 x hx)) ?_ ?_ ?_ ?_
  ·intro d hd
   rcases List.mem_append.mp hd with hd | hd
   ·exact fun z=>nin d hd (b3 _ z)
   ·rw [List.mem_singleton] at hd
    rw [hd]; exact b2
  ·rw [List.map_append]
   refine ZId nd fun z=>?_
   obtain ⟨y,hy,ey⟩:=List.mem_map.mp z
   exact nin y hy (by rw [ey]; exact hin)
  ·intro d hd'
   rcases List.mem_append.mp hd' with hd' | hd'
   ·exact dw d hd'
   ·rw [List.mem_singleton] at hd'
    rw [hd']; exact ⟨_,hd⟩
  ·intro d hd'
   rcases List.mem_append.mp hd' with hd' | hd'
   ·exact sub d hd'
   ·rw [List.mem_singleton] at hd'
    rw [hd']; exact hl _ hin
theorem ButtonsR.well {ts : List TrackM} {bs bs' : List ButtonM} {b b' : Nat} {r r' : List Str} (h : ButtonsR ts bs b r bs' b' r') (ndt : (ts.map (·.name)).Nodup) (nd : (bs.map (·.name)).Nodup) (l5 : bs.length ≤ 5) (b1 : 1 ≤ b) (b12 : b ≤ 12) (w : ∀ x ∈ bs,x.Well ts) :
  (bs'.map (·.name)).Nodup ∧ bs'.length ≤ 5 ∧ 1 ≤ b' ∧ b' ≤ 12 ∧ ∀ x ∈ bs',x.Well ts:=by
 induction h with
 | stop _=>exact ⟨nd,l5,b1,b12,w⟩
 | step _ hnm _ q1 q12 hn h5 hl hd _ ih=>
  refine ih ?_ (by simp; omega) (Nat.lcm_pos b1 q1) hl ?_
  ·rw [List.map_append]
   exact ZId nd hn
  ·intro x hx
   rcases List.mem_append.mp hx with hx | hx
   ·exact w x hx
   ·rw [List.mem_singleton] at hx
    subst hx
    obtain ⟨d1,d2,d3⟩:=hd.well ndt (fun _ h=>h) (by simp) (by simp) (by simp) (by simp)
    exact ⟨hnm,q1,q12,d1,d2,d3⟩
theorem TracksR.more {ts ts' : List TrackM} {r r' : List Str} (h : TracksR ts r ts' r') : ts.length ≤ ts'.length:=by
 induction h with
 | stop _=>exact Nat.le_refl _
 | step _ _ _ _ _ _ _ ih=>
  simp at ih
  omega
theorem TracksR.pos {ts ts' : List TrackM} {r r' : List Str} (h : TracksR ts r ts' r') (hd : Zdb r 0 "track" ≠ none) : 1 ≤ ts'.length:=by
 cases h with
 | stop e=>exact absurd e hd
 | step _ _ _ _ _ _ h=>
  have:=h.more
  simp at this
  omega
structure BoardM.Well (B : BoardM) : Prop where
 t1 : 1 ≤ B.tracks.length
 ndt : (B.tracks.map (·.name)).Nodup
 t4 : B.tracks.length ≤ 4
 tw : ∀ t ∈ B.tracks,t.Well
 ndb : (B.buttons.map (·.name)).Nodup
 b5 : B.buttons.length ≤ 5
 r1 : 1 ≤ B.bar
 r12 : B.bar ≤ 12
 bw : ∀ b ∈ B.buttons,b.Well B.tracks
 th : ∀ t ∈ B.tracks,∀ L ∈ t.loops,L.then_ ≠ "" → L.then_ ∈ t.loops.map (·.name)
theorem BoardR.well {lines : List Str} {B : BoardM} (h : BoardR lines B) : B.Well:=by
 obtain ⟨⟨rest,h0,ht,_,hb⟩,th⟩:=h
 have t0:=ht.pos h0
 obtain ⟨t1,t2,t3⟩:=ht.well (by simp) (by simp) (by simp)
 obtain ⟨b1,b2,b3,b4,b5⟩:=hb.well t1 (by simp) (by simp) (Nat.le_refl _) (by decide) (by simp)
 exact ⟨t0,t1,t2,t3,b1,b2,b3,b4,b5,th⟩
theorem DeedsR.le {ts : List TrackM} {left : List Str} {ds ds' : List (Str × Str × Str)} {r r' : List Str} (h : DeedsR ts left ds r ds' r') : r'.length ≤ r.length:=by
 induction h with
 | stop _=>exact Nat.le_refl _
 | step _ _ _ _ ih=>exact Nat.le_succ_of_le ih
end Ev
end
section
namespace Ev
open PySem PySem.Spec PyProof.Rows L2
def Zfh (ws : List Str) : Option LoopM:=match ws with
 | [_,nm,ln,k]=>if k = "lasts" ∧ Zq nm = true ∧ 1 ≤ Zs ln ∧ Zs ln ≤ 6 then some ⟨nm,(Zs ln).toNat,0, "",List.replicate (Zs ln).toNat []⟩ else none
 | [_,nm,ln,k,rd]=>if k = "ends" ∧ Zq nm = true ∧ 1 ≤ Zs ln ∧ Zs ln ≤ 6 ∧ 1 ≤ Zs rd ∧ Zs rd ≤ 3 then some ⟨nm,(Zs ln).toNat,(Zs rd).toNat * (Zs ln).toNat, "",List.replicate (Zs ln).toNat []⟩ else none
 | [_,nm,ln,k,th,rd]=>if k = "goes" ∧ Zq nm = true ∧ 1 ≤ Zs ln ∧ Zs ln ≤ 6 ∧ Zq th = true ∧ 1 ≤ Zs rd ∧ Zs rd ≤ 3 then some ⟨nm,(Zs ln).toNat,(Zs rd).toNat * (Zs ln).toNat,th,List.replicate (Zs ln).toNat []⟩ else none
 | _=>none
theorem toN {i : Int} (h : 1 ≤ i) : i = (i.toNat : Int):=by omega
theorem Z2i {ws : List Str} {L : LoopM} (h : Zfh ws = some L) : LoopW ws L:=by
 unfold Zfh at h
 split at h
 ·split at h
  ·rename_i c
   obtain ⟨rfl,c1,c2,c3⟩:=c
   cases h
   exact .lasts c1 (toN c2) (by omega) (by omega)
  ·cases h
 ·split at h
  ·rename_i c
   obtain ⟨rfl,c1,c2,c3,c4,c5⟩:=c
   cases h
   exact .ends c1 (toN c2) (by omega) (by omega) (toN c4) (by omega) (by omega)
  ·cases h
 ·split at h
  ·rename_i c
   obtain ⟨rfl,c1,c2,c3,c4,c5,c6⟩:=c
   cases h
   exact .goes c1 (toN c2) (by omega) (by omega) c4 (toN c5) (by omega) (by omega)
  ·cases h
 ·cases h
def ZLe (ts : List TrackM) (row : List Str) : Option (Str × Str × Str):=match row with
 | [t,w]=>if w = "stops" then some (t,w, "") else none
 | [t,w,lp]=>if (w = "plays" ∨ w = "keeps") ∧ (ts.any fun tm=>decide (tm.name = t) && decide (lp ∈ tm.loops.map (·.name))) = true then some (t,w,lp) else none
 | _=>none
theorem ZLi {ts : List TrackM} {row : List Str} {d : Str × Str × Str} (h : ZLe ts row = some d) : DeedW ts row d:=by
 unfold ZLe at h
 split at h
 ·split at h
  ·rename_i c
   subst c
   cases h
   exact .stops
  ·cases h
 ·split at h
  ·rename_i c
   obtain ⟨c1,c2⟩:=c
   cases h
   obtain ⟨tm,h1,h2⟩:=List.any_eq_true.mp c2
   rw [Bool.and_eq_true,decide_eq_true_iff,decide_eq_true_iff] at h2
   exact .begins c1 h1 h2.1 h2.2
  ·cases h
 ·cases h
end Ev
end
section
namespace Ev
open PySem PySem.Spec PyProof.Rows L2
def Z1 (len : Nat) : Int → List (List Str) → List Str → Except Nat (List (List Str) × List Str)
 | _,pl,[]=>.ok (pl,[])
 | last,pl,l :: r=>match Zp l 4 with
  | none=>.ok (pl,l :: r)
  | some []=>.error (r.length + 1)
  | some (w :: ss)=>if last < Zs w ∧ Zs w < len ∧ 1 ≤ ss.length ∧ ss.length ≤ 3 ∧ (ss.all Zq) = true ∧ ascB ltS ss = true then Z1 len (Zs w) (pl.set (Zs w).toNat ss) r else .error (r.length + 1)
def ZZb (ws : List Str) (ls : List LoopM) (r : List Str) : Except Nat (LoopM × List Str):=match Zfh ws with
 | none=>.error (r.length + 1)
 | some L=>if L.name ∉ ls.map (·.name) ∧ ls.length < 3 then match Z1 L.length (-1) L.places r with
   | .error k=>.error k
   | .ok q=>.ok ({ L with places:=q.1 },q.2)
  else .error (r.length + 1)
def ZHb : Nat → List LoopM → List (Nat × Str) → List Str → Except Nat (List LoopM × List (Nat × Str) × List Str)
 | 0,_,_,_=>.error 0
 | n + 1,ls,lt,rest=>match Zdb rest 2 "loop" with
  | none=>.ok (ls,lt,rest)
  | some ws=>match rest with
   | []=>.error 0
   | _ :: r=>match ZZb ws ls r with
    | .error k=>.error k
    | .ok q=>ZHb n (ls ++ [q.1]) (if q.1.then_ = "" then lt else lt ++ [(r.length + 1,q.1.then_)]) q.2
def Zbb (ws : List Str) (ts : List TrackM) (r : List Str) : Except Nat (TrackM × List (Nat × Str) × List Str):=match ws with
 | [_,nm]=>if Zq nm = true ∧ nm ∉ ts.map (·.name) ∧ ts.length < 4 then match ZHb (r.length + 1) [] [] r with
   | .error k=>.error k
   | .ok q=>if q.1.isEmpty = true then .error q.2.2.length else .ok (⟨nm,q.1⟩,q.2.1,q.2.2)
  else .error (r.length + 1)
 | _=>.error (r.length + 1)
def Zub : Nat → List TrackM → List (Nat × Nat × Str) → List Str → Except Nat (List TrackM × List (Nat × Nat × Str) × List Str)
 | 0,_,_,_=>.error 0
 | n + 1,ts,lt,rest=>match Zdb rest 0 "track" with
  | none=>.ok (ts,lt,rest)
  | some ws=>match rest with
   | []=>.error 0
   | _ :: r=>match Zbb ws ts r with
    | .error k=>.error k
    | .ok q=>Zub n (ts ++ [q.1]) (lt ++ q.2.1.map fun p=>(p.1,ts.length,p.2)) q.2.2
def ZUb (ts : List TrackM) : List Str → List (Str × Str × Str) → List Str → Except Nat (List (Str × Str × Str) × List Str)
 | _,ds,[]=>.ok (ds,[])
 | left,ds,l :: r=>match Zp l 2 with
  | none=>.ok (ds,l :: r)
  | some row=>match ZLe ts row with
   | none=>.error (r.length + 1)
   | some d=>if d.1 ∈ left then ZUb ts (ZVc left d.1) (ds ++ [d]) r else .error (r.length + 1)
def ZR (ts : List TrackM) (ws : List Str) (bs : List ButtonM) (bar : Nat) (r : List Str) : Except Nat (ButtonM × List Str):=match ws with
 | [_,nm,ev,qw]=>if ev = "every" ∧ Zq nm = true ∧ 1 ≤ Zs qw ∧ Zs qw ≤ 12 ∧ nm ∉ bs.map (·.name) ∧ bs.length < 5 ∧ Nat.lcm bar (Zs qw).toNat ≤ 12 then
   match ZUb ts (ts.map (·.name)) [] r with
   | .error k=>.error k
   | .ok q=>.ok (⟨nm,(Zs qw).toNat,q.1⟩,q.2)
  else .error (r.length + 1)
 | _=>.error (r.length + 1)
def ZZ (ts : List TrackM) : Nat → List ButtonM → Nat → List Str → Except Nat (List ButtonM × Nat × List Str)
 | 0,_,_,_=>.error 0
 | n + 1,bs,bar,rest=>match Zdb rest 0 "button" with
  | none=>.ok (bs,bar,rest)
  | some ws=>match rest with
   | []=>.error 0
   | _ :: r=>match ZR ts ws bs bar r with
    | .error k=>.error k
    | .ok q=>ZZ ts n (bs ++ [q.1]) (Nat.lcm bar q.1.quantum) q.2
def ZOe (ts : List TrackM) (p : Nat × Nat × Str) : Bool:=match ts[p.2.1]? with
 | some t=>!decide (p.2.2 ∈ t.loops.map (·.name))
 | none=>false
def Zib (lines : List Str) : Except Nat BoardM:=if (Zdb lines 0 "track").isSome = true then match Zub (lines.length + 1) [] [] lines with
  | .error k=>.error k
  | .ok q=>if (Zdb q.2.2 0 "button").isSome = true then match ZZ q.1 (q.2.2.length + 1) [] 1 q.2.2 with
    | .error k=>.error k
    | .ok t=>if t.2.2.isEmpty = true then match q.2.1.find? (ZOe q.1) with
      | some p=>.error p.1
      | none=>.ok ⟨q.1,t.1,t.2.1⟩
     else .error t.2.2.length
   else .error q.2.2.length
 else .error lines.length
theorem ZPg {len : Nat} : ∀ {rest : List Str} {last : Int} {pl pl' : List (List Str)} {rest' : List Str},-1 ≤ last → Z1 len last pl rest = .ok (pl',rest') → PlacesR len last pl rest pl' rest'
 | [],_,_,_,_,_,h=>by cases h; exact .stop rfl
 | l :: r,last,pl,pl',rest',h0,h=>by
  unfold Z1 at h
  split at h
  ·rename_i e
   cases h
   exact .stop e
  ·cases h
  ·rename_i w ss e
   split at h
   ·rename_i c
    obtain ⟨c1,c2,c3,c4,c5,c6⟩:=c
    have e2 : Zs w = ((Zs w).toNat : Int):=by omega
    rw [e2] at h
    exact .step e e2 (by omega) (by omega) c3 c4 (fun s hs=>List.all_eq_true.mp c5 s hs) c6 (ZPg (by omega) h)
   ·cases h
def ZIj (ls : List LoopM) : List Str:=(ls.map (·.then_)).filter fun s=>!decide (s = "")
theorem ZSh {ws r rest' : List Str} {ls : List LoopM} {L' : LoopM} (h : ZZb ws ls r = .ok (L',rest')) : ∃ L pl,Zfh ws = some L ∧ L.name ∉ ls.map (·.name) ∧ ls.length < 3 ∧ Z1 L.length (-1) L.places r = .ok (pl,rest') ∧ L' = { L with places:=pl }:=by
 unfold ZZb at h
 split at h
 ·cases h
 ·rename_i L e1
  split at h
  ·rename_i c
   split at h
   ·cases h
   ·rename_i q e2
    cases h
    exact ⟨L,q.1,e1,c.1,c.2,e2,rfl⟩
  ·cases h
theorem ZTh : ∀ {n : Nat} {ls ls' : List LoopM} {lt lt' : List (Nat × Str)} {rest rest' : List Str},ZHb n ls lt rest = .ok (ls',lt',rest') → lt.map (·.2) = ZIj ls → LoopsR ls rest ls' rest' ∧ lt'.map (·.2) = ZIj ls'
 | 0,_,_,_,_,_,_,h,_=>by cases h
 | n + 1,ls,ls',lt,lt',rest,rest',h,hl=>by
  unfold ZHb at h
  split at h
  ·rename_i e
   cases h
   exact ⟨.stop e,hl⟩
  ·rename_i ws e
   split at h
   ·cases h
   ·rename_i l r
    split at h
    ·cases h
    ·rename_i q e1
     obtain ⟨L,pl,h1,h2,h3,h4,h5⟩:=ZSh (L':=q.1) (rest':=q.2) e1
     obtain ⟨q1,q2⟩:=ZTh h (by
      unfold ZIj at hl ⊢
      rw [List.map_append,List.filter_append]
      by_cases z : q.1.then_ = ""
      ·rw [if_pos z,hl]
       simp [z]
      ·rw [if_neg z,List.map_append,hl]
       simp [z])
     rw [h5] at q1
     exact ⟨.step e (Z2i h1) h2 h3 (ZPg (by decide) h4) q1,q2⟩
def ZHj (ts : List TrackM) : List (Nat × Str):=(ts.zipIdx).flatMap fun p=>(ZIj p.1.loops).map fun s=>(p.2,s)
theorem ZWg {ws r : List Str} {ts : List TrackM} {q : TrackM × List (Nat × Str) × List Str} (h : Zbb ws ts r = .ok q) : ∃ w,ws = [w,q.1.name] ∧ Zq q.1.name = true ∧ q.1.name ∉ ts.map (·.name) ∧ ts.length < 4 ∧ ZHb (r.length + 1) [] [] r = .ok (q.1.loops,q.2.1,q.2.2) ∧ q.1.loops ≠ []:=by
 unfold Zbb at h
 split at h
 ·rename_i w nm
  split at h
  ·rename_i c
   split at h
   ·cases h
   ·rename_i q e2
    split at h
    ·cases h
    ·rename_i ne
     cases h
     exact ⟨w,rfl,c.1,c.2.1,c.2.2,e2,fun z=>ne (by dsimp only at z; rw [z]; rfl)⟩
  ·cases h
 ·cases h
theorem ZDi : ∀ {n : Nat} {ts ts' : List TrackM} {lt lt' : List (Nat × Nat × Str)} {rest rest' : List Str},Zub n ts lt rest = .ok (ts',lt',rest') → lt.map (·.2) = ZHj ts → TracksR ts rest ts' rest' ∧ lt'.map (·.2) = ZHj ts'
 | 0,_,_,_,_,_,_,h,_=>by cases h
 | n + 1,ts,ts',lt,lt',rest,rest',h,hl=>by
  unfold Zub at h
  split at h
  ·rename_i e
   cases h
   exact ⟨.stop e,hl⟩
  ·rename_i ws e
   split at h
   ·cases h
   ·rename_i l r
    split at h
    ·cases h
    ·rename_i q e1
     obtain ⟨w,rfl,h1,h2,h3,h4,h5⟩:=ZWg e1
     obtain ⟨p1,p2⟩:=ZTh h4 rfl
     obtain ⟨q1,q2⟩:=ZDi h (by
      unfold ZHj at hl ⊢
      rw [List.map_append,hl,List.zipIdx_append,List.flatMap_append]
      congr 1
      simp only [List.zipIdx_cons,List.zipIdx_nil,List.flatMap_cons,List.flatMap_nil,List.append_nil,Nat.zero_add,List.map_map]
      rw [← p2,List.map_map]
      rfl)
     exact ⟨.step e h1 h2 h3 p1 h5 q1,q2⟩
theorem ZIh {ts : List TrackM} : ∀ {rest left : List Str} {ds ds' : List (Str × Str × Str)} {rest' : List Str},ZUb ts left ds rest = .ok (ds',rest') → DeedsR ts left ds rest ds' rest'
 | [],_,_,_,_,h=>by cases h; exact .stop rfl
 | l :: r,left,ds,ds',rest',h=>by
  unfold ZUb at h
  split at h
  ·rename_i e
   cases h
   exact .stop e
  ·rename_i row e
   split at h
   ·cases h
   ·rename_i d e1
    split at h
    ·rename_i c
     exact .step e (ZLi e1) c (ZIh h)
    ·cases h
theorem ZSf {ts : List TrackM} {ws r rest' : List Str} {bs : List ButtonM} {bar : Nat} {b : ButtonM} (h : ZR ts ws bs bar r = .ok (b,rest')) : ∃ w qw,ws = [w,b.name, "every",qw] ∧ Zq b.name = true ∧ Zs qw = (b.quantum : Int) ∧ 1 ≤ b.quantum ∧ b.quantum ≤ 12 ∧ b.name ∉ bs.map (·.name) ∧ bs.length < 5 ∧ Nat.lcm bar b.quantum ≤ 12 ∧ ZUb ts (ts.map (·.name)) [] r = .ok (b.deeds,rest'):=by
 unfold ZR at h
 split at h
 ·rename_i w nm ev qw
  split at h
  ·rename_i c
   obtain ⟨rfl,c1,c2,c3,c4,c5,c6⟩:=c
   split at h
   ·cases h
   ·rename_i q e2
    cases h
    exact ⟨w,qw,rfl,c1,toN c2,by show 1 ≤ (Zs qw).toNat; omega,by show (Zs qw).toNat ≤ 12; omega,c4,c5,c6,e2⟩
  ·cases h
 ·cases h
theorem ZFh {ts : List TrackM} : ∀ {n : Nat} {bs bs' : List ButtonM} {b b' : Nat} {rest rest' : List Str},ZZ ts n bs b rest = .ok (bs',b',rest') → ButtonsR ts bs b rest bs' b' rest'
 | 0,_,_,_,_,_,_,h=>by cases h
 | n + 1,bs,bs',b,b',rest,rest',h=>by
  unfold ZZ at h
  split at h
  ·rename_i e
   cases h
   exact .stop e
  ·rename_i ws e
   split at h
   ·cases h
   ·rename_i l r
    split at h
    ·cases h
    ·rename_i q e1
     obtain ⟨w,qw,rfl,h1,h2,h3,h4,h5,h6,h7,h8⟩:=ZSf (b:=q.1) (rest':=q.2) e1
     exact .step e h1 h2 h3 h4 h5 h6 h7 (ZIh h8) (ZFh h)
theorem ZNl {lines : List Str} {B : BoardM} (h : Zib lines = .ok B) : BoardR lines B:=by
 unfold Zib at h
 split at h
 ·rename_i c1
  split at h
  ·cases h
  ·rename_i q e1
   split at h
   ·rename_i c2
    split at h
    ·cases h
    ·rename_i t e2
     split at h
     ·rename_i c3
      split at h
      ·cases h
      ·rename_i c4
       cases h
       obtain ⟨bs,bar,rest⟩:=t
       obtain ⟨ts,lt,rest1⟩:=q
       obtain ⟨p1,p2⟩:=ZDi e1 rfl
       cases rest with
       | cons _ _=>cases c3
       | nil=>
        refine ⟨⟨rest1,(fun z=>by rw [z] at c1; cases c1),p1,(fun z=>by rw [z] at c2; cases c2),ZFh e2⟩,fun t ht L hL hn=>?_⟩
        obtain ⟨i,hi,ei⟩:=List.mem_iff_getElem.mp ht
        have ei : ts[i]? = some t:=by rw [List.getElem?_eq_getElem hi]; exact congrArg some ei
        have hm : (i,L.then_) ∈ ZHj ts:=by
         unfold ZHj
         refine List.mem_flatMap.mpr ⟨(t,i),List.mem_zipIdx_iff_getElem?.mpr ei,List.mem_map.mpr ⟨L.then_,?_,rfl⟩⟩
         unfold ZIj
         refine List.mem_filter.mpr ⟨List.mem_map.mpr ⟨L,hL,rfl⟩,?_⟩
         rw [decide_eq_false hn]
         rfl
        rw [← p2] at hm
        obtain ⟨p,hp,ep⟩:=List.mem_map.mp hm
        have:=List.find?_eq_none.mp c4 p hp
        unfold ZOe at this
        rw [ep] at this
        dsimp only at this
        rw [ei] at this
        simpa using this
     ·cases h
   ·cases h
 ·cases h
end Ev
end
section
namespace Ev
open PySem PySem.Spec PyProof.Rows L2 SX
theorem Z7o (a : List Nat) (n : Nat) : cutS (S a) none (some (n : Int)) = S (a.take n):=by
 unfold cutS HT.sIx
 rw [S_len]
 have h0 : ¬ (n : Int) < 0:=by omega
 simp [h0]
theorem Z9m (a : List Nat) (n : Nat) : cutS (S a) (some (n : Int)) none = S (a.drop n):=by
 unfold cutS HT.sIx
 rw [S_len]
 have h0 : ¬ (n : Int) < 0:=by omega
 simp [h0]
 rcases Nat.le_total n a.length with h | h
 ·rw [Nat.min_eq_left h,List.take_of_length_le (by rw [List.length_drop]; exact Nat.le_refl _)]
 ·rw [Nat.min_eq_right h,List.drop_eq_nil_of_le (Nat.le_refl _),List.drop_eq_nil_of_le h]
  rw [List.take_nil]
theorem Z7p : sB = S [32]:=rfl
end Ev
end
section
namespace Ev
open PySem PySem.Spec PyProof.Rows L2 SX
def ZVm (l : List Nat) (n : Nat) : Option (List Str):=if l.take n = List.replicate n 32 ∧ [] ∉ TL.spl [32] 0 [] (l.drop n) then some ((TL.spl [32] 0 [] (l.drop n)).map S) else none
theorem ZWm (s : Str) (n : Nat) : Zp s n = ZVm s.cps.toList n:=by
 have e0 : s = S s.cps.toList:=rfl
 generalize s.cps.toList = l at e0
 subst e0
 unfold Zp ZVm
 rw [Z7o,Z9m,Z7p,split_S (by simp) (by decide)]
 have i1 : (S (l.take n) = Z3g n) ↔ (l.take n = List.replicate n 32):=⟨fun e=>S_inj e,fun e=>by rw [e]; rfl⟩
 have i2 : (("" : Str) ∈ (TL.spl [32] 0 [] (l.drop n)).map S) ↔ ([] ∈ TL.spl [32] 0 [] (l.drop n)):=by
  rw [List.mem_map]
  exact ⟨fun ⟨w,hw,e⟩=>by
   have z:=S_inj (b:=[]) e
   subst z
   exact hw,fun h=>⟨[],h,rfl⟩⟩
 by_cases h1 : l.take n = List.replicate n 32
 ·by_cases h2 : [] ∈ TL.spl [32] 0 [] (l.drop n)
  ·rw [if_neg (fun q=>q.2 (i2.mpr h2)),if_neg (fun q=>q.2 h2)]
  ·rw [if_pos ⟨i1.mpr h1,fun q=>h2 (i2.mp q)⟩,if_pos ⟨h1,h2⟩]
 ·rw [if_neg (fun q=>h1 (i1.mp q.1)),if_neg (fun q=>h1 q.1)]
abbrev WL:=Nat → Option (List Str)
def Zfk (rest : List WL) (n : Nat) (h : Str) : Option (List Str):=match rest with
 | []=>none
 | l :: _=>match l n with
  | some (w :: r)=>if w = h then some (w :: r) else none
  | _=>none
def Zaj (len : Nat) : Int → List (List Str) → List WL → Except Nat (List (List Str) × List WL)
 | _,pl,[]=>.ok (pl,[])
 | last,pl,l :: r=>match l 4 with
  | none=>.ok (pl,l :: r)
  | some []=>.error (r.length + 1)
  | some (w :: ss)=>if last < Zs w ∧ Zs w < len ∧ 1 ≤ ss.length ∧ ss.length ≤ 3 ∧ (ss.all Zq) = true ∧ ascB ltS ss = true then Zaj len (Zs w) (pl.set (Zs w).toNat ss) r else .error (r.length + 1)
def Zim (ws : List Str) (ls : List LoopM) (r : List WL) : Except Nat (LoopM × List WL):=match Zfh ws with
 | none=>.error (r.length + 1)
 | some L=>if L.name ∉ ls.map (·.name) ∧ ls.length < 3 then match Zaj L.length (-1) L.places r with
   | .error k=>.error k
   | .ok q=>.ok ({ L with places:=q.1 },q.2)
  else .error (r.length + 1)
def ZNj : Nat → List LoopM → List (Nat × Str) → List WL → Except Nat (List LoopM × List (Nat × Str) × List WL)
 | 0,_,_,_=>.error 0
 | n + 1,ls,lt,rest=>match Zfk rest 2 "loop" with
  | none=>.ok (ls,lt,rest)
  | some ws=>match rest with
   | []=>.error 0
   | _ :: r=>match Zim ws ls r with
    | .error k=>.error k
    | .ok q=>ZNj n (ls ++ [q.1]) (if q.1.then_ = "" then lt else lt ++ [(r.length + 1,q.1.then_)]) q.2
def Zoj (ws : List Str) (ts : List TrackM) (r : List WL) : Except Nat (TrackM × List (Nat × Str) × List WL):=match ws with
 | [_,nm]=>if Zq nm = true ∧ nm ∉ ts.map (·.name) ∧ ts.length < 4 then match ZNj (r.length + 1) [] [] r with
   | .error k=>.error k
   | .ok q=>if q.1.isEmpty = true then .error q.2.2.length else .ok (⟨nm,q.1⟩,q.2.1,q.2.2)
  else .error (r.length + 1)
 | _=>.error (r.length + 1)
def Z4h : Nat → List TrackM → List (Nat × Nat × Str) → List WL → Except Nat (List TrackM × List (Nat × Nat × Str) × List WL)
 | 0,_,_,_=>.error 0
 | n + 1,ts,lt,rest=>match Zfk rest 0 "track" with
  | none=>.ok (ts,lt,rest)
  | some ws=>match rest with
   | []=>.error 0
   | _ :: r=>match Zoj ws ts r with
    | .error k=>.error k
    | .ok q=>Z4h n (ts ++ [q.1]) (lt ++ q.2.1.map fun p=>(p.1,ts.length,p.2)) q.2.2
def ZPk (ts : List TrackM) : List Str → List (Str × Str × Str) → List WL → Except Nat (List (Str × Str × Str) × List WL)
 | _,ds,[]=>.ok (ds,[])
 | left,ds,l :: r=>match l 2 with
  | none=>.ok (ds,l :: r)
  | some row=>match ZLe ts row with
   | none=>.error (r.length + 1)
   | some d=>if d.1 ∈ left then ZPk ts (ZVc left d.1) (ds ++ [d]) r else .error (r.length + 1)
def Zrh (ts : List TrackM) (ws : List Str) (bs : List ButtonM) (bar : Nat) (r : List WL) : Except Nat (ButtonM × List WL):=match ws with
 | [_,nm,ev,qw]=>if ev = "every" ∧ Zq nm = true ∧ 1 ≤ Zs qw ∧ Zs qw ≤ 12 ∧ nm ∉ bs.map (·.name) ∧ bs.length < 5 ∧ Nat.lcm bar (Zs qw).toNat ≤ 12 then
   match ZPk ts (ts.map (·.name)) [] r with
   | .error k=>.error k
   | .ok q=>.ok (⟨nm,(Zs qw).toNat,q.1⟩,q.2)
  else .error (r.length + 1)
 | _=>.error (r.length + 1)
def ZYe (ts : List TrackM) : Nat → List ButtonM → Nat → List WL → Except Nat (List ButtonM × Nat × List WL)
 | 0,_,_,_=>.error 0
 | n + 1,bs,bar,rest=>match Zfk rest 0 "button" with
  | none=>.ok (bs,bar,rest)
  | some ws=>match rest with
   | []=>.error 0
   | _ :: r=>match Zrh ts ws bs bar r with
    | .error k=>.error k
    | .ok q=>ZYe ts n (bs ++ [q.1]) (Nat.lcm bar q.1.quantum) q.2
def ZUo (lines : List WL) : Option Nat:=if (Zfk lines 0 "track").isSome = true then match Z4h (lines.length + 1) [] [] lines with
  | .error k=>some k
  | .ok q=>if (Zfk q.2.2 0 "button").isSome = true then match ZYe q.1 (q.2.2.length + 1) [] 1 q.2.2 with
    | .error k=>some k
    | .ok t=>if t.2.2.isEmpty = true then (q.2.1.find? (ZOe q.1)).map (·.1) else some t.2.2.length
   else some q.2.2.length
 else some lines.length
def ZIn (lines : List Str) : Option Nat:=match Zib lines with
 | .ok _=>none
 | .error k=>some k
def wlE {α : Type} (e : Except Nat (α × List Str)) : Except Nat (α × List WL):=match e with
 | .error k=>.error k
 | .ok q=>.ok (q.1,q.2.map Zp)
def wlE3 {α β : Type} (e : Except Nat (α × β × List Str)) : Except Nat (α × β × List WL):=match e with
 | .error k=>.error k
 | .ok q=>.ok (q.1,q.2.1,q.2.2.map Zp)
theorem Zqg (rest : List Str) (n : Nat) (h : Str) : Zfk (rest.map Zp) n h = Zdb rest n h:=by
 cases rest <;> rfl
theorem ZAi (len : Nat) : ∀ (rest : List Str) (last : Int) (pl : List (List Str)),Zaj len last pl (rest.map Zp) = wlE (Z1 len last pl rest)
 | [],_,_=>rfl
 | l :: r,last,pl=>by
  rw [List.map_cons]
  unfold Zaj Z1
  cases e : Zp l 4 with
  | none=>rfl
  | some ws=>
   cases ws with
   | nil=>show Except.error _ = Except.error _; rw [List.length_map]
   | cons w ss=>
    dsimp only
    by_cases h : last < Zs w ∧ Zs w < len ∧ 1 ≤ ss.length ∧ ss.length ≤ 3 ∧ (ss.all Zq) = true ∧ ascB ltS ss = true
    ·rw [if_pos h,if_pos h]
     exact ZAi len r _ _
    ·rw [if_neg h,if_neg h,List.length_map]
     rfl
theorem Zjm (ws : List Str) (ls : List LoopM) (r : List Str) : Zim ws ls (r.map Zp) = wlE (ZZb ws ls r):=by
 unfold Zim ZZb
 cases Zfh ws with
 | none=>show Except.error _ = Except.error _; rw [List.length_map]
 | some L=>
  dsimp only
  by_cases h : L.name ∉ ls.map (·.name) ∧ ls.length < 3
  ·rw [if_pos h,if_pos h,ZAi]
   cases Z1 L.length (-1) L.places r <;> rfl
  ·rw [if_neg h,if_neg h,List.length_map]
   rfl
theorem ZOj : ∀ (n : Nat) (ls : List LoopM) (lt : List (Nat × Str)) (rest : List Str),ZNj n ls lt (rest.map Zp) = wlE3 (ZHb n ls lt rest)
 | 0,_,_,_=>rfl
 | n + 1,ls,lt,rest=>by
  unfold ZNj ZHb
  rw [Zqg]
  cases Zdb rest 2 "loop" with
  | none=>rfl
  | some ws=>
   cases rest with
   | nil=>rfl
   | cons l r=>
    rw [List.map_cons]
    dsimp only
    rw [Zjm]
    cases ZZb ws ls r with
    | error k=>rfl
    | ok q=>
     show ZNj n _ _ (q.2.map Zp) = _
     rw [ZOj,List.length_map]
theorem ZMe {α : Type} (r : List Str) : (Except.error ((r.map Zp).length + 1) : Except Nat α) = Except.error (r.length + 1):=by rw [List.length_map]
theorem ZDk (w nm : Str) (ts : List TrackM) (r : List Str) : Zoj [w,nm] ts (r.map Zp) = wlE3 (Zbb [w,nm] ts r):=by
 unfold Zoj Zbb
 dsimp only
 by_cases h : Zq nm = true ∧ nm ∉ ts.map (·.name) ∧ ts.length < 4
 ·rw [if_pos h,if_pos h,List.length_map,ZOj]
  cases ZHb (r.length + 1) [] [] r with
  | error k=>rfl
  | ok q=>
   show (if q.1.isEmpty = true then Except.error (q.2.2.map Zp).length else _) = wlE3 (if q.1.isEmpty = true then _ else _)
   by_cases hq : q.1.isEmpty = true
   ·rw [if_pos hq,if_pos hq,List.length_map]
    rfl
   ·rw [if_neg hq,if_neg hq]
    rfl
 ·rw [if_neg h,if_neg h,List.length_map]
  rfl
theorem ZIl (ws : List Str) (ts : List TrackM) (r : List Str) : Zoj ws ts (r.map Zp) = wlE3 (Zbb ws ts r):=match ws with
 | []=>ZMe r
 | [_]=>ZMe r
 | [w,nm]=>ZDk w nm ts r
 | _ :: _ :: _ :: _=>ZMe r
theorem ZEi : ∀ (n : Nat) (ts : List TrackM) (lt : List (Nat × Nat × Str)) (rest : List Str),Z4h n ts lt (rest.map Zp) = wlE3 (Zub n ts lt rest)
 | 0,_,_,_=>rfl
 | n + 1,ts,lt,rest=>by
  unfold Z4h Zub
  rw [Zqg]
  cases Zdb rest 0 "track" with
  | none=>rfl
  | some ws=>
   cases rest with
   | nil=>rfl
   | cons l r=>
    rw [List.map_cons]
    dsimp only
    rw [ZIl]
    cases Zbb ws ts r with
    | error k=>rfl
    | ok q=>
     show Z4h n _ _ (q.2.2.map Zp) = _
     rw [ZEi]
theorem Zzj (ts : List TrackM) : ∀ (rest left : List Str) (ds : List (Str × Str × Str)),ZPk ts left ds (rest.map Zp) = wlE (ZUb ts left ds rest)
 | [],_,_=>rfl
 | l :: r,left,ds=>by
  rw [List.map_cons]
  unfold ZPk ZUb
  cases Zp l 2 with
  | none=>rfl
  | some row=>
   dsimp only
   cases ZLe ts row with
   | none=>show Except.error _ = Except.error _; rw [List.length_map]
   | some d=>
    dsimp only
    by_cases h : d.1 ∈ left
    ·rw [if_pos h,if_pos h]
     exact Zzj ts r _ _
    ·rw [if_neg h,if_neg h,List.length_map]
     rfl
theorem ZIi (ts : List TrackM) (w nm ev qw : Str) (bs : List ButtonM) (bar : Nat) (r : List Str) : Zrh ts [w,nm,ev,qw] bs bar (r.map Zp) = wlE (ZR ts [w,nm,ev,qw] bs bar r):=by
 unfold Zrh ZR
 dsimp only
 by_cases h : ev = "every" ∧ Zq nm = true ∧ 1 ≤ Zs qw ∧ Zs qw ≤ 12 ∧ nm ∉ bs.map (·.name) ∧ bs.length < 5 ∧ Nat.lcm bar (Zs qw).toNat ≤ 12
 ·rw [if_pos h,if_pos h,Zzj]
  cases ZUb ts (ts.map (·.name)) [] r <;> rfl
 ·rw [if_neg h,if_neg h,List.length_map]
  rfl
theorem Zak (ts : List TrackM) (ws : List Str) (bs : List ButtonM) (bar : Nat) (r : List Str) : Zrh ts ws bs bar (r.map Zp) = wlE (ZR ts ws bs bar r):=match ws with
 | []=>ZMe r
 | [_]=>ZMe r
 | [_,_]=>ZMe r
 | [_,_,_]=>ZMe r
 | [w,nm,ev,qw]=>ZIi ts w nm ev qw bs bar r
 | _ :: _ :: _ :: _ :: _ :: _=>ZMe r
theorem ZGh (ts : List TrackM) : ∀ (n : Nat) (bs : List ButtonM) (bar : Nat) (rest : List Str),ZYe ts n bs bar (rest.map Zp) = wlE3 (ZZ ts n bs bar rest)
 | 0,_,_,_=>rfl
 | n + 1,bs,bar,rest=>by
  unfold ZYe ZZ
  rw [Zqg]
  cases Zdb rest 0 "button" with
  | none=>rfl
  | some ws=>
   cases rest with
   | nil=>rfl
   | cons l r=>
    rw [List.map_cons]
    dsimp only
    rw [Zak]
    cases ZR ts ws bs bar r with
    | error k=>rfl
    | ok q=>
     show ZYe ts n _ _ (q.2.map Zp) = _
     rw [ZGh]
theorem ZJn (lines : List Str) : ZUo (lines.map Zp) = ZIn lines:=by
 unfold ZUo ZIn Zib
 rw [Zqg,List.length_map,ZEi]
 by_cases h : (Zdb lines 0 "track").isSome = true
 ·rw [if_pos h,if_pos h]
  cases Zub (lines.length + 1) [] [] lines with
  | error k=>rfl
  | ok q=>
   show (if (Zfk (q.2.2.map Zp) 0 "button").isSome = true then _ else _) = _
   rw [Zqg]
   dsimp only
   by_cases h2 : (Zdb q.2.2 0 "button").isSome = true
   ·rw [if_pos h2,if_pos h2]
    show (match ZYe q.1 ((q.2.2.map Zp).length + 1) [] 1 (q.2.2.map Zp) with | .error k=>some k | .ok t=>_) = _
    rw [List.length_map,ZGh]
    cases ZZ q.1 (q.2.2.length + 1) [] 1 q.2.2 with
    | error k=>rfl
    | ok t=>
     show (if (t.2.2.map Zp).isEmpty = true then _ else some (t.2.2.map Zp).length) = _
     cases h3 : t.2.2 with
     | nil=>
      show ((q.2.1.find? (ZOe q.1)).map (·.1) : Option Nat) = _
      dsimp only
      rw [h3,if_pos (show ([] : List Str).isEmpty = true from rfl)]
      cases q.2.1.find? (ZOe q.1) <;> rfl
     | cons a b=>
      dsimp only
      rw [h3]
      show some ((a :: b).map Zp).length = _
      rw [List.length_map]
      rfl
   ·rw [if_neg h2,if_neg h2]
    show some (q.2.2.map Zp).length = _
    rw [List.length_map]
 ·rw [if_neg h,if_neg h]
def Znj (cs : List (List Nat)) : Option Nat:=ZUo (cs.map ZVm)
theorem ZHn (lines : List Str) : ZIn lines = Znj (lines.map fun s=>s.cps.toList):=by
 unfold Znj
 rw [← ZJn,List.map_map]
 congr 1
 exact List.map_congr_left fun s _=>funext fun n=>ZWm s n
theorem Zfl {ys : List Str} (h0 : ys ≠ []) (h : ∀ y ∈ ys,10 ∉ y.cps.toList) : Txt.split (Txt.join "\n" ys) "\n" = ys:=by
 have e : ys = (ys.map fun y=>y.cps.toList).map S:=by
  rw [List.map_map]
  exact (List.map_id' ys).symm
 have en : ("\n" : Str) = S [10]:=by decide +kernel
 rw [e,en,join_S,split_S (by simp) (by decide),spl_join (c:=10) (sep:=[]) (by simpa using h0) (fun p hp=>by
  obtain ⟨y,hy,ey⟩:=List.mem_map.mp hp
  rw [← ey]
  exact h y hy)]
end Ev
end
section
namespace Ev
open PySem PySem.Spec PyProof.Rows L2
instance inhPy : Inhabited PyData:=⟨.none⟩
end Ev
end
section
namespace PL
open PySem PySem.Spec PyProof.Rows L2 Ev
inductive D where
 | non | bl (b : Bool) | int (i : Int) | str (x : Str)
 | tup (ds : List D) | lst (ds : List D) | dic (ks : List Key) (ds : List D) | brd (t : Str) (B : BoardM) | cell (i : Nat) | scr (ns : List Int)
 | obj (c : Nat) (ds : List D)
 | err (c : Nat) (d : D)
instance : Inhabited D:=⟨.non⟩
mutual
def D.py : D → Option PyData
 | .non=>some .none
 | .bl b=>some (.bool b)
 | .int i=>some (.int i)
 | .str x=>some (.str x)
 | .tup ds=>(pys ds).map .tuple
 | .lst ds=>(pys ds).map .list
 | .dic _ _=>none
 | .brd _ _=>none
 | .cell _=>none
 | .scr _=>none
 | .obj _ _=>none
 | .err _ _=>none
def pys : List D → Option (List PyData)
 | []=>some []
 | d :: r=>match d.py,pys r with
  | some p,some q=>some (p :: q)
  | _,_=>none
end
structure OR where
 brd : Str → BoardM → Hp → Addr → Prop
 cls : Nat → Option (Addr × List Str)
 exc : Nat → Option Addr
 tabs : List (Addr × Str)
 wld : Option World
section
variable (K : PySem.W.Frag) (R : OR) (G : Hp) (ρ : List Addr)
mutual
inductive RD : V → D → Prop
 | non : RD .non .non
 | bl (b : Bool) : RD (.bl b) (.bl b)
 | int (i : Int) : RD (.int i) (.int i)
 | str (x : Str) : RD (.str x) (.str x)
 | tup {a : Addr} {xs : List V} {ds : List D} : SqT K G a xs → RDs xs ds → RD (.ref a) (.tup ds)
 | lst {a : Addr} {xs : List V} {ds : List D} : G a = some (.lst xs) → RDs xs ds → RD (.ref a) (.lst ds)
 | dic {a : Addr} {ks : List Key} {xs : List V} {ds : List D} : Rd G a (.dK (ks.zip xs)) → ks.length = xs.length → RDs xs ds → RD (.ref a) (.dic ks ds)
 | brd {a : Addr} {t : Str} {B : BoardM} : R.brd t B G a → RD (.ref a) (.brd t B)
 | cell {a : Addr} {i : Nat} : ρ[i]? = some a → RD (.ref a) (.cell i)
 | scr {a : Addr} {ns : List Int} : SqL K G a (ns.map V.int) → RD (.ref a) (.scr ns)
 | obj {a C dx : Addr} {c : Nat} {nms : List Str} {vs : List V} {ds : List D} : R.cls c = some (C,nms) → G a = some (.ins C dx (nms.zip vs)) → nms.length = vs.length → RDs vs ds → RD (.ref a) (.obj c ds)
 | err {a C : Addr} {c : Nat} {v : V} {d : D} : R.exc c = some C → Z7h G a C v → RD v d → RD (.ref a) (.err c d)
inductive RDs : List V → List D → Prop
 | nil : RDs [] []
 | cons {v : V} {d : D} {vs : List V} {ds : List D} : RD v d → RDs vs ds → RDs (v :: vs) (d :: ds)
end
end
def Znb (R : OR) : Prop:=∀ t B G G' a,ZC G G' → R.brd t B G a → R.brd t B G' a
section
variable {K : PySem.W.Frag} {R : OR} {G G' : Hp} {ρ ρ' : List Addr}
theorem ZOo {a : Addr} {i : Nat} (p : ρ <+: ρ') (h : ρ[i]? = some a) : ρ'[i]? = some a:=by
 obtain ⟨t,rfl⟩:=p
 rw [List.getElem?_append_left (List.getElem?_eq_some_iff.mp h).1]
 exact h
mutual
theorem RD.mono (hR : Znb R) (s : ZC G G') (p : ρ <+: ρ') : ∀ {v : V} {d : D},RD K R G ρ v d → RD K R G' ρ' v d
 | _,_,.non=>.non
 | _,_,.bl b=>.bl b
 | _,_,.int i=>.int i
 | _,_,.str x=>.str x
 | _,_,.tup h t=>.tup (s.sqt h) (RDs.mono hR s p t)
 | _,_,.lst h t=>.lst (s.at h (fun _ e=>by cases e)) (RDs.mono hR s p t)
 | _,_,.dic h l t=>.dic (s.rd h) l (RDs.mono hR s p t)
 | _,_,.brd h=>.brd (hR _ _ _ _ _ s h)
 | _,_,.cell h=>.cell (ZOo p h)
 | _,_,.scr h=>.scr (s.sql h)
 | _,_,.obj h1 h2 h3 t=>.obj h1 (s.at h2 (fun _ e=>by cases e)) h3 (RDs.mono hR s p t)
 | _,_,.err h1 h2 t=>.err h1 (s.err h2) (RD.mono hR s p t)
theorem RDs.mono (hR : Znb R) (s : ZC G G') (p : ρ <+: ρ') : ∀ {vs : List V} {ds : List D},RDs K R G ρ vs ds → RDs K R G' ρ' vs ds
 | _,_,.nil=>.nil
 | _,_,.cons h t=>.cons (RD.mono hR s p h) (RDs.mono hR s p t)
end
mutual
theorem RD.dp : ∀ {v : V} {d : D} {q : PyData},RD K R G ρ v d → d.py = some q → Dp K G v q
 | _,_,_,.non,e=>by cases e; exact .non
 | _,_,_,.bl b,e=>by cases e; exact .bl b
 | _,_,_,.int i,e=>by cases e; exact .int i
 | _,_,_,.str x,e=>by cases e; exact .str x
 | _,_,_,.tup h t,e=>by
  obtain ⟨q,e1,rfl⟩:=Option.map_eq_some_iff.mp e
  exact .tup h (RDs.dp t e1)
 | _,_,_,.lst h t,e=>by
  obtain ⟨q,e1,rfl⟩:=Option.map_eq_some_iff.mp e
  exact .lst (SqL.of h) (RDs.dp t e1)
 | _,_,_,.dic _ _ _,e=>by cases e
 | _,_,_,.brd _,e=>by cases e
 | _,_,_,.cell _,e=>by cases e
 | _,_,_,.scr _,e=>by cases e
 | _,_,_,.obj _ _ _ _,e=>by cases e
 | _,_,_,.err _ _ _,e=>by cases e
theorem RDs.dp : ∀ {vs : List V} {ds : List D} {qs : List PyData},RDs K R G ρ vs ds → pys ds = some qs → DpAll K G vs qs
 | _,_,_,.nil,e=>by cases e; exact .nil
 | _,_,_,.cons (d:=d) (ds:=ds) h t,e=>by
  have e : (match d.py,pys ds with | some p,some q=>some (p :: q) | _,_=>none) = some _:=e
  cases e1 : d.py with
  | none=>rw [e1] at e; cases e
  | some p=>
   cases e2 : pys ds with
   | none=>rw [e1,e2] at e; cases e
   | some q=>
    rw [e1,e2] at e
    cases e
    exact .cons (RD.dp h e1) (RDs.dp t e2)
end
theorem RDs.len {vs : List V} {ds : List D} : RDs K R G ρ vs ds → vs.length = ds.length
 | .nil=>rfl
 | .cons _ t=>congrArg (· + 1) (RDs.len t)
theorem RDs.get {v : V} : ∀ {vs : List V} {ds : List D} {i : Nat},RDs K R G ρ vs ds → vs[i]? = some v → ∃ d,ds[i]? = some d ∧ RD K R G ρ v d
 | _,_,_,.nil,e=>by simp at e
 | _,_,0,.cons h _,e=>by simp at e; subst e; exact ⟨_,rfl,h⟩
 | _,_,i + 1,.cons _ t,e=>by
  obtain ⟨d,h1,h2⟩:=RDs.get (i:=i) t (by simpa using e)
  exact ⟨d,by simpa using h1,h2⟩
theorem RDs.at {d : D} : ∀ {vs : List V} {ds : List D} {i : Nat},RDs K R G ρ vs ds → ds[i]? = some d → ∃ v,vs[i]? = some v ∧ RD K R G ρ v d
 | _,_,_,.nil,e=>by simp at e
 | _,_,0,.cons h _,e=>by simp at e; subst e; exact ⟨_,rfl,h⟩
 | _,_,i + 1,.cons _ t,e=>by
  obtain ⟨v,h1,h2⟩:=RDs.at (i:=i) t (by simpa using e)
  exact ⟨v,by simpa using h1,h2⟩
theorem RDs.app {ws : List V} {es : List D} (q : RDs K R G ρ ws es) : ∀ {vs : List V} {ds : List D},RDs K R G ρ vs ds → RDs K R G ρ (vs ++ ws) (ds ++ es)
 | _,_,.nil=>q
 | _,_,.cons h t=>.cons h (RDs.app q t)
theorem RDs.take : ∀ {vs : List V} {ds : List D} {n : Nat},RDs K R G ρ vs ds → RDs K R G ρ (vs.take n) (ds.take n)
 | _,_,_,.nil=>by simp; exact .nil
 | _,_,0,.cons _ _=>.nil
 | _,_,n + 1,.cons h t=>.cons h (RDs.take (n:=n) t)
theorem RDs.drop : ∀ {vs : List V} {ds : List D} {n : Nat},RDs K R G ρ vs ds → RDs K R G ρ (vs.drop n) (ds.drop n)
 | _,_,_,.nil=>by simp; exact .nil
 | _,_,0,.cons h t=>.cons h t
 | _,_,n + 1,.cons _ t=>RDs.drop (n:=n) t
theorem RDs.set {v : V} {d : D} (h : RD K R G ρ v d) : ∀ {vs : List V} {ds : List D} (i : Nat),RDs K R G ρ vs ds → RDs K R G ρ (vs.set i v) (ds.set i d)
 | _,_,_,.nil=>.nil
 | _,_,0,.cons _ t=>.cons h t
 | _,_,i + 1,.cons q t=>.cons q (RDs.set h i t)
theorem RDs.rev {vs : List V} {ds : List D} (h : RDs K R G ρ vs ds) : RDs K R G ρ vs.reverse ds.reverse:=by
 induction vs generalizing ds with
 | nil=>cases h; exact .nil
 | cons v vs ih=>
  cases h with
  | cons h t=>
   rw [List.reverse_cons,List.reverse_cons]
   exact RDs.app (.cons h .nil) (ih t)
end
inductive Sl where
 | d (x : D) | ol (ds : List D) | od (ks : List Key) (ds : List D)
def Sl.own : Sl → Bool
 | .d _=>false
 | _=>true
abbrev Env:=List (Option Sl)
structure S where
 env : Env
 cs : List (List D)
structure Bs where
 G : Hp
 H : Hp
 ρ : List Addr
def Own (e : Env) (σ : L2.St) (a : Addr) : Prop:=∃ (i : Nat) (x : Sl),e[i]? = some (some x) ∧ x.own = true ∧ σ[i]? = some (some (.ref a))
def notT (o : HO) : Prop:=∀ ps,o ≠ .tbl ps
def lamq (q : Str) (st : Stmt) : Str:=(envOfC q (defScope st) 0 0 .none).qual ++ "<lambda>"
structure Le (G H : Hp) (ρ : List Addr) (G' H' : Hp) (ρ' : List Addr) : Prop where
 gg : ZC G G'
 keep : ∀ a o,H a = some o → a ∉ ρ → G a = none → notT o → H' a = some o
 there : ∀ a,H a ≠ none → H' a ≠ none
 gnew : ∀ a,G' a ≠ none → G a ≠ none ∨ H a = none ∨ a ∈ ρ
 pre : ∃ t,ρ' = ρ ++ t ∧ ∀ a ∈ t,H a = none
structure Fr (σ : L2.St) (e : Env) (G H : Hp) (ρ : List Addr) (e' : Env) (G' H' : Hp) (ρ' : List Addr) : Prop where
 gg : ZC G G'
 keep : ∀ a o,H a = some o → a ∉ ρ → ¬ Own e σ a → G a = none → notT o → H' a = some o
 there : ∀ a,H a ≠ none → H' a ≠ none
 gnew : ∀ a,G' a ≠ none → G a ≠ none ∨ H a = none ∨ Own e σ a ∨ a ∈ ρ
 pre : ∃ t,ρ' = ρ ++ t ∧ ∀ a ∈ t,H a = none
 own : ∀ a,Own e' σ a → Own e σ a
section
variable {G H G' H' G2 H2 : Hp} {ρ ρ' ρ2 : List Addr} {σ : L2.St} {e e' e2 : Env}
theorem Le.refl : Le G H ρ G H ρ:=⟨.refl,fun _ _ h _ _ _=>h,fun _ h=>h,fun _ h=>.inl h,[],by simp,fun _ h=>by cases h⟩
theorem Fr.refl : Fr σ e G H ρ e G H ρ:=⟨.refl,fun _ _ h _ _ _ _=>h,fun _ h=>h,fun _ h=>.inl h,⟨[],by simp,fun _ h=>by cases h⟩,fun _ h=>h⟩
theorem ZB {o : HO} {a : Addr} (h : H a = some o) : H a ≠ none:=by rw [h]; exact nofun
theorem ZSe {a : Addr} (h : H a ≠ none) : ∃ o,H a = some o:=by
 cases q : H a with
 | none=>exact absurd q h
 | some o=>exact ⟨o,rfl⟩
theorem Fr.prf (f : Fr σ e G H ρ e' G' H' ρ') : ρ <+: ρ':=by
 obtain ⟨t,rfl,_⟩:=f.pre
 exact ⟨t,rfl⟩
theorem Fr.gno (f : Fr σ e G H ρ e' G' H' ρ') {a : Addr} {o : HO} (h : H a = some o) (n : a ∉ ρ) (no : ¬ Own e σ a) (g : G a = none) : G' a = none:=by
 cases q : G' a with
 | none=>rfl
 | some u=>
  rcases f.gnew a (ZB q) with z | z | z | z
  ·exact absurd g z
  ·rw [h] at z; cases z
  ·exact absurd z no
  ·exact absurd z n
theorem Fr.trans (f : Fr σ e G H ρ e' G' H' ρ') (g : Fr σ e' G' H' ρ' e2 G2 H2 ρ2) : Fr σ e G H ρ e2 G2 H2 ρ2:=by
 obtain ⟨t,et,ht⟩:=f.pre
 obtain ⟨u,eu,hu⟩:=g.pre
 refine ⟨f.gg.trans g.gg,fun a o h n no gn nt=>?_,fun a h=>g.there a (f.there a h),fun a h=>?_,⟨t ++ u,by rw [eu,et,List.append_assoc],fun a ha=>?_⟩,fun a h=>f.own a (g.own a h)⟩
 ·refine g.keep a o (f.keep a o h n no gn nt) ?_ (fun q=>no (f.own a q)) (f.gno h n no gn) nt
  rw [et]
  intro q
  rcases List.mem_append.mp q with q | q
  ·exact n q
  ·exact ZB h (ht a q)
 ·rcases g.gnew a h with h | h | h | h
  ·exact f.gnew a h
  ·refine .inr (.inl ?_)
   cases q : H a with
   | none=>rfl
   | some o=>exact absurd h (f.there a (ZB q))
  ·exact .inr (.inr (.inl (f.own a h)))
  ·rw [et] at h
   rcases List.mem_append.mp h with q | q
   ·exact .inr (.inr (.inr q))
   ·exact .inr (.inl (ht a q))
 ·rcases List.mem_append.mp ha with q | q
  ·exact ht a q
  ·cases z : H a with
   | none=>rfl
   | some o=>exact absurd (hu a q) (f.there a (ZB z))
end
def ZPh : List D → Bool
 | [.dic [] [_]]=>true
 | _=>false
def objL (c : Nat) (es : List D) : List D:=[.dic [] [.obj c es]]
def MapB (w : World) (a : Addr) (xs : List (NestedKey × Addr × Value)) (h : Heap) : Prop:=(a == sysModules) = false ∧ xs.length ≤ 100000 ∧ ∃ o es ep,h.get? a = some o ∧ o.ExactDict ∧ o.data = .dict es ep ∧
 es.toList = xs.map (fun x=>(⟨x.1.hash w,.ref x.2.1,x.2.2⟩ : DictEntry)) ∧ (xs.map (·.1)).Nodup ∧ ∀ x ∈ xs,x.1.depth ≤ 8
mutual
def D.nk : D → Option NestedKey
 | .non=>some .none
 | .bl b=>some (.num (if b = true then 1 else 0))
 | .int i=>some (.num i)
 | .str x=>some (.text x)
 | .tup ds=>(nks ds).map .tup
 | .lst _=>none
 | .dic _ _=>none
 | .brd _ _=>none
 | .cell _=>none
 | .scr _=>none
 | .obj _ _=>none
 | .err _ _=>none
def nks : List D → Option (List NestedKey)
 | []=>some []
 | d :: r=>match d.nk,nks r with
  | some p,some q=>some (p :: q)
  | _,_=>none
end
def mapL (ks vs : List D) : List D:=[.dic [] [.dic [] [.lst ks,.lst vs]]]
def mapF (ks vs : List D) : List D:=[.dic [] [.dic [] [.lst ks,.lst vs,.non]]]
def TabG (G H : Hp) (a : Addr) (q : Str) : Prop:=∃ ps : Array Value,H a = some (.tbl ps) ∧ TriplesOk ps.toList ∧ ∀ (pos : Pos) (cv : Value),codeAmong pos ps.toList = some cv → ∃ c,cv = .ref c ∧ G c = some (LamX.CodeO c q)
theorem TabG.go {G G' H H' : Hp} {a : Addr} {q : Str} (t : TabG G H a q) (gg : ZC G G') (e : H' a = H a) : TabG G' H' a q:=by
 obtain ⟨ps,h1,h2,h3⟩:=t
 refine ⟨ps,e.trans h1,h2,fun pos cv hc=>?_⟩
 obtain ⟨c,e1,e2⟩:=h3 pos cv hc
 exact ⟨c,e1,gg.at e2 (fun kvs z=>by unfold LamX.CodeO at z; cases z)⟩
def Tups (G H : Hp) : Prop:=∀ a o,H a = some o → ZCf o = true → G a = some o
section
variable (K : PySem.W.Frag) (R : OR) (b : Bs) (G : Hp) (ρ : List Addr)
def Z5k (H : Hp) (v : V) : Sl → Prop
 | .d x=>RD K R G ρ v x
 | .ol ds=>∃ a xs,v = .ref a ∧ b.H a = none ∧ G a = none ∧ a ∉ ρ ∧ H a = some (.lst xs) ∧ RDs K R G ρ xs ds
 | .od ks ds=>∃ a xs,v = .ref a ∧ b.H a = none ∧ G a = none ∧ a ∉ ρ ∧ H a = some (.dK (ks.zip xs)) ∧ ks.length = xs.length ∧ RDs K R G ρ xs ds
def Mf (cs : List (List D)) : Prop:=∀ (i : Nat) (a : Addr) (ks vs : List D),ρ[i]? = some a → cs[i]? = some (mapF ks vs) → ∃ od w xs ws,R.wld = some w ∧ G a = some (.frz od (.ext (MapB w a xs))) ∧ RDs K R G ρ (xs.map fun x=>V.ref x.2.1) ks ∧ RDs K R G ρ ws vs ∧ Vals ws (xs.map fun x=>x.2.2) ∧ ks.map D.nk = xs.map fun x=>some x.1
structure Cells (H : Hp) (cs : List (List D)) : Prop where
 tups : Tups G H
 nd : ρ.Nodup
 cl : cs.length = ρ.length
 th : ∀ a,a ∈ ρ → H a ≠ none
 at_ : ∀ (i : Nat) (a : Addr) (ds : List D),ρ[i]? = some a → cs[i]? = some ds → ZPh ds = false → G a = none ∧ ∃ xs,H a = some (.lst xs) ∧ RDs K R G ρ xs ds
 ob_ : ∀ (i : Nat) (a : Addr) (c : Nat) (es : List D),ρ[i]? = some a → cs[i]? = some (objL c es) → G a = none ∧ ∃ C nms dx vs,R.cls c = some (C,nms) ∧ H a = some (.ins C dx (nms.zip vs)) ∧ vs.length ≤ nms.length ∧ RDs K R G ρ vs es
 tab : ∀ (P : Addr) (q : Str),(P,q) ∈ R.tabs → G P = none ∧ TabG G H P q
 mp_ : ∀ (i : Nat) (a : Addr) (ks vs : List D),ρ[i]? = some a → cs[i]? = some (mapL ks vs) → G a = none ∧ ∃ w xs ws,R.wld = some w ∧ H a = some (.ext (MapB w a xs)) ∧ RDs K R G ρ (xs.map fun x=>V.ref x.2.1) ks ∧ RDs K R G ρ ws vs ∧ Vals ws (xs.map fun x=>x.2.2) ∧ ks.map D.nk = xs.map fun x=>some x.1
 mf_ : Mf K R G ρ cs
structure Rel (σ : L2.St) (H : Hp) (s : S) : Prop where
 le : Le b.G b.H b.ρ G H ρ
 sub : Same G H
 cells : Cells K R G ρ H s.cs
 el : s.env.length = σ.length
 env : ∀ (i : Nat) (x : Sl),s.env[i]? = some (some x) → ∃ v,σ[i]? = some (some v) ∧ Z5k K R b G ρ H v x
 sep : ∀ (i j : Nat) (x y : Sl) (a : Addr),s.env[i]? = some (some x) → s.env[j]? = some (some y) → x.own = true → y.own = true → σ[i]? = some (some (.ref a)) → σ[j]? = some (some (.ref a)) → i = j
end
end PL
end
section
namespace PL
open PySem PySem.Spec PyProof.Rows L2 Ev
section
variable {K : PySem.W.Frag} {R : OR} {b : Bs} {G H G' H' : Hp} {ρ ρ' : List Addr} {σ : L2.St} {s : S} {e' : Env} {cs' : List (List D)}
theorem Rel.ownB (r : Rel K R b G ρ σ H s) {a : Addr} (o : Own s.env σ a) : b.H a = none ∧ G a = none ∧ a ∉ ρ ∧ H a ≠ none:=by
 obtain ⟨i,x,e1,e2,e3⟩:=o
 obtain ⟨v,h1,h2⟩:=r.env i x e1
 rw [e3] at h1
 cases h1
 cases x with
 | d x=>cases e2
 | ol ds=>
  obtain ⟨a',xs,ea,h3,h4,h5,h6,_⟩:=h2
  cases ea
  exact ⟨h3,h4,h5,ZB h6⟩
 | od ks ds=>
  obtain ⟨a',xs,ea,h3,h4,h5,h6,_⟩:=h2
  cases ea
  exact ⟨h3,h4,h5,ZB h6⟩
theorem Rel.ownT (r : Rel K R b G ρ σ H s) {a : Addr} (h : Own s.env σ a) (ps : Array Value) : H a ≠ some (.tbl ps):=by
 obtain ⟨i,x,h1,h2,h3⟩:=h
 obtain ⟨v,e,q⟩:=r.env i x h1
 rw [h3] at e
 cases e
 intro z
 cases x with
 | d _=>cases h2
 | ol _=>
  obtain ⟨c,xs,ec,_,_,_,w,_⟩:=q
  cases ec
  rw [w] at z; cases z
 | od _ _=>
  obtain ⟨c,xs,ec,_,_,_,w,_⟩:=q
  cases ec
  rw [w] at z; cases z
theorem Rel.leOf (r : Rel K R b G ρ σ H s) (f : Fr σ s.env G H ρ e' G' H' ρ') : Le b.G b.H b.ρ G' H' ρ':=by
 obtain ⟨t,et,ht⟩:=f.pre
 obtain ⟨u,eu,hu⟩:=r.le.pre
 refine ⟨r.le.gg.trans f.gg,fun a o h n gn nt=>?_,fun a h=>f.there a (r.le.there a h),fun a h=>?_,u ++ t,by rw [et,eu,List.append_assoc],fun a ha=>?_⟩
 ·refine f.keep a o (r.le.keep a o h n gn nt) ?_ (fun q=>ZB h (r.ownB q).1) ?_ nt
  rotate_left
  ·cases q : G a with
   | none=>rfl
   | some u=>
    rcases r.le.gnew a (ZB q) with z | z | z
    ·exact absurd gn z
    ·rw [h] at z; cases z
    ·exact absurd z n
  rw [eu]
  intro q
  rcases List.mem_append.mp q with q | q
  ·exact n q
  ·exact ZB h (hu a q)
 ·rcases f.gnew a h with h | h | h | h
  ·exact r.le.gnew a h
  ·refine .inr (.inl ?_)
   cases q : b.H a with
   | none=>rfl
   | some o=>exact absurd h (r.le.there a (ZB q))
  ·exact .inr (.inl (r.ownB h).1)
  ·rw [eu] at h
   rcases List.mem_append.mp h with q | q
   ·exact .inr (.inr q)
   ·exact .inr (.inl (hu a q))
 ·rcases List.mem_append.mp ha with q | q
  ·exact hu a q
  ·cases z : b.H a with
   | none=>rfl
   | some o=>exact absurd (ht a q) (r.le.there a (ZB z))
theorem Z5k.go (hR : Znb R) {v : V} {x : Sl} (h : Z5k K R b G ρ H v x) (gg : ZC G G') (p : ρ <+: ρ') (hw : ∀ a,v = .ref a → x.own = true → H' a = H a ∧ G' a = none ∧ a ∉ ρ') : Z5k K R b G' ρ' H' v x:=by
 cases x with
 | d x=>exact RD.mono hR gg p h
 | ol ds=>
  obtain ⟨a,xs,rfl,h1,h2,h3,h4,h5⟩:=h
  obtain ⟨w1,w2,w3⟩:=hw a rfl rfl
  exact ⟨a,xs,rfl,h1,w2,w3,w1.trans h4,RDs.mono hR gg p h5⟩
 | od ks ds=>
  obtain ⟨a,xs,rfl,h1,h2,h3,h4,h5,h6⟩:=h
  obtain ⟨w1,w2,w3⟩:=hw a rfl rfl
  exact ⟨a,xs,rfl,h1,w2,w3,w1.trans h4,h5,RDs.mono hR gg p h6⟩
theorem Cells.tabs_go {cs : List (List D)} (c : Cells K R G ρ H cs) (gg : ZC G G') (hb : ∀ P ps,H P = some (.tbl ps) → G P = none → H' P = some (.tbl ps) ∧ G' P = none) (P : Addr) (q : Str) (h : (P,q) ∈ R.tabs) : G' P = none ∧ TabG G' H' P q:=by
 obtain ⟨q1,q2⟩:=c.tab P q h
 obtain ⟨ps,e,_⟩:=id q2
 obtain ⟨w1,w2⟩:=hb P ps e q1
 exact ⟨w2,q2.go gg (w1.trans e.symm)⟩
theorem Mf.go (hR : Znb R) {cs : List (List D)} (m : Mf K R G ρ cs) (gg : ZC G G') : Mf K R G' ρ cs:=fun i a ks vs h1 h2=>by
 obtain ⟨od,w,xs,ws,q1,q2,q3,q4,q5,q6⟩:=m i a ks vs h1 h2
 exact ⟨od,w,xs,ws,q1,gg.at q2 (fun _ z=>by cases z),RDs.mono hR gg (List.prefix_refl _) q3,RDs.mono hR gg (List.prefix_refl _) q4,q5,q6⟩
theorem Mf.push (hR : Znb R) {cs : List (List D)} (m : Mf K R G ρ cs) (cl : cs.length = ρ.length) {a : Addr} {x : List D} (n : ∀ ks vs,x ≠ mapF ks vs) : Mf K R G (ρ ++ [a]) (cs ++ [x]):=fun i c ks vs h1 h2=>by
 by_cases hi : i < ρ.length
 ·rw [List.getElem?_append_left hi] at h1
  rw [List.getElem?_append_left (by rw [cl]; exact hi)] at h2
  obtain ⟨od,w,xs,ws,q1,q2,q3,q4,q5,q6⟩:=m i c ks vs h1 h2
  exact ⟨od,w,xs,ws,q1,q2,RDs.mono hR .refl (List.prefix_append _ _) q3,RDs.mono hR .refl (List.prefix_append _ _) q4,q5,q6⟩
 ·have hi2 : i = ρ.length:=by
   have:=(List.getElem?_eq_some_iff.mp h1).1
   rw [List.length_append] at this
   simp at this
   omega
  subst hi2
  rw [← cl,List.getElem?_append_right (Nat.le_refl _),Nat.sub_self] at h2
  exact absurd (Option.some.inj h2) (n ks vs)
theorem Cells.go (hR : Znb R) {cs : List (List D)} (c : Cells K R G ρ H cs) (gg : ZC G G') (ht : Tups G' H') (hw : ∀ a,a ∈ ρ → H' a ≠ none ∧ (G a = none → (∀ ps,H a ≠ some (.tbl ps)) → H' a = H a ∧ G' a = none))
  (hb : ∀ P q,(P,q) ∈ R.tabs → G' P = none ∧ TabG G' H' P q) : Cells K R G' ρ H' cs:=by
 refine ⟨ht,c.nd,c.cl,fun a ha=>(hw a ha).1,fun i a ds h1 h2 hd=>?_,fun i a cc es h1 h2=>?_,hb,fun i a ks us h1 h2=>?_,c.mf_.go hR gg⟩
 ·obtain ⟨q1,xs,q2,q3⟩:=c.at_ i a ds h1 h2 hd
  obtain ⟨w1,w2⟩:=(hw a (List.mem_of_getElem? h1)).2 q1 (fun _ z=>by rw [q2] at z; cases z)
  exact ⟨w2,xs,w1.trans q2,RDs.mono hR gg (List.prefix_refl _) q3⟩
 ·obtain ⟨q1,C,nms,dx,vs,q2,q3,q4,q5⟩:=c.ob_ i a cc es h1 h2
  obtain ⟨w1,w2⟩:=(hw a (List.mem_of_getElem? h1)).2 q1 (fun _ z=>by rw [q3] at z; cases z)
  exact ⟨w2,C,nms,dx,vs,q2,w1.trans q3,q4,RDs.mono hR gg (List.prefix_refl _) q5⟩
 ·obtain ⟨q1,w,xs,ws,q2,q3,q4,q5,q6⟩:=c.mp_ i a ks us h1 h2
  obtain ⟨w1,w2⟩:=(hw a (List.mem_of_getElem? h1)).2 q1 (fun _ z=>by rw [q3] at z; cases z)
  exact ⟨w2,w,xs,ws,q2,w1.trans q3,RDs.mono hR gg (List.prefix_refl _) q4,RDs.mono hR gg (List.prefix_refl _) q5,q6⟩
theorem ZWn {xs : List V} {c : Nat} {es : List D} (h : RDs K R G ρ xs (objL c es)) : False:=by
 cases h with
 | cons h _=>
  cases h with
  | dic h1 h2 h3=>
   cases h3 with
   | cons _ _=>cases h2
theorem ZVn {xs : List V} {ks vs : List D} (h : RDs K R G ρ xs (mapL ks vs)) : False:=by
 cases h with
 | cons h _=>
  cases h with
  | dic h1 h2 h3=>
   cases h3 with
   | cons _ _=>cases h2
theorem Znm {xs : List V} {ks vs : List D} (h : RDs K R G ρ xs (mapF ks vs)) : False:=by
 cases h with
 | cons h _=>
  cases h with
  | dic h1 h2 h3=>
   cases h3 with
   | cons _ _=>cases h2
theorem Cells.some {cs : List (List D)} (c : Cells K R G ρ H cs) {a : Addr} (h : a ∈ ρ) : H a ≠ none:=c.th a h
theorem Tups.new (h : Tups G H) {p : Addr} {o : HO} (hp : H p = none) (ho : ZCf o = false) : Tups G (upd H p o):=fun a u e t=>by
 by_cases ha : a = p
 ·subst ha; rw [upd_same] at e; cases e; rw [ho] at t; cases t
 ·rw [upd_ne ha] at e; exact h a u e t
theorem Rel.pure (hR : Znb R) (r : Rel K R b G ρ σ H s) (gg : ZC G G') (gh : Same G' H') (hh : Same H H') (gn : ∀ a,G' a ≠ none → G a ≠ none ∨ H a = none) (ht : Tups G' H') :
  Rel K R b G' ρ σ H' s ∧ Fr σ s.env G H ρ s.env G' H' ρ:=by
 have f : Fr σ s.env G H ρ s.env G' H' ρ:=⟨gg,fun a o h _ _ _ _=>hh a o h,fun a h=>by obtain ⟨o,e⟩:=ZSe h; exact ZB (hh a o e),fun a h=>by rcases gn a h with h | h; exact .inl h; exact .inr (.inl h),⟨[],by simp,fun _ h=>by cases h⟩,fun _ h=>h⟩
 have eqH : ∀ a,H a ≠ none → H' a = H a:=fun a h=>by obtain ⟨o,e⟩:=ZSe h; rw [e]; exact hh a o e
 have gN : ∀ a,H a ≠ none → G a = none → G' a = none:=fun a h1 h2=>by
  cases q : G' a with
  | none=>rfl
  | some o=>
   rcases gn a (ZB q) with z | z
   ·exact absurd h2 z
   ·exact absurd z h1
 refine ⟨⟨r.leOf f,gh,r.cells.go hR gg ht (fun a ha=>?_) (r.cells.tabs_go gg fun P ps e g=>⟨hh P _ e,gN P (ZB e) g⟩),r.el,fun i x e=>?_,r.sep⟩,f⟩
 ·have w1:=r.cells.some ha
  exact ⟨by rw [eqH a w1]; exact w1,fun q _=>⟨eqH a w1,gN a w1 q⟩⟩
 ·obtain ⟨v,h1,h2⟩:=r.env i x e
  refine ⟨v,h1,h2.go hR gg (List.prefix_refl _) fun a ev ho=>?_⟩
  subst ev
  obtain ⟨_,w2,w3,w4⟩:=r.ownB ⟨i,x,e,ho,h1⟩
  exact ⟨eqH a w4,gN a w4 w2,w3⟩
theorem Rel.new (hR : Znb R) (r : Rel K R b G ρ σ H s) {p : Addr} (o : HO) (hp : H p = none) :
  Rel K R b (upd G p o) ρ σ (upd H p o) s ∧ Fr σ s.env G H ρ s.env (upd G p o) (upd H p o) ρ:=by
 have gp : G p = none:=r.sub.free hp
 refine r.pure hR (ZA gp).r (fun a u h=>?_) (ZA hp) (fun a h=>?_) fun a u h ht=>?_
 rotate_left 2
 ·by_cases ha : a = p
  ·subst ha; rw [upd_same] at h ⊢; exact h
  ·rw [upd_ne ha] at h ⊢; exact r.cells.tups a u h ht
 ·by_cases ha : a = p
  ·subst ha; rw [upd_same] at h ⊢; exact h
  ·rw [upd_ne ha] at h ⊢; exact r.sub a u h
 ·by_cases ha : a = p
  ·subst ha; exact .inr hp
  ·rw [upd_ne ha] at h; exact .inl h
theorem Rel.call (hR : Znb R) (r : Rel K R b G ρ σ H s) (l : Le G H ρ G' H' ρ') (gh : Same G' H') (c : Cells K R G' ρ' H' cs') :
  Rel K R b G' ρ' σ H' ⟨s.env,cs'⟩ ∧ Fr σ s.env G H ρ s.env G' H' ρ':=by
 have f : Fr σ s.env G H ρ s.env G' H' ρ':=⟨l.gg,fun a o h n _ g nt=>l.keep a o h n g nt,l.there,fun a h=>by rcases l.gnew a h with h | h | h; exact .inl h; exact .inr (.inl h); exact .inr (.inr (.inr h)),l.pre,fun _ h=>h⟩
 refine ⟨⟨r.leOf f,gh,c,r.el,fun i x e=>?_,r.sep⟩,f⟩
 obtain ⟨v,h1,h2⟩:=r.env i x e
 refine ⟨v,h1,h2.go hR l.gg f.prf fun a ev ho=>?_⟩
 subst ev
 obtain ⟨_,w2,w3,w4⟩:=r.ownB ⟨i,x,e,ho,h1⟩
 obtain ⟨o,eo⟩:=ZSe w4
 refine ⟨by rw [eo]; exact l.keep a o eo w3 w2 (fun ps z=>r.ownT ⟨i,x,e,ho,h1⟩ ps (by rw [eo,z])),?_,?_⟩
 ·cases q : G' a with
  | none=>rfl
  | some u=>
   rcases l.gnew a (ZB q) with z | z | z
   ·exact absurd w2 z
   ·exact absurd z w4
   ·exact absurd z w3
 ·obtain ⟨t,et,ht⟩:=l.pre
  rw [et]
  intro q
  rcases List.mem_append.mp q with q | q
  ·exact w3 q
  ·exact w4 (ht a q)
theorem Z2 {α : Type} {l : List α} {i j : Nat} {x y : α} (h : (l.set i x)[j]? = some y) : (i = j ∧ x = y) ∨ (i ≠ j ∧ l[j]? = some y):=by
 rw [List.getElem?_set] at h
 split at h
 ·rename_i e
  split at h
  ·cases h; exact .inl ⟨e,rfl⟩
  ·cases h
 ·rename_i e
  exact .inr ⟨e,h⟩
theorem ZFp {α : Type} {l : List α} {i : Nat} {x y : α} (h : l[i]? = some y) : (l.set i x)[i]? = some x:=by
 rw [List.getElem?_set_self (List.getElem?_eq_some_iff.mp h).1]
theorem Zgc {α : Type} {l : List α} {i j : Nat} {x : α} (h : i ≠ j) : (l.set i x)[j]? = l[j]?:=List.getElem?_set_ne h
theorem Mf.set {K : PySem.W.Frag} {R : OR} {G : Hp} {ρ : List Addr} {cs : List (List D)} (m : Mf K R G ρ cs) {n : Nat} {x : List D} (h : ∀ ks vs,x ≠ mapF ks vs) : Mf K R G ρ (cs.set n x):=fun i c ks vs h1 h2=>by
 rcases Z2 h2 with ⟨_,q⟩ | ⟨_,q⟩
 ·exact absurd q (h ks vs)
 ·exact m i c ks vs h1 q
theorem Rel.freeze (hR : Znb R) (r : Rel K R b G ρ σ H s) {i : Nat} {y : Sl} {o : HO} {a : Addr} {x : D} (e : s.env[i]? = some (some y)) (ho : y.own = true) (ev : σ[i]? = some (some (.ref a))) (ha : H a = some o)
  (hx : RD K R (upd G a o) ρ (.ref a) x) : Rel K R b (upd G a o) ρ σ H ⟨s.env.set i (some (.d x)),s.cs⟩ ∧ Fr σ s.env G H ρ (s.env.set i (some (.d x))) (upd G a o) H ρ:=by
 obtain ⟨w1,w2,w3,w4⟩:=r.ownB ⟨i,y,e,ho,ev⟩
 have gg : ZC G (upd G a o):=(ZA w2).r
 have f : Fr σ s.env G H ρ (s.env.set i (some (.d x))) (upd G a o) H ρ:=by
  refine ⟨gg,fun _ _ h _ _ _ _=>h,fun _ h=>h,fun c h=>?_,⟨[],by simp,fun _ h=>by cases h⟩,fun c h=>?_⟩
  ·by_cases hc : c = a
   ·subst hc; exact .inr (.inr (.inl ⟨i,y,e,ho,ev⟩))
   ·rw [upd_ne hc] at h; exact .inl h
  ·obtain ⟨j,z,h1,h2,h3⟩:=h
   rcases Z2 h1 with ⟨rfl,q⟩ | ⟨_,q⟩
   ·cases q; cases h2
   ·exact ⟨j,z,q,h2,h3⟩
 refine ⟨⟨r.leOf f,fun c u h=>?_,r.cells.go hR gg (fun c u h ht=>gg.tup (r.cells.tups c u h ht) ht) (fun c hc=>⟨r.cells.th c hc,fun q _=>⟨rfl,?_⟩⟩) (r.cells.tabs_go gg fun P ps z g=>⟨z,by rw [upd_ne fun q=>r.ownT ⟨i,y,e,ho,ev⟩ ps (by rw [← q]; exact z)]; exact g⟩),by rw [List.length_set]; exact r.el,fun j z h1=>?_,fun j k z t c h1 h2 h3 h4 h5 h6=>?_⟩,f⟩
 ·by_cases hc : c = a
  ·subst hc; rw [upd_same] at h; cases h; exact ha
  ·rw [upd_ne hc] at h; exact r.sub c u h
 ·rw [upd_ne fun q=>w3 (by rw [← q]; exact hc)]
  exact q
 ·rcases Z2 h1 with ⟨rfl,q⟩ | ⟨ne,q⟩
  ·cases q
   exact ⟨_,ev,hx⟩
  ·obtain ⟨v,h2,h3⟩:=r.env j z q
   refine ⟨v,h2,h3.go hR gg (List.prefix_refl _) fun c ec hz=>?_⟩
   subst ec
   obtain ⟨_,v2,v3,_⟩:=r.ownB ⟨j,z,q,hz,h2⟩
   exact ⟨rfl,by rw [upd_ne fun t=>ne (r.sep i j y z a e q ho hz ev (by rw [← t]; exact h2))]; exact v2,v3⟩
 ·rcases Z2 h1 with ⟨rfl,q⟩ | ⟨_,q⟩
  ·cases q; cases h3
  ·rcases Z2 h2 with ⟨rfl,q'⟩ | ⟨_,q'⟩
   ·cases q'; cases h4
   ·exact r.sep j k z t c q q' h3 h4 h5 h6
theorem Rel.write (hR : Znb R) (r : Rel K R b G ρ σ H s) {i : Nat} {y z : Sl} {o : HO} {a : Addr} (e : s.env[i]? = some (some y)) (ho : y.own = true) (ev : σ[i]? = some (some (.ref a))) (hz : z.own = true) (hnt : ZCf o = false)
  (hx : b.H a = none → G a = none → a ∉ ρ → Z5k K R b G ρ (upd H a o) (.ref a) z) : Rel K R b G ρ σ (upd H a o) ⟨s.env.set i (some z),s.cs⟩ ∧ Fr σ s.env G H ρ (s.env.set i (some z)) G (upd H a o) ρ:=by
 obtain ⟨w1,w2,w3,w4⟩:=r.ownB ⟨i,y,e,ho,ev⟩
 have f : Fr σ s.env G H ρ (s.env.set i (some z)) G (upd H a o) ρ:=by
  refine ⟨.refl,fun c u h n no _ _=>?_,fun c h=>?_,fun c h=>.inl h,⟨[],by simp,fun _ h=>by cases h⟩,fun c h=>?_⟩
  ·rw [upd_ne fun q=>no (by rw [q]; exact ⟨i,y,e,ho,ev⟩)]; exact h
  ·by_cases hc : c = a
   ·subst hc; rw [upd_same]; exact nofun
   ·rw [upd_ne hc]; exact h
  ·obtain ⟨j,t,h1,h2,h3⟩:=h
   rcases Z2 h1 with ⟨rfl,q⟩ | ⟨_,q⟩
   ·rw [ev] at h3; cases h3; exact ⟨i,y,e,ho,ev⟩
   ·exact ⟨j,t,q,h2,h3⟩
 refine ⟨⟨r.leOf f,fun c u h=>?_,r.cells.go hR .refl (fun c u h ht=>by
  by_cases hc : c = a
  ·subst hc; rw [upd_same] at h; cases h; rw [hnt] at ht; cases ht
  ·rw [upd_ne hc] at h; exact r.cells.tups c u h ht) (fun c hc=>have eq:=upd_ne (H:=H) (o:=o) fun q=>w3 (by rw [← q]; exact hc); ⟨by rw [eq]; exact r.cells.th c hc,fun q _=>⟨eq,q⟩⟩) (r.cells.tabs_go .refl fun P ps z g=>⟨by rw [upd_ne fun q=>r.ownT ⟨i,y,e,ho,ev⟩ ps (by rw [← q]; exact z)]; exact z,g⟩),by rw [List.length_set]; exact r.el,fun j t h1=>?_,fun j k t u c h1 h2 h3 h4 h5 h6=>?_⟩,f⟩
 ·rw [upd_ne (fun q=>by rw [q,w2] at h; cases h)]
  exact r.sub c u h
 ·rcases Z2 h1 with ⟨rfl,q⟩ | ⟨ne,q⟩
  ·cases q
   exact ⟨_,ev,hx w1 w2 w3⟩
  ·obtain ⟨v,h2,h3⟩:=r.env j t q
   refine ⟨v,h2,h3.go hR .refl (List.prefix_refl _) fun c ec ht=>?_⟩
   subst ec
   obtain ⟨_,v2,v3,_⟩:=r.ownB ⟨j,t,q,ht,h2⟩
   exact ⟨upd_ne fun q'=>ne (r.sep i j y t a e q ho ht ev (by rw [← q']; exact h2)),v2,v3⟩
 ·rcases Z2 h1 with ⟨rfl,q⟩ | ⟨_,q⟩
  ·rcases Z2 h2 with ⟨rfl,q'⟩ | ⟨_,q'⟩
   ·rfl
   ·exact r.sep i k y u c e q' ho h4 h5 h6
  ·rcases Z2 h2 with ⟨rfl,q'⟩ | ⟨_,q'⟩
   ·exact r.sep j i t y c q e h3 ho h5 h6
   ·exact r.sep j k t u c q q' h3 h4 h5 h6
theorem Rel.setD (r : Rel K R b G ρ σ H s) (i : Nat) {v : V} {x : D} (h : RD K R G ρ v x) : Rel K R b G ρ (σ.set i (some v)) H ⟨s.env.set i (some (.d x)),s.cs⟩:=by
 refine ⟨r.le,r.sub,r.cells,by rw [List.length_set,List.length_set]; exact r.el,fun j z h1=>?_,fun j k z t c h1 h2 h3 h4 h5 h6=>?_⟩
 ·rcases Z2 h1 with ⟨rfl,q⟩ | ⟨ne,q⟩
  ·cases q
   refine ⟨v,?_,h⟩
   have l1 : i < s.env.length:=by have:=(List.getElem?_eq_some_iff.mp h1).1; rwa [List.length_set] at this
   rw [List.getElem?_set_self (by rw [← r.el]; exact l1)]
  ·obtain ⟨w,h2,h3⟩:=r.env j z q
   exact ⟨w,by rw [Zgc ne]; exact h2,h3⟩
 ·rcases Z2 h1 with ⟨rfl,q⟩ | ⟨n1,q⟩
  ·cases q; cases h3
  ·rcases Z2 h2 with ⟨rfl,q'⟩ | ⟨n2,q'⟩
   ·cases q'; cases h4
   ·rw [Zgc n1] at h5
    rw [Zgc n2] at h6
    exact r.sep j k z t c q q' h3 h4 h5 h6
theorem Rel.setO (r : Rel K R b G ρ σ H s) (i : Nat) {a : Addr} {x : Sl} (h : Z5k K R b G ρ H (.ref a) x) (hx : x.own = true) (n : ¬ Own s.env σ a) : Rel K R b G ρ (σ.set i (some (.ref a))) H ⟨s.env.set i (some x),s.cs⟩:=by
 refine ⟨r.le,r.sub,r.cells,by rw [List.length_set,List.length_set]; exact r.el,fun j z h1=>?_,fun j k z t c h1 h2 h3 h4 h5 h6=>?_⟩
 ·rcases Z2 h1 with ⟨rfl,q⟩ | ⟨ne,q⟩
  ·cases q
   refine ⟨.ref a,?_,h⟩
   have l1 : i < s.env.length:=by have:=(List.getElem?_eq_some_iff.mp h1).1; rwa [List.length_set] at this
   rw [List.getElem?_set_self (by rw [← r.el]; exact l1)]
  ·obtain ⟨w,h2,h3⟩:=r.env j z q
   exact ⟨w,by rw [Zgc ne]; exact h2,h3⟩
 ·rcases Z2 h1 with ⟨rfl,q⟩ | ⟨n1,q⟩
  ·rcases Z2 h2 with ⟨rfl,q'⟩ | ⟨n2,q'⟩
   ·rfl
   ·cases q
    have l1 : i < s.env.length:=by have:=(List.getElem?_eq_some_iff.mp h1).1; rwa [List.length_set] at this
    rw [List.getElem?_set_self (by rw [← r.el]; exact l1)] at h5
    cases h5
    rw [Zgc n2] at h6
    exact absurd ⟨k,t,q',h4,h6⟩ n
  ·rcases Z2 h2 with ⟨rfl,q'⟩ | ⟨n2,q'⟩
   ·have l1 : i < s.env.length:=by have:=(List.getElem?_eq_some_iff.mp h2).1; rwa [List.length_set] at this
    rw [List.getElem?_set_self (by rw [← r.el]; exact l1)] at h6
    cases h6
    rw [Zgc n1] at h5
    exact absurd ⟨j,z,q,h3,h5⟩ n
   ·rw [Zgc n1] at h5
    rw [Zgc n2] at h6
    exact r.sep j k z t c q q' h3 h4 h5 h6
theorem Rel.drop (r : Rel K R b G ρ σ H s) {e' : Env} {σ' : L2.St} (hl : e'.length = σ'.length) (h : ∀ (i : Nat) (x : Sl),e'[i]? = some (some x) → s.env[i]? = some (some x) ∧ σ'[i]? = σ[i]?) : Rel K R b G ρ σ' H ⟨e',s.cs⟩:=by
 refine ⟨r.le,r.sub,r.cells,hl,fun j z h1=>?_,fun j k z t c h1 h2 h3 h4 h5 h6=>?_⟩
 ·obtain ⟨q1,q2⟩:=h j z h1
  obtain ⟨v,e1,e2⟩:=r.env j z q1
  exact ⟨v,q2.trans e1,e2⟩
 ·obtain ⟨q1,q2⟩:=h j z h1
  obtain ⟨q3,q4⟩:=h k t h2
  exact r.sep j k z t c q1 q3 h3 h4 (q2 ▸ h5) (q4 ▸ h6)
theorem Rel.putC (hR : Znb R) (r : Rel K R b G ρ σ H s) {i : Nat} {a : Addr} {xs : List V} {ds es : List D} (ea : ρ[i]? = some a) (ec : s.cs[i]? = some es) (hl : ZPh es = false) (h : RDs K R G ρ xs ds) :
  Rel K R b G ρ σ (upd H a (.lst xs)) ⟨s.env,s.cs.set i ds⟩:=by
 have hm:=List.mem_of_getElem? ea
 have w1:=r.cells.some hm
 have w2:=(r.cells.at_ i a es ea ec hl).1
 have bi : i < b.ρ.length ∨ b.H a = none:=by
  obtain ⟨t,et,ht⟩:=r.le.pre
  by_cases hi : i < b.ρ.length
  ·exact .inl hi
  ·rw [et,List.getElem?_append_right (by omega)] at ea
   exact .inr (ht a (List.mem_of_getElem? ea))
 have hno : ∀ c,Own s.env σ c → c ≠ a:=fun c h q=>(r.ownB h).2.2.1 (by rw [q]; exact hm)
 refine ⟨⟨r.le.gg,fun c o h n gn nt=>?_,fun c h=>?_,r.le.gnew,r.le.pre⟩,fun c u h=>?_,⟨fun c u h ht=>by
  by_cases hc : c = a
  ·subst hc; rw [upd_same] at h; cases h; cases ht
  ·rw [upd_ne hc] at h; exact r.cells.tups c u h ht,r.cells.nd,by rw [List.length_set]; exact r.cells.cl,fun c hc=>by
  by_cases q : c = a
  ·subst q; rw [upd_same]; exact nofun
  ·rw [upd_ne q]; exact r.cells.th c hc,fun j c es h1 h2 hd=>?_,fun j c k es h1 h2=>?_,fun P q h1=>?_,fun j c ks us h1 h2=>?_,r.cells.mf_.set fun ks us z=>Znm (z ▸ h)⟩,r.el,fun j x e=>?_,r.sep⟩
 ·have ne : c ≠ a:=fun q=>by
   subst q
   obtain ⟨t,et,ht⟩:=r.le.pre
   rcases bi with bi | bi
   ·rw [et,List.getElem?_append_left bi] at ea
    exact n (List.mem_of_getElem? ea)
   ·rw [bi] at h; cases h
  rw [upd_ne ne]
  exact r.le.keep c o h n gn nt
 ·by_cases hc : c = a
  ·subst hc; rw [upd_same]; exact nofun
  ·rw [upd_ne hc]; exact r.le.there c h
 ·rw [upd_ne (fun q=>by rw [q,w2] at h; cases h)]
  exact r.sub c u h
 ·by_cases hij : i = j
  ·subst hij
   rw [ea] at h1
   cases h1
   rcases Z2 h2 with ⟨_,q⟩ | ⟨q,_⟩
   ·subst q
    exact ⟨w2,xs,upd_same,h⟩
   ·exact absurd rfl q
  ·rw [Zgc hij] at h2
   obtain ⟨q1,ys,q2,q3⟩:=r.cells.at_ j c es h1 h2 hd
   have ne : c ≠ a:=fun q=>by
    subst q
    obtain ⟨l1,e1⟩:=List.getElem?_eq_some_iff.mp h1
    obtain ⟨l2,e2⟩:=List.getElem?_eq_some_iff.mp ea
    exact hij ((List.getElem_inj r.cells.nd).mp (e2.trans e1.symm))
   exact ⟨q1,ys,by rw [upd_ne ne]; exact q2,q3⟩
 ·by_cases hij : i = j
  ·subst hij
   rcases Z2 h2 with ⟨_,q⟩ | ⟨q,_⟩
   ·subst q
    exact (ZWn h).elim
   ·exact absurd rfl q
  ·rw [Zgc hij] at h2
   obtain ⟨q1,C,nms,dx,vs,q2,q3,q4,q5⟩:=r.cells.ob_ j c k es h1 h2
   have ne : c ≠ a:=fun q=>by
    subst q
    obtain ⟨l1,e1⟩:=List.getElem?_eq_some_iff.mp h1
    obtain ⟨l2,e2⟩:=List.getElem?_eq_some_iff.mp ea
    exact hij ((List.getElem_inj r.cells.nd).mp (e2.trans e1.symm))
   exact ⟨q1,C,nms,dx,vs,q2,by rw [upd_ne ne]; exact q3,q4,q5⟩
 ·obtain ⟨q1,q2⟩:=r.cells.tab P q h1
  obtain ⟨ps,e,_⟩:=id q2
  obtain ⟨_,zs,z1,_⟩:=r.cells.at_ i a es ea ec hl
  exact ⟨q1,q2.go .refl (upd_ne fun z=>by rw [z,z1] at e; cases e)⟩
 ·by_cases hij : i = j
  ·subst hij
   rcases Z2 h2 with ⟨_,q⟩ | ⟨q,_⟩
   ·subst q
    exact (ZVn h).elim
   ·exact absurd rfl q
  ·rw [Zgc hij] at h2
   obtain ⟨q1,w,xs,ws,q2,q3,q4⟩:=r.cells.mp_ j c ks us h1 h2
   have ne : c ≠ a:=fun q=>by
    subst q
    obtain ⟨l1,e1⟩:=List.getElem?_eq_some_iff.mp h1
    obtain ⟨l2,e2⟩:=List.getElem?_eq_some_iff.mp ea
    exact hij ((List.getElem_inj r.cells.nd).mp (e2.trans e1.symm))
   exact ⟨q1,w,xs,ws,q2,by rw [upd_ne ne]; exact q3,q4⟩
 ·obtain ⟨v,h1,h2⟩:=r.env j x e
  refine ⟨v,h1,h2.go hR .refl (List.prefix_refl _) fun c ec hx=>?_⟩
  subst ec
  have ow : Own s.env σ c:=⟨j,x,e,hx,h1⟩
  obtain ⟨_,v2,v3,_⟩:=r.ownB ow
  exact ⟨upd_ne (hno c ow),v2,v3⟩
end
end PL
end
section
namespace PL
open PySem PySem.Spec PyProof.Rows L2 Ev
abbrev FD:=S → Option (D × S)
abbrev FO:=S → Option (List D × S)
abbrev FT:=S → Option (Bool × S)
section
variable (K : PySem.W.Frag) (R : OR)
def KD (b : Bs) (σ : L2.St) (e : Env) (G H : Hp) (ρ : List Addr) (s' : S) (r : D) (Q : VK) : Prop:=
 ∀ v G' ρ' H',Rel K R b G' ρ' σ H' s' → Fr σ e G H ρ s'.env G' H' ρ' → RD K R G' ρ' v r → Q v H'
def KO (b : Bs) (σ : L2.St) (e : Env) (G H : Hp) (ρ : List Addr) (s' : S) (r : List D) (Q : VK) : Prop:=
 ∀ a xs G' ρ' H',Rel K R b G' ρ' σ H' s' → Fr σ e G H ρ s'.env G' H' ρ' → b.H a = none → H a = none → G' a = none → a ∉ ρ' → ¬ Own s'.env σ a → H' a = some (.lst xs) → RDs K R G' ρ' xs r → Q (.ref a) H'
def KL (b : Bs) (σ : L2.St) (e : Env) (G H : Hp) (ρ : List Addr) (s' : S) (r : List D) (Q : List V → Hp → Prop) : Prop:=
 ∀ vs G' ρ' H',Rel K R b G' ρ' σ H' s' → Fr σ e G H ρ s'.env G' H' ρ' → RDs K R G' ρ' vs r → Q vs H'
def KT (b : Bs) (σ : L2.St) (e : Env) (G H : Hp) (ρ : List Addr) (s' : S) (Q : Hp → Prop) : Prop:=
 ∀ G' ρ' H',Rel K R b G' ρ' σ H' s' → Fr σ e G H ρ s'.env G' H' ρ' → Q H'
def tD (f : FD) : TE:=fun σ H Q=>∃ b G ρ s r s',Rel K R b G ρ σ H s ∧ f s = some (r,s') ∧ KD K R b σ s.env G H ρ s' r Q
def tO (f : FO) : TE:=fun σ H Q=>∃ b G ρ s r s',Rel K R b G ρ σ H s ∧ f s = some (r,s') ∧ KO K R b σ s.env G H ρ s' r Q
def tL (f : FO) : TA:=fun σ H Q=>∃ b G ρ s r s',Rel K R b G ρ σ H s ∧ f s = some (r,s') ∧ KL K R b σ s.env G H ρ s' r Q
def tTs (f : FT) : TT:=fun σ H Q=>∃ b G ρ s r s',Rel K R b G ρ σ H s ∧ f s = some (r,s') ∧ KT K R b σ s.env G H ρ s' (Q r)
def rD2 (g : D → D → Option D) : R2:=fun x y H Q=>∃ b G ρ σ s dx dy z,Rel K R b G ρ σ H s ∧ RD K R G ρ x dx ∧ RD K R G ρ y dy ∧ g dx dy = some z ∧ KD K R b σ s.env G H ρ s z Q
def rDL (g : List D → Option D) : List V → Hp → VK → Prop:=fun xs H Q=>∃ b G ρ σ s ds z,Rel K R b G ρ σ H s ∧ RDs K R G ρ xs ds ∧ g ds = some z ∧ KD K R b σ s.env G H ρ s z Q
def rOL (g : List D → Option (List D)) : List V → Hp → VK → Prop:=fun xs H Q=>∃ b G ρ σ s ds z,Rel K R b G ρ σ H s ∧ RDs K R G ρ xs ds ∧ g ds = some z ∧ KO K R b σ s.env G H ρ s z Q
def rO2 (g : D → D → Option (List D)) : R2:=fun x y H Q=>∃ b G ρ σ s dx dy z,Rel K R b G ρ σ H s ∧ RD K R G ρ x dx ∧ RD K R G ρ y dy ∧ g dx dy = some z ∧ KO K R b σ s.env G H ρ s z Q
end
def fVar (i : Nat) : FD:=fun s=>match s.env[i]? with
 | some (some (.d x))=>some (x,s)
 | some (some (.ol ds))=>some (.lst ds,⟨s.env.set i (some (.d (.lst ds))),s.cs⟩)
 | some (some (.od ks ds))=>some (.dic ks ds,⟨s.env.set i (some (.d (.dic ks ds))),s.cs⟩)
 | _=>none
def fC (x : D) : FD:=fun s=>some (x,s)
def fBin (g : D → D → Option D) (fa fb : FD) : FD:=fun s=>(fa s).bind fun p=>(fb p.2).bind fun q=>(g p.1 q.1).map fun z=>(z,q.2)
def Zin (g : D → D → Option (List D)) (fa fb : FD) : FO:=fun s=>(fa s).bind fun p=>(fb p.2).bind fun q=>(g p.1 q.1).map fun z=>(z,q.2)
def fUn (g : D → Option D) (fa : FD) : FD:=fun s=>(fa s).bind fun p=>(g p.1).map fun z=>(z,p.2)
def fNil : FO:=fun s=>some ([],s)
def Zb (fa : FD) (fr : FO) : FO:=fun s=>(fa s).bind fun p=>(fr p.2).bind fun q=>some (p.1 :: q.1,q.2)
def fTup (fl : FO) : FD:=fun s=>(fl s).bind fun p=>if p.1.length ≤ 100000 then some (.tup p.1,p.2) else none
def ZG (fl : FO) : FO:=fun s=>(fl s).bind fun p=>if p.1.length ≤ 100000 then some p else none
def fFz (fo : FO) : FD:=fun s=>(fo s).map fun p=>(.lst p.1,p.2)
def fIf (ft : FT) (fa fb : FD) : FD:=fun s=>(ft s).bind fun p=>if p.1 = true then fa p.2 else fb p.2
def fTst (fa : FD) : FT:=fun s=>(fa s).bind fun p=>match p.1 with
 | .bl c=>some (c,p.2)
 | _=>none
def fNot (fa : FT) : FT:=fun s=>(fa s).map fun p=>(!p.1,p.2)
def Zgn (fa fb : FD) : FD:=fun s=>(fa s).bind fun p=>match p.1 with
 | .bl true=>fb p.2
 | .bl false=>some (.bl false,p.2)
 | _=>none
def ZV (g : List D → Option D) (fl : FO) : FD:=fun s=>(fl s).bind fun p=>(g p.1).map fun z=>(z,p.2)
def ZCj (g : List D → Option (List D)) (fl : FO) : FO:=fun s=>(fl s).bind fun p=>(g p.1).map fun z=>(z,p.2)
section
variable {X : Cx} {R : OR} {e a c a' : Expr} {es : List Expr} {rest : List Expr} {t ta tb : TE} {fa fb fc f : FD} {fo fl : FO} {ft fu : FT} {pos : Pos}
theorem pd_w (h : PE X e t) (k : ∀ σ H Q,ta σ H Q → t σ H Q) : PE X e ta:=⟨fun pins s σ H Q I q=>h.run pins s σ H Q I (k σ H Q q)⟩
theorem pt_w {tt tu : TT} (h : PT X e tt) (k : ∀ σ H Q,tu σ H Q → tt σ H Q) : PT X e tu:=⟨fun pins s σ H Q I q=>h.run pins s σ H Q I (k σ H Q q)⟩
theorem pa_w {tt tu : TA} (h : PA X es tt) (k : ∀ σ H Q,tu σ H Q → tt σ H Q) : PA X es tu:=⟨fun ps pins s σ H Q I q=>h.run ps pins s σ H Q I (k σ H Q q)⟩
theorem Ze {α β : Type} {o : Option α} {k : α → Option β} {y : β} (h : o.bind k = some y) : ∃ x,o = some x ∧ k x = some y:=Option.bind_eq_some_iff.mp h
theorem Zm {α β : Type} {o : Option α} {k : α → β} {y : β} (h : o.map k = some y) : ∃ x,o = some x ∧ k x = y:=Option.map_eq_some_iff.mp h
variable (hR : Znb R)
include hR
theorem Zzp {i : Nat} {x : Str} (hN : X.N[i]? = some x) (hv : Vis X.env.scope x) (hd : (x == ("__debug__" : Str)) = false:=by decide) (hcd : (x == ("__classdict__" : Str)) = false:=by decide) : PE X (.Name x pos) (tD X.K R (fVar i)):=by
 refine pd_w (pe_var hN hv hd hcd) fun σ H Q ⟨b,G,ρ,s,r,s',rl,e,k⟩=>?_
 unfold fVar at e
 split at e
 ·rename_i x q
  cases e
  obtain ⟨v,h1,h2⟩:=rl.env i _ q
  exact ⟨v,h1,k v G ρ H rl .refl h2⟩
 ·rename_i ds q
  cases e
  obtain ⟨v,h1,a,xs,rfl,h3,h4,h5,h6,h7⟩:=rl.env i _ q
  have hx : RD X.K R (upd G a (.lst xs)) ρ (.ref a) (.lst ds):=.lst upd_same (h7.mono hR (ZA h4).r (List.prefix_refl _))
  obtain ⟨r1,f1⟩:=rl.freeze hR q rfl h1 h6 hx
  exact ⟨_,h1,k _ _ _ _ r1 f1 hx⟩
 ·rename_i ks ds q
  cases e
  obtain ⟨v,h1,a,xs,rfl,h3,h4,h5,h6,h6',h7⟩:=rl.env i _ q
  have hx : RD X.K R (upd G a (.dK (ks.zip xs))) ρ (.ref a) (.dic ks ds):=.dic (.inl upd_same) h6' (h7.mono hR (ZA h4).r (List.prefix_refl _))
  obtain ⟨r1,f1⟩:=rl.freeze hR q rfl h1 h6 hx
  exact ⟨_,h1,k _ _ _ _ r1 f1 hx⟩
 ·cases e
omit hR in
theorem pd_c {v : V} {x : D} (h : PE X e (tC v)) (hx : ∀ G ρ,RD X.K R G ρ v x) : PE X e (tD X.K R (fC x)):=by
 refine pd_w h fun σ H Q ⟨b,G,ρ,s,r,s',rl,e,k⟩=>?_
 cases e
 exact k v G ρ H rl .refl (hx G ρ)
omit hR in
theorem Zh {i j} : PE X (.Constant (.int i) j pos) (tD X.K R (fC (.int i))):=pd_c pe_int fun _ _=>.int i
omit hR in
theorem Z1d {i j} : PE X (.Constant (.bool i) j pos) (tD X.K R (fC (.bl i))):=pd_c pe_bl fun _ _=>.bl i
omit hR in
theorem ZYk {j} : PE X (.Constant .none j pos) (tD X.K R (fC .non)):=pd_c pe_non fun _ _=>.non
omit hR in
theorem Zi {x j} : PE X (.Constant (.str x) j pos) (tD X.K R (fC (.str x))):=pd_c pe_str fun _ _=>.str x
theorem Zf {op : Operator} {g : D → D → Option D} (ho : OpR X (binaryOp op) (rD2 X.K R g)) (ha : PE X a (tD X.K R fa)) (hb : PE X c (tD X.K R fb)) : PE X (.BinOp a op c pos) (tD X.K R (fBin g fa fb)):=by
 refine pd_w (pe_op ho ha hb) fun σ H Q ⟨b,G,ρ,s,r,s',rl,e,k⟩=>?_
 obtain ⟨⟨x,s1⟩,e1,e⟩:=Ze e
 obtain ⟨⟨y,s2⟩,e2,e⟩:=Ze e
 obtain ⟨z,e3,e⟩:=Zm e
 cases e
 refine ⟨b,G,ρ,s,x,s1,rl,e1,fun v G1 ρ1 H1 r1 f1 d1=>⟨b,G1,ρ1,s1,y,s2,r1,e2,fun w G2 ρ2 H2 r2 f2 d2=>?_⟩⟩
 exact ⟨b,G2,ρ2,σ,s2,x,y,_,r2,d1.mono hR f2.gg f2.prf,d2,e3,fun u G3 ρ3 H3 r3 f3 d3=>k u G3 ρ3 H3 r3 ((f1.trans f2).trans f3) d3⟩
theorem Zok {op : Operator} {g : D → D → Option (List D)} (ho : OpR X (binaryOp op) (rO2 X.K R g)) (ha : PE X a (tD X.K R fa)) (hb : PE X c (tD X.K R fb)) : PE X (.BinOp a op c pos) (tO X.K R (Zin g fa fb)):=by
 refine pd_w (pe_op ho ha hb) fun σ H Q ⟨b,G,ρ,s,r,s',rl,e,k⟩=>?_
 obtain ⟨⟨x,s1⟩,e1,e⟩:=Ze e
 obtain ⟨⟨y,s2⟩,e2,e⟩:=Ze e
 obtain ⟨z,e3,e⟩:=Zm e
 cases e
 refine ⟨b,G,ρ,s,x,s1,rl,e1,fun v G1 ρ1 H1 r1 f1 d1=>⟨b,G1,ρ1,s1,y,s2,r1,e2,fun w G2 ρ2 H2 r2 f2 d2=>?_⟩⟩
 refine ⟨b,G2,ρ2,σ,s2,x,y,_,r2,d1.mono hR f2.gg f2.prf,d2,e3,fun u xs G3 ρ3 H3 r3 f3 n0 n1 n2 n3 n4 n5 d3=>k u xs G3 ρ3 H3 r3 ((f1.trans f2).trans f3) n0 ?_ n2 n3 n4 n5 d3⟩
 cases q : H u with
 | none=>rfl
 | some o=>exact absurd n1 ((f1.trans f2).there u (ZB q))
theorem Zsm {op : CmpOp} {g : D → D → Option D} (ho : OpR X (compareOp op) (rD2 X.K R g)) (ha : PE X a (tD X.K R fa)) (hb : PE X c (tD X.K R fb)) (hm : behindInMarks op c = false) : PE X (.Compare a [op] [c] pos) (tD X.K R (fBin g fa fb)):=by
 refine pd_w (pe_cmpR ho ha hb hm) fun σ H Q ⟨b,G,ρ,s,r,s',rl,e,k⟩=>?_
 obtain ⟨⟨x,s1⟩,e1,e⟩:=Ze e
 obtain ⟨⟨y,s2⟩,e2,e⟩:=Ze e
 obtain ⟨z,e3,e⟩:=Zm e
 cases e
 refine ⟨b,G,ρ,s,x,s1,rl,e1,fun v G1 ρ1 H1 r1 f1 d1=>⟨b,G1,ρ1,s1,y,s2,r1,e2,fun w G2 ρ2 H2 r2 f2 d2=>?_⟩⟩
 exact ⟨b,G2,ρ2,σ,s2,x,y,_,r2,d1.mono hR f2.gg f2.prf,d2,e3,fun u G3 ρ3 H3 r3 f3 d3=>k u G3 ρ3 H3 r3 ((f1.trans f2).trans f3) d3⟩
theorem RD.bl_v {K : PySem.W.Frag} {G : Hp} {ρ : List Addr} {v : V} {c : Bool} (h : RD K R G ρ v (.bl c)) : v = .bl c:=by cases h; rfl
theorem pt_cmp {op : CmpOp} {g : D → D → Option D} (ho : OpR X (compareOp op) (rD2 X.K R g)) (ha : PE X a (tD X.K R fa)) (hb : PE X c (tD X.K R fb)) (hm : behindInMarks op c = false) : PT X (.Compare a [op] [c] pos) (tTs X.K R (fTst (fBin g fa fb))):=by
 refine pt_w (pt_cmpR ho ha hb hm) fun σ H Q ⟨b,G,ρ,s,r,s',rl,e,k⟩=>?_
 obtain ⟨⟨z,s2'⟩,e,e4⟩:=Ze e
 obtain ⟨⟨x,s1⟩,e1,e⟩:=Ze e
 obtain ⟨⟨y,s2⟩,e2,e⟩:=Ze e
 obtain ⟨z',e3,e⟩:=Zm e
 cases e
 dsimp only at e4
 split at e4
 ·rename_i cc
  cases e4
  refine ⟨b,G,ρ,s,x,s1,rl,e1,fun v G1 ρ1 H1 r1 f1 d1=>⟨b,G1,ρ1,s1,y,_,r1,e2,fun w G2 ρ2 H2 r2 f2 d2=>?_⟩⟩
  exact ⟨b,G2,ρ2,σ,_,x,y,_,r2,d1.mono hR f2.gg f2.prf,d2,e3,fun u G3 ρ3 H3 r3 f3 d3=>⟨_,RD.bl_v hR d3,k G3 ρ3 H3 r3 ((f1.trans f2).trans f3)⟩⟩
 ·cases e4
omit hR in
theorem ZZk (h : PE X e (tD X.K R f)) (he : ∀ whole,isTrue e X.env whole = (do let v ← whole; standAt e.pos; holding [v] (truthy v)):=by intro _; rfl) : PT X e (tTs X.K R (fTst f)):=by
 refine pt_w (pt_val h he) fun σ H Q ⟨b,G,ρ,s,r,s',rl,e,k⟩=>?_
 obtain ⟨⟨z,s2'⟩,e,e4⟩:=Ze e
 dsimp only at e4
 split at e4
 ·cases e4
  exact ⟨b,G,ρ,s,_,_,rl,e,fun v G1 ρ1 H1 r1 f1 d1=>⟨_,by cases d1; rfl,k G1 ρ1 H1 r1 f1⟩⟩
 ·cases e4
omit hR in
theorem Zxp (h : PT X a (tTs X.K R ft)) : PT X (.UnaryOp .Not a pos) (tTs X.K R (fNot ft)):=by
 refine pt_w (pt_not h) fun σ H Q ⟨b,G,ρ,s,r,s',rl,e,k⟩=>?_
 obtain ⟨⟨z,s1⟩,e1,e⟩:=Zm e
 cases e
 exact ⟨b,G,ρ,s,z,s1,rl,e1,k⟩
omit hR in
theorem Zyp {op} (h : PE X a (tD X.K R f)) : PE X (.BoolOp op [a] pos) (tD X.K R f):=pe_one h
omit hR in
theorem Ztp (h : PE X a (tD X.K R fa)) (h2 : PE X (.BoolOp .And (c :: rest) pos) (tD X.K R fb)) : PE X (.BoolOp .And (a :: c :: rest) pos) (tD X.K R (Zgn fa fb)):=by
 refine pd_w (pe_and h h2) fun σ H Q ⟨b,G,ρ,s,r,s',rl,e,k⟩=>?_
 obtain ⟨⟨z,s1⟩,e1,e⟩:=Ze e
 refine ⟨b,G,ρ,s,z,s1,rl,e1,fun v G1 ρ1 H1 r1 f1 d1=>?_⟩
 dsimp only at e
 split at e
 ·cases d1
  exact ⟨true,rfl,⟨b,G1,ρ1,s1,r,s',r1,e,fun v G2 ρ2 H2 r2 f2 d2=>k v G2 ρ2 H2 r2 (f1.trans f2) d2⟩⟩
 ·cases d1
  cases e
  exact ⟨false,rfl,k _ G1 ρ1 H1 r1 f1 (.bl false)⟩
 ·cases e
omit hR in
theorem Ztm (h : PT X c (tTs X.K R ft)) (ha : PE X a (tD X.K R fa)) (hb : PE X a' (tD X.K R fb)) : PE X (.IfExp c a a' pos) (tD X.K R (fIf ft fa fb)):=by
 refine pd_w (pe_ifExp h ha hb) fun σ H Q ⟨b,G,ρ,s,r,s',rl,e,k⟩=>?_
 obtain ⟨⟨z,s1⟩,e1,e⟩:=Ze e
 refine ⟨b,G,ρ,s,z,s1,rl,e1,fun G1 ρ1 H1 r1 f1=>?_⟩
 cases z with
 | true=>exact ⟨b,G1,ρ1,s1,r,s',r1,e,fun v G2 ρ2 H2 r2 f2 d2=>k v G2 ρ2 H2 r2 (f1.trans f2) d2⟩
 | false=>exact ⟨b,G1,ρ1,s1,r,s',r1,e,fun v G2 ρ2 H2 r2 f2 d2=>k v G2 ρ2 H2 r2 (f1.trans f2) d2⟩
omit hR in
theorem Zd : PA X [] (tL X.K R fNil):=by
 refine pa_w pa_nil fun σ H Q ⟨b,G,ρ,s,r,s',rl,e,k⟩=>?_
 cases e
 exact k [] G ρ H rl .refl .nil
theorem Za (h : PE X e (tD X.K R fa)) (h2 : PA X es (tL X.K R fl)) (hs : starEach (e :: es) X.env = (false,eval e X.env) :: starEach es X.env:=by rfl) : PA X (e :: es) (tL X.K R (Zb fa fl)):=by
 refine pa_w (pa_cons h h2 hs) fun σ H Q ⟨b,G,ρ,s,r,s',rl,e,k⟩=>?_
 obtain ⟨⟨x,s1⟩,e1,e⟩:=Ze e
 obtain ⟨⟨xs,s2⟩,e2,e⟩:=Ze e
 cases e
 refine ⟨b,G,ρ,s,x,s1,rl,e1,fun v G1 ρ1 H1 r1 f1 d1=>⟨b,G1,ρ1,s1,xs,s2,r1,e2,fun vs G2 ρ2 H2 r2 f2 d2=>?_⟩⟩
 exact k _ G2 ρ2 H2 r2 (f1.trans f2) (.cons (d1.mono hR f2.gg f2.prf) d2)
theorem Zr {x1} (h : PA X es (tL X.K R fl)) : PE X (.Tuple es x1 pos) (tD X.K R (fTup fl)):=by
 refine pd_w (pe_tup h) fun σ H Q ⟨b,G,ρ,s,r,s',rl,e,k⟩=>?_
 obtain ⟨⟨xs,s1⟩,e1,e⟩:=Ze e
 dsimp only at e
 split at e
 ·rename_i hl
  cases e
  refine ⟨b,G,ρ,s,xs,_,rl,e1,fun vs G1 ρ1 H1 r1 f1 d1=>⟨Zyb (by rw [d1.len]; exact hl),fun p hp=>?_⟩⟩
  obtain ⟨r2,f2⟩:=r1.new hR (.tup vs) hp
  exact k _ _ _ _ r2 (f1.trans f2) (.tup (SqT.of upd_same) (d1.mono hR f2.gg f2.prf))
 ·cases e
theorem Zo (h : PA X es (tL X.K R fl)) : PE X (.List es pos) (tO X.K R (ZG fl)):=by
 refine pd_w (pe_lst h) fun σ H Q ⟨b,G,ρ,s,r,s',rl,e,k⟩=>?_
 obtain ⟨⟨xs,s1⟩,e1,e⟩:=Ze e
 dsimp only at e
 split at e
 ·rename_i hl
  cases e
  refine ⟨b,G,ρ,s,_,_,rl,e1,fun vs G1 ρ1 H1 r1 f1 d1=>⟨Zyb (by rw [d1.len]; exact hl),fun p hp=>?_⟩⟩
  have gp:=r1.sub.free hp
  obtain ⟨r2,f2⟩:=r1.pure hR (G':=G1) .refl (r1.sub.trans (ZA hp)) (ZA hp) (fun _ h=>.inl h) (r1.cells.tups.new (o:=.lst vs) hp rfl)
  refine k p vs _ _ _ r2 (f1.trans f2) ?_ ?_ gp (fun q=>(r1.cells.some q) hp) (fun q=>(r1.ownB q).2.2.2 hp) upd_same d1
  ·cases z : b.H p with
   | none=>rfl
   | some o=>exact absurd hp (r1.le.there p (ZB z))
  ·cases z : H p with
   | none=>rfl
   | some o=>exact absurd hp (f1.there p (ZB z))
 ·cases e
theorem Rel.fz {K : PySem.W.Frag} {b : Bs} {G H : Hp} {ρ : List Addr} {σ : L2.St} {s : S} {a : Addr} {xs : List V} {ds : List D} (r : Rel K R b G ρ σ H s) (h0 : b.H a = none) (h1 : G a = none) (h2 : a ∉ ρ) (h3 : ¬ Own s.env σ a) (h4 : H a = some (.lst xs)) (h5 : RDs K R G ρ xs ds) :
  Rel K R b (upd G a (.lst xs)) ρ σ H s ∧ ZC G (upd G a (.lst xs)) ∧ RD K R (upd G a (.lst xs)) ρ (.ref a) (.lst ds):=by
 have gg : ZC G (upd G a (.lst xs)):=(ZA h1).r
 refine ⟨⟨⟨r.le.gg.trans gg,r.le.keep,r.le.there,fun c h=>?_,r.le.pre⟩,fun c o h=>?_,r.cells.go hR gg (fun c u h ht=>gg.tup (r.cells.tups c u h ht) ht) (fun c hc=>⟨r.cells.th c hc,fun q _=>⟨rfl,?_⟩⟩) (r.cells.tabs_go gg fun P ps z g=>⟨z,by rw [upd_ne fun q=>by rw [q,h4] at z; cases z]; exact g⟩),r.el,fun i x e=>?_,r.sep⟩,gg,.lst upd_same (h5.mono hR gg (List.prefix_refl _))⟩
 ·by_cases hc : c = a
  ·subst hc; exact .inr (.inl h0)
  ·rw [upd_ne hc] at h; exact r.le.gnew c h
 ·by_cases hc : c = a
  ·subst hc; rw [upd_same] at h; cases h; exact h4
  ·rw [upd_ne hc] at h; exact r.sub c o h
 ·rw [upd_ne fun q=>h2 (by rw [← q]; exact hc)]
  exact q
 ·obtain ⟨v,e1,e2⟩:=r.env i x e
  refine ⟨v,e1,e2.go hR gg (List.prefix_refl _) fun c ec hx=>?_⟩
  subst ec
  have ow : Own s.env σ c:=⟨i,x,e,hx,e1⟩
  obtain ⟨_,v2,v3,_⟩:=r.ownB ow
  exact ⟨rfl,by rw [upd_ne fun q=>h3 (by rw [← q]; exact ow)]; exact v2,v3⟩
theorem ZK (h : PE X e (tO X.K R fo)) : PE X e (tD X.K R (fFz fo)):=by
 refine pd_w h fun σ H Q ⟨b,G,ρ,s,r,s',rl,e,k⟩=>?_
 obtain ⟨⟨xs,s1⟩,e1,e⟩:=Zm e
 cases e
 refine ⟨b,G,ρ,s,xs,s1,rl,e1,fun a vs G1 ρ1 H1 r1 f1 n0 n1 n2 n3 n4 n5 d1=>?_⟩
 obtain ⟨r2,gg,d2⟩:=r1.fz hR n0 n2 n3 n4 n5 d1
 refine k _ _ _ _ r2 ⟨f1.gg.trans gg,f1.keep,f1.there,fun c h=>?_,f1.pre,f1.own⟩ d2
 by_cases hc : c = a
 ·subst hc; exact .inr (.inl n1)
 ·rw [upd_ne hc] at h; exact f1.gnew c h
theorem Z3c {x : Str} {id : String} {g : List D → Option D} {p : Pos} (hc : CallR X (.builtin id) (rDL X.K R g)) (hg : Gl X x) (hm : X.mg x = none) (hv : bootBuiltins x = some (.builtin id)) (ha : PA X (e :: es) (tL X.K R fl)) (hn : x ≠ "__name__":= by decide) (hdb : (x == ("__debug__" : Str)) = false:=by decide)
  (he : starEach (e :: es) X.env = (false,eval e X.env) :: starEach es X.env:=by rfl) (hpl : (backTo pos (starEach es X.env)).any (·.1) = false:=by rfl) : PE X (.Call (.Name x p) (e :: es) [] pos) (tD X.K R (ZV g fl)):=by
 refine pd_w (pe_callB hc hg hm hv ha hn hdb he hpl) fun σ H Q ⟨b,G,ρ,s,r,s',rl,e,k⟩=>?_
 obtain ⟨⟨xs,s1⟩,e1,e⟩:=Ze e
 obtain ⟨z,e2,e⟩:=Zm e
 cases e
 exact ⟨b,G,ρ,s,xs,s1,rl,e1,fun vs G1 ρ1 H1 r1 f1 d1=>⟨b,G1,ρ1,σ,s1,xs,_,r1,d1,e2,fun v G2 ρ2 H2 r2 f2 d2=>k v G2 ρ2 H2 r2 (f1.trans f2) d2⟩⟩
theorem ZW {x : Str} {T : String} {g : List D → Option D} {p : Pos} (hc : CallR X (.type T) (rDL X.K R g)) (hg : Gl X x) (hm : X.mg x = none) (hv : bootBuiltins x = some (.type T)) (ha : PA X (e :: es) (tL X.K R fl)) (hn : x ≠ "__name__":= by decide) (hdb : (x == ("__debug__" : Str)) = false:=by decide)
  (he : starEach (e :: es) X.env = (false,eval e X.env) :: starEach es X.env:=by rfl) (hpl : (backTo pos (starEach es X.env)).any (·.1) = false:=by rfl) : PE X (.Call (.Name x p) (e :: es) [] pos) (tD X.K R (ZV g fl)):=by
 refine pd_w (pe_callTy hc hg hm hv ha hn hdb he hpl) fun σ H Q ⟨b,G,ρ,s,r,s',rl,e,k⟩=>?_
 obtain ⟨⟨xs,s1⟩,e1,e⟩:=Ze e
 obtain ⟨z,e2,e⟩:=Zm e
 cases e
 exact ⟨b,G,ρ,s,xs,s1,rl,e1,fun vs G1 ρ1 H1 r1 f1 d1=>⟨b,G1,ρ1,σ,s1,xs,_,r1,d1,e2,fun v G2 ρ2 H2 r2 f2 d2=>k v G2 ρ2 H2 r2 (f1.trans f2) d2⟩⟩
theorem Zhl {x : Str} {T : String} {g : List D → Option (List D)} {p : Pos} (hc : CallR X (.type T) (rOL X.K R g)) (hg : Gl X x) (hm : X.mg x = none) (hv : bootBuiltins x = some (.type T)) (ha : PA X (e :: es) (tL X.K R fl)) (hn : x ≠ "__name__":= by decide) (hdb : (x == ("__debug__" : Str)) = false:=by decide)
  (he : starEach (e :: es) X.env = (false,eval e X.env) :: starEach es X.env:=by rfl) (hpl : (backTo pos (starEach es X.env)).any (·.1) = false:=by rfl) : PE X (.Call (.Name x p) (e :: es) [] pos) (tO X.K R (ZCj g fl)):=by
 refine pd_w (pe_callTy hc hg hm hv ha hn hdb he hpl) fun σ H Q ⟨b,G,ρ,s,r,s',rl,e,k⟩=>?_
 obtain ⟨⟨xs,s1⟩,e1,e⟩:=Ze e
 obtain ⟨z,e2,e⟩:=Zm e
 cases e
 refine ⟨b,G,ρ,s,xs,s1,rl,e1,fun vs G1 ρ1 H1 r1 f1 d1=>⟨b,G1,ρ1,σ,s1,xs,_,r1,d1,e2,fun u xs G3 ρ3 H3 r3 f3 n0 n1 n2 n3 n4 n5 d3=>k u xs G3 ρ3 H3 r3 (f1.trans f3) n0 ?_ n2 n3 n4 n5 d3⟩⟩
 cases q : H u with
 | none=>rfl
 | some o=>exact absurd n1 (f1.there u (ZB q))
end
end PL
end
section
namespace PL
open PySem PySem.Spec PyProof.Rows L2 Ev
section
variable {K : PySem.W.Frag} {R : OR} {b : Bs} {G H : Hp} {ρ : List Addr} {σ : L2.St} {s : S} {r : D} {Q : VK}
theorem KD.imm (k : KD K R b σ s.env G H ρ s r Q) (rl : Rel K R b G ρ σ H s) {v : V} (h : RD K R G ρ v r) : Q v H:=k v G ρ H rl .refl h
theorem KD.new (hR : Znb R) (k : KD K R b σ s.env G H ρ s r Q) (rl : Rel K R b G ρ σ H s) {p : Addr} {o : HO} (hp : H p = none) (h : RD K R (upd G p o) ρ (.ref p) r) : Q (.ref p) (upd H p o):=by
 obtain ⟨r2,f2⟩:=rl.new hR o hp
 exact k _ _ _ _ r2 f2 h
theorem Rel.gnew (rl : Rel K R b G ρ σ H s) {p : Addr} (hp : H p = none) : ZC G (upd G p o):=(ZA (rl.sub.free hp)).r
theorem KO.new (hR : Znb R) {ds : List D} (k : KO K R b σ s.env G H ρ s ds Q) (rl : Rel K R b G ρ σ H s) {p : Addr} {xs : List V} (hp : H p = none) (h : RDs K R G ρ xs ds) : Q (.ref p) (upd H p (.lst xs)):=by
 obtain ⟨r2,f2⟩:=rl.pure hR (G':=G) .refl (rl.sub.trans (ZA hp)) (ZA hp) (fun _ h=>.inl h) (rl.cells.tups.new (o:=.lst xs) hp rfl)
 refine k p xs _ _ _ r2 f2 ?_ hp (rl.sub.free hp) (fun q=>(rl.cells.some q) hp) (fun q=>(rl.ownB q).2.2.2 hp) upd_same h
 cases z : b.H p with
 | none=>rfl
 | some o=>exact absurd hp (rl.le.there p (ZB z))
theorem RDs.strs {ns : List Str} : RDs K R G ρ (ns.map V.str) (ns.map D.str):=by
 induction ns with
 | nil=>exact .nil
 | cons a l ih=>exact .cons (.str a) ih
theorem RDs.at_ {vs : List V} {ds : List D} {i : Int} {d : D} (h : RDs K R G ρ vs ds) (e : atI ds i = some d) : ∃ v,atI vs i = some v ∧ RD K R G ρ v d:=by
 unfold atI at e ⊢
 rw [h.len]
 cases q : ixN ds.length i with
 | none=>rw [q] at e; cases e
 | some j=>
  rw [q] at e
  exact h.at (i:=j) e
theorem RDs.cut {vs : List V} {ds : List D} {lo hi : Option Int} (h : RDs K R G ρ vs ds) : RDs K R G ρ (cutV vs lo hi) ((ds.drop (HT.sIx ds.length 0 lo)).take (HT.sIx ds.length ds.length hi - HT.sIx ds.length 0 lo)):=by
 unfold cutV
 rw [h.len]
 exact h.drop.take
theorem RDs.allStr : ∀ {vs : List V} {zs : List Str},RDs K R G ρ vs (zs.map D.str) → vs = zs.map V.str
 | [],[],_=>rfl
 | [],_ :: _,h=>by cases h
 | _ :: _,[],h=>by cases h
 | v :: vs,z :: zs,h=>by
  cases h with
  | cons h t=>
   cases h
   rw [RDs.allStr t]
   rfl
theorem RDs.allBl : ∀ {vs : List V} {zs : List Bool},RDs K R G ρ vs (zs.map D.bl) → vs = zs.map V.bl
 | [],[],_=>rfl
 | [],_ :: _,h=>by cases h
 | _ :: _,[],h=>by cases h
 | v :: vs,z :: zs,h=>by
  cases h with
  | cons h t=>
   cases h
   rw [RDs.allBl t]
   rfl
end
def D.isStr : D → Option Str
 | .str x=>some x
 | _=>none
def D.isBl : D → Option Bool
 | .bl x=>some x
 | _=>none
def ZIf {α : Type} (f : D → Option α) : List D → Option (List α)
 | []=>some []
 | d :: r=>(f d).bind fun x=>(ZIf f r).map (x :: ·)
theorem Zyd : ∀ {ds : List D} {zs : List Str},ZIf D.isStr ds = some zs → ds = zs.map D.str
 | [],zs,h=>by cases h; rfl
 | d :: r,zs,h=>by
  obtain ⟨x,e1,h⟩:=Ze h
  obtain ⟨y,e2,rfl⟩:=Zm h
  cases d <;> cases e1
  rw [Zyd e2]
  rfl
theorem ZJk : ∀ {ds : List D} {zs : List Bool},ZIf D.isBl ds = some zs → ds = zs.map D.bl
 | [],zs,h=>by cases h; rfl
 | d :: r,zs,h=>by
  obtain ⟨x,e1,h⟩:=Ze h
  obtain ⟨y,e2,rfl⟩:=Zm h
  cases d <;> cases e1
  rw [ZJk e2]
  rfl
theorem Zzh {α : Type} (f : D → Option α) (g : α → D) (h : ∀ a,f (g a) = some a) : ∀ l : List α,ZIf f (l.map g) = some l
 | []=>rfl
 | a :: l=>by
  show (f (g a)).bind _ = _
  rw [h a]
  show (ZIf f (l.map g)).map _ = _
  rw [Zzh f g h l]
  rfl
def dAdd : D → D → Option D
 | .int i,.int j=>some (.int (i + j))
 | .str x,.str y=>if x.length + y.length ≤ 100000 then some (.str (x ++ y)) else none
 | .lst x,.lst y=>if x.length + y.length ≤ 100000 then some (.lst (x ++ y)) else none
 | .tup x,.tup y=>if x.length + y.length ≤ 100000 then some (.tup (x ++ y)) else none
 | _,_=>none
def ZRl : D → D → Option (List D)
 | .lst x,.lst y=>if x.length + y.length ≤ 100000 then some (x ++ y) else none
 | _,_=>none
def dSub : D → D → Option D
 | .int i,.int j=>some (.int (i - j))
 | _,_=>none
def dMul : D → D → Option D
 | .int i,.int j=>if i.natAbs.log2 + j.natAbs.log2 < 1000000 then some (.int (i * j)) else none
 | .lst x,.int j=>if j ≤ 1000 ∧ -1000 ≤ j ∧ x.length ≤ 100 then some (.lst (List.replicate j.toNat x).flatten) else none
 | .tup x,.int j=>if 2 ≤ j ∧ j ≤ 1000 ∧ x.length ≤ 1000 ∧ 1 ≤ x.length then some (.tup (List.replicate j.toNat x).flatten) else if j = 1 then some (.tup x) else none
 | .str x,.int j=>if 0 ≤ j ∧ j ≤ 1000 ∧ x.length ≤ 1000 then some (.str (repS x j.toNat)) else none
 | _,_=>none
def dMod : D → D → Option D
 | .int i,.int j=>if 0 < j then some (.int (i % j)) else none
 | _,_=>none
def Z8k : D → D → Option D
 | .int i,.int j=>if 0 < j ∧ j.natAbs.log2 < 9000 then some (.int (i / j)) else none
 | _,_=>none
def dPow : D → D → Option D
 | .int i,.int j=>if 0 ≤ j ∧ j ≤ 1000 ∧ i.natAbs.log2 < 100000 then some (.int (i ^ j.toNat)) else none
 | _,_=>none
def dLt : D → D → Option D
 | .int i,.int j=>some (.bl (decide (i < j)))
 | .str x,.str y=>some (.bl (decide (x.cps.toList < y.cps.toList)))
 | _,_=>none
def dGt : D → D → Option D
 | .int i,.int j=>some (.bl (decide (j < i)))
 | _,_=>none
def dGe : D → D → Option D
 | .int i,.int j=>some (.bl (decide (j ≤ i)))
 | _,_=>none
theorem ZVp {a b : Str} : decide (V.str a = V.str b) = decide (a = b):=by
 by_cases h : a = b
 ·subst h; simp
 ·rw [decide_eq_false h,decide_eq_false (fun e=>h (by cases e; rfl))]
def eqD (x y : D) : Option D:=x.py.bind fun p=>y.py.bind fun q=>if SeqAt.shaped p = true ∧ SeqAt.shaped q = true then some (.bl (PyData.eqv p q)) else none
def dEq (x y : D) : Option D:=match x,y with
 | .str a,.str b=>some (.bl (decide (a = b)))
 | x,y=>eqD x y
def D.isNon : D → Bool
 | .non=>true
 | _=>false
def dIs : D → D → Option D
 | x,.non=>some (.bl x.isNon)
 | _,_=>none
def dIx : D → D → Option D
 | .lst ds,.int i=>atI ds i
 | .tup ds,.int i=>atI ds i
 | .scr ns,.int i=>(atI ns i).map .int
 | .str z,.int i=>if z.length ≤ 100000 then (atI z.cps.toList i).map fun c=>.str ⟨#[c]⟩ else none
 | _,_=>none
section
variable {X : Cx} {R : OR} (hR : Znb R)
include hR
theorem Zg : OpR X (binaryOp .Add) (rD2 X.K R dAdd):=by
 intro pins s σ H x y v u Q I rx ry ⟨b,G,ρ,σ',st,dx,dy,z,rl,hx,hy,e,k⟩
 unfold dAdd at e
 split at e
 ·cases e; cases hx; cases hy
  exact op_add pins s σ H _ _ v u Q I rx ry ⟨_,_,rfl,rfl,k.imm rl (.int _)⟩
 ·split at e
  ·rename_i hl
   cases e; cases hx; cases hy
   exact op_add_str pins s σ H _ _ v u Q I rx ry ⟨_,_,rfl,rfl,Zyb hl,k.imm rl (.str _)⟩
  ·cases e
 ·split at e
  ·rename_i hl
   cases e
   cases hx with
   | lst h1 t1=>
    cases hy with
    | lst h2 t2=>
     refine op_cat pins s σ H _ _ v u Q I rx ry ⟨_,_,_,_,rfl,rfl,rl.sub _ _ h1,rl.sub _ _ h2,Zyb (by rw [t1.len,t2.len]; exact hl),fun p hp=>k.new hR rl hp (.lst upd_same ?_)⟩
     exact (t2.app t1).mono hR (rl.gnew hp) (List.prefix_refl _)
  ·cases e
 ·split at e
  ·rename_i hl
   cases e
   cases hx with
   | tup h1 t1=>
    cases hy with
    | tup h2 t2=>
     refine op_catA pins s σ H _ _ v u Q I rx ry ⟨_,_,_,_,rfl,rfl,rl.sub.sqt h1,rl.sub.sqt h2,Zyb (by rw [t1.len,t2.len]; exact hl),fun e=>?_,fun _ e=>?_,fun _ _ p hp=>k.new hR rl hp (.tup (SqT.of upd_same) ?_)⟩
     ·subst e; cases t1; exact k.imm rl (.tup h2 t2)
     ·subst e; cases t2; rw [List.append_nil] at k; exact k.imm rl (.tup h1 t1)
     ·exact (t2.app t1).mono hR (rl.gnew hp) (List.prefix_refl _)
  ·cases e
 ·cases e
theorem Zlk : OpR X (binaryOp .Add) (rO2 X.K R ZRl):=by
 intro pins s σ H x y v u Q I rx ry ⟨b,G,ρ,σ',st,dx,dy,z,rl,hx,hy,e,k⟩
 unfold ZRl at e
 split at e
 ·split at e
  ·rename_i hl
   cases e
   cases hx with
   | lst h1 t1=>
    cases hy with
    | lst h2 t2=>
     exact op_cat pins s σ H _ _ v u Q I rx ry ⟨_,_,_,_,rfl,rfl,rl.sub _ _ h1,rl.sub _ _ h2,Zyb (by rw [t1.len,t2.len]; exact hl),fun p hp=>k.new hR rl hp (t2.app t1)⟩
  ·cases e
 ·cases e
omit hR in
theorem Zqp : OpR X (binaryOp .Sub) (rD2 X.K R dSub):=by
 intro pins s σ H x y v u Q I rx ry ⟨b,G,ρ,σ',st,dx,dy,z,rl,hx,hy,e,k⟩
 unfold dSub at e
 split at e
 ·cases e; cases hx; cases hy
  exact op_sub pins s σ H _ _ v u Q I rx ry ⟨_,_,rfl,rfl,k.imm rl (.int _)⟩
 ·cases e
theorem RDs.reps {K : PySem.W.Frag} {G : Hp} {ρ : List Addr} {vs : List V} {ds : List D} (h : RDs K R G ρ vs ds) : ∀ n : Nat,RDs K R G ρ (List.replicate n vs).flatten (List.replicate n ds).flatten
 | 0=>.nil
 | n + 1=>by
  rw [List.replicate_succ,List.replicate_succ,List.flatten_cons,List.flatten_cons]
  exact RDs.app (RDs.reps h n) h
theorem ZJd : OpR X (binaryOp .Mult) (rD2 X.K R dMul):=by
 intro pins s σ H x y v u Q I rx ry ⟨b,G,ρ,σ',st,dx,dy,z,rl,hx,hy,e,k⟩
 unfold dMul at e
 split at e
 ·split at e
  ·rename_i hl
   cases e; cases hx; cases hy
   exact op_mulW pins s σ H _ _ v u Q I rx ry ⟨_,_,rfl,rfl,hl,k.imm rl (.int _)⟩
  ·cases e
 ·split at e
  ·rename_i x' j hl
   cases e; cases hy
   cases hx with
   | lst h1 t1=>
    refine op_rep pins s σ H _ _ v u Q I rx ry ⟨_,_,_,rfl,rfl,rl.sub _ _ h1,by omega,by omega,Zyb ?_,fun p hp=>k.new hR rl hp (.lst upd_same ((RDs.reps hR t1 _).mono hR (rl.gnew hp) (List.prefix_refl _)))⟩
    rw [t1.len]
    have a1 : x'.length ≤ 100:=hl.2.2
    have a2 : j.toNat ≤ 1000:=by omega
    have:=Nat.mul_le_mul a1 a2
    omega
  ·cases e
 ·split at e
  ·rename_i x' j hl
   cases e; cases hy
   cases hx with
   | tup h1 t1=>
    refine op_repT pins s σ H _ _ v u Q I rx ry ⟨_,_,_,rfl,rfl,rl.sub.sqt h1,fun q=>?_,hl.1,hl.2.1,by rw [t1.len]; exact hl.2.2.1,fun p hp=>k.new hR rl hp (.tup (SqT.of upd_same) ((RDs.reps hR t1 _).mono hR (rl.gnew hp) (List.prefix_refl _)))⟩
    subst q
    have:=t1.len
    have:=hl.2.2.2
    simp at *
    omega
  ·split at e
   ·rename_i hj
    subst hj
    cases e; cases hy
    cases hx with
    | tup h1 t1=>exact Zqn pins s σ H _ _ v u Q I rx ry ⟨_,_,rfl,rfl,rl.sub.sqt h1,k.imm rl (.tup h1 t1)⟩
   ·cases e
 ·split at e
  ·rename_i z' j hl
   cases e; cases hx; cases hy
   refine Zqm pins s σ H _ _ v u Q I rx ry ⟨_,j.toNat,rfl,by rw [Int.toNat_of_nonneg hl.1],by omega,hl.2.2,k.imm rl (.str _)⟩
  ·cases e
 ·cases e
omit hR in
theorem ZDf : OpR X (binaryOp .Mod) (rD2 X.K R dMod):=by
 intro pins s σ H x y v u Q I rx ry ⟨b,G,ρ,σ',st,dx,dy,z,rl,hx,hy,e,k⟩
 unfold dMod at e
 split at e
 ·split at e
  ·rename_i hl
   cases e; cases hx; cases hy
   exact op_mod pins s σ H _ _ v u Q I rx ry ⟨_,_,rfl,rfl,hl,k.imm rl (.int _)⟩
  ·cases e
 ·cases e
omit hR in
theorem Zom : OpR X (binaryOp .FloorDiv) (rD2 X.K R Z8k):=by
 intro pins s σ H x y v u Q I rx ry ⟨b,G,ρ,σ',st,dx,dy,z,rl,hx,hy,e,k⟩
 unfold Z8k at e
 split at e
 ·split at e
  ·rename_i hl
   cases e; cases hx; cases hy
   exact op_fdivW pins s σ H _ _ v u Q I rx ry ⟨_,_,rfl,rfl,hl,k.imm rl (.int _)⟩
  ·cases e
 ·cases e
omit hR in
theorem ZXk : OpR X (binaryOp .Pow) (rD2 X.K R dPow):=by
 intro pins s σ H x y v u Q I rx ry ⟨b,G,ρ,σ',st,dx,dy,z,rl,hx,hy,e,k⟩
 unfold dPow at e
 split at e
 ·split at e
  ·rename_i i j hl
   cases e; cases hx; cases hy
   obtain ⟨t,rfl⟩:=rx
   obtain ⟨t',rfl⟩:=ry
   refine pow_int hl.1 ?_ ⟨.int _,H,I.tok _,⟨_,rfl⟩,k.imm rl (.int _)⟩
   have h1 : Builtin.Int.intBits i ≤ 100000:=by
    unfold Builtin.Int.intBits
    split <;> omega
   have h2 : (Builtin.Int.intBits i : Int) ≤ 100000:=by omega
   have:=Int.mul_le_mul h2 hl.2.1 hl.1 (by omega)
   omega
  ·cases e
 ·cases e
omit hR in
theorem Z1p : OpR X (compareOp .Lt) (rD2 X.K R dLt):=by
 intro pins s σ H x y v u Q I rx ry ⟨b,G,ρ,σ',st,dx,dy,z,rl,hx,hy,e,k⟩
 unfold dLt at e
 split at e
 ·cases e; cases hx; cases hy
  exact op_lt pins s σ H _ _ v u Q I rx ry ⟨_,_,rfl,rfl,k.imm rl (.bl _)⟩
 ·cases e; cases hx; cases hy
  exact op_lt_str pins s σ H _ _ v u Q I rx ry ⟨_,_,rfl,rfl,k.imm rl (.bl _)⟩
 ·cases e
omit hR in
theorem Z0p : OpR X (compareOp .Gt) (rD2 X.K R dGt):=by
 intro pins s σ H x y v u Q I rx ry ⟨b,G,ρ,σ',st,dx,dy,z,rl,hx,hy,e,k⟩
 unfold dGt at e
 split at e
 ·cases e; cases hx; cases hy
  exact op_gt pins s σ H _ _ v u Q I rx ry ⟨_,_,rfl,rfl,k.imm rl (.bl _)⟩
 ·cases e
omit hR in
theorem ZZp : OpR X (compareOp .GtE) (rD2 X.K R dGe):=by
 intro pins s σ H x y v u Q I rx ry ⟨b,G,ρ,σ',st,dx,dy,z,rl,hx,hy,e,k⟩
 unfold dGe at e
 split at e
 ·cases e; cases hx; cases hy
  exact op_ge pins s σ H _ _ v u Q I rx ry ⟨_,_,rfl,rfl,k.imm rl (.bl _)⟩
 ·cases e
omit hR in
theorem Zop (hu : X.A.units + 64 < cLine) : OpR X (compareOp .Eq) (rD2 X.K R dEq):=by
 intro pins s σ H x y v u Q I rx ry ⟨b,G,ρ,σ',st,dx,dy,z,rl,hx,hy,e,k⟩
 unfold dEq at e
 split at e
 ·cases e
  cases hx
  cases hy
  exact L2.op_eq pins s σ H _ _ v u Q I rx ry ⟨rfl,by rw [ZVp]; exact k.imm rl (.bl _)⟩
 ·obtain ⟨p,e1,e⟩:=Ze e
  obtain ⟨q,e2,e⟩:=Ze e
  split at e
  ·rename_i hs
   cases e
   exact op_eqD hu pins s σ H _ _ v u Q I rx ry ⟨p,q,rl.sub.dp (hx.dp e1),rl.sub.dp (hy.dp e2),hs.1,hs.2,k.imm rl (.bl _)⟩
  ·cases e
omit hR in
theorem RD.isNon {K : PySem.W.Frag} {G : Hp} {ρ : List Addr} {v : V} {d : D} (h : RD K R G ρ v d) : decide (v = V.non) = d.isNon:=by cases h <;> rfl
omit hR in
theorem Zpp : OpR X (compareOp .Is) (rD2 X.K R dIs):=by
 intro pins s σ H x y v u Q I rx ry ⟨b,G,ρ,σ',st,dx,dy,z,rl,hx,hy,e,k⟩
 unfold dIs at e
 split at e
 ·cases e; cases hy
  refine op_isN pins s σ H _ _ v u Q I rx ry ⟨rfl,?_⟩
  rw [hx.isNon]
  exact k.imm rl (.bl _)
 ·cases e
theorem ixd : IxR X (rD2 X.K R dIx):=by
 intro value slice pins s σ H x y v u Q I rx ry ⟨b,G,ρ,σ',st,dx,dy,z,rl,hx,hy,e,k⟩ hs
 unfold dIx at e
 split at e
 ·cases hy
  cases hx with
  | lst h1 t1=>
   obtain ⟨w,e2,e3⟩:=t1.at_ e
   exact ix_list value slice pins s σ H _ _ v u Q I rx ry ⟨_,_,_,w,rfl,rfl,SqL.of (rl.sub _ _ h1),e2,k.imm rl e3⟩ hs
 ·cases hy
  cases hx with
  | tup h1 t1=>
   obtain ⟨w,e2,e3⟩:=t1.at_ e
   exact ix_tup value slice pins s σ H _ _ v u Q I rx ry ⟨_,_,_,w,rfl,rfl,rl.sub.sqt h1,e2,k.imm rl e3⟩ hs
 ·obtain ⟨n,e1,e⟩:=Zm e
  cases e
  cases hy
  cases hx with
  | scr h1=>
   refine ix_list value slice pins s σ H _ _ v u Q I rx ry ⟨_,_,_,.int n,rfl,rfl,rl.sub.seq h1,?_,k.imm rl (.int n)⟩ hs
   unfold atI at e1 ⊢
   rw [List.length_map]
   cases q : ixN _ _ with
   | none=>rw [q] at e1; cases e1
   | some j=>
    rw [q] at e1
    show (List.map V.int _)[j]? = _
    rw [List.getElem?_map]
    exact congrArg (Option.map V.int) e1
 ·split at e
  ·rename_i hl
   obtain ⟨c,e1,e⟩:=Zm e
   cases e
   cases hx; cases hy
   exact ix_str value slice pins s σ H _ _ v u Q I rx ry ⟨_,_,c,rfl,rfl,Zyb hl,e1,k.imm rl (.str _)⟩ hs
  ·cases e
 ·cases e
end
section
variable {X : Cx} {R : OR} {e a c : Expr} {fa fb : FD} {pos : Pos} (hR : Znb R)
include hR
theorem Z7 {g : D → D → Option D} (hr : IxR X (rD2 X.K R g)) (ha : PE X a (tD X.K R fa)) (hb : PE X c (tD X.K R fb)) (hs : PlainIx c) : PE X (.Subscript a c pos) (tD X.K R (fBin g fa fb)):=by
 refine pd_w (pe_ix hr ha hb hs) fun σ H Q ⟨b,G,ρ,s,r,s',rl,e,k⟩=>?_
 obtain ⟨⟨x,s1⟩,e1,e⟩:=Ze e
 obtain ⟨⟨y,s2⟩,e2,e⟩:=Ze e
 obtain ⟨z,e3,e⟩:=Zm e
 cases e
 refine ⟨b,G,ρ,s,x,s1,rl,e1,fun v G1 ρ1 H1 r1 f1 d1=>⟨b,G1,ρ1,s1,y,s2,r1,e2,fun w G2 ρ2 H2 r2 f2 d2=>?_⟩⟩
 exact ⟨b,G2,ρ2,σ,s2,x,y,_,r2,d1.mono hR f2.gg f2.prf,d2,e3,fun u G3 ρ3 H3 r3 f3 d3=>k u G3 ρ3 H3 r3 ((f1.trans f2).trans f3) d3⟩
def fIxC (fa fb : FD) : FD:=fun s=>(fa s).bind fun p=>(fb p.2).bind fun q=>match p.1,q.1 with
 | .cell i,.int j=>(q.2.cs[i]?).bind fun ds=>if ZPh ds = true then none else (atI ds j).map fun z=>(z,q.2)
 | _,_=>none
theorem Zvg (ha : PE X a (tD X.K R fa)) (hb : PE X c (tD X.K R fb)) (hs : PlainIx c) : PE X (.Subscript a c pos) (tD X.K R (fIxC fa fb)):=by
 refine pd_w (pe_ix ix_list ha hb hs) fun σ H Q ⟨b,G,ρ,s,r,s',rl,e,k⟩=>?_
 obtain ⟨⟨x,s1⟩,e1,e⟩:=Ze e
 obtain ⟨⟨y,s2⟩,e2,e⟩:=Ze e
 dsimp only at e
 split at e
 ·obtain ⟨ds,e3,e⟩:=Ze e
  split at e
  ·cases e
  rename_i hdead
  obtain ⟨z,e4,e⟩:=Zm e
  cases e
  refine ⟨b,G,ρ,s,_,s1,rl,e1,fun v G1 ρ1 H1 r1 f1 d1=>⟨b,G1,ρ1,s1,_,_,r1,e2,fun w G2 ρ2 H2 r2 f2 d2=>?_⟩⟩
  have d1:=d1.mono hR f2.gg f2.prf
  cases d2
  cases d1 with
  | cell h1=>
   obtain ⟨_,xs,h2,h3⟩:=r2.cells.at_ _ _ ds h1 e3 (by simpa using hdead)
   obtain ⟨w,e5,e6⟩:=h3.at_ e4
   exact ⟨_,_,_,w,rfl,rfl,SqL.of h2,e5,k w G2 ρ2 H2 r2 (f1.trans f2) e6⟩
 ·cases e
def Zxb : S → Option (Option Int × S):=fun s=>some (none,s)
def Zwc (fa : FD) : S → Option (Option Int × S):=fun s=>(fa s).bind fun p=>match p.1 with
 | .int i=>some (some i,p.2)
 | _=>none
def tPt (K : PySem.W.Frag) (R : OR) (f : S → Option (Option Int × S)) : TO:=fun σ H Q=>∃ b G ρ s r s',Rel K R b G ρ σ H s ∧ f s = some (r,s') ∧ KT K R b σ s.env G H ρ s' (Q r)
omit hR in
theorem po_w {e : Option Expr} {t u : TO} (h : PO X e t) (k : ∀ σ H Q,u σ H Q → t σ H Q) : PO X e u:=⟨fun pins s σ H Q I q=>h.run pins s σ H Q I (k σ H Q q)⟩
omit hR in
theorem Zfb : PO X none (tPt X.K R Zxb):=by
 refine po_w po_none fun σ H Q ⟨b,G,ρ,s,r,s',rl,e,k⟩=>?_
 cases e
 exact k G ρ H rl .refl
omit hR in
theorem ZE (h : PE X e (tD X.K R fa)) : PO X (some e) (tPt X.K R (Zwc fa)):=by
 refine po_w (po_some h) fun σ H Q ⟨b,G,ρ,s,r,s',rl,e,k⟩=>?_
 obtain ⟨⟨x,s1⟩,e1,e⟩:=Ze e
 dsimp only at e
 split at e
 ·cases e
  exact ⟨b,G,ρ,s,_,_,rl,e1,fun v G1 ρ1 H1 r1 f1 d1=>⟨_,by cases d1; rfl,k G1 ρ1 H1 r1 f1⟩⟩
 ·cases e
def cutD (ds : List D) (lo hi : Option Int) : List D:=(ds.drop (HT.sIx ds.length 0 lo)).take (HT.sIx ds.length ds.length hi - HT.sIx ds.length 0 lo)
def dSl (x : D) (lo hi : Option Int) : Option D:=match x with
 | .lst ds=>some (.lst (cutD ds lo hi))
 | .tup ds=>some (.tup (cutD ds lo hi))
 | .str z=>if z.length ≤ 100000 then some (.str (cutS z lo hi)) else none
 | _=>none
def fSl (fa : FD) (fl fh : S → Option (Option Int × S)) : FD:=fun s=>(fa s).bind fun p=>(fl p.2).bind fun q=>(fh q.2).bind fun t=>(dSl p.1 q.1 t.1).map fun z=>(z,t.2)
def rSlD (K : PySem.W.Frag) (R : OR) : V → Option Int → Option Int → Hp → VK → Prop:=fun x lo hi H Q=>∃ b G ρ σ s dx z,Rel K R b G ρ σ H s ∧ RD K R G ρ x dx ∧ dSl dx lo hi = some z ∧ KD K R b σ s.env G H ρ s z Q
theorem sld : SlR X (rSlD X.K R):=by
 intro pins s σ H x v vl vu lo hi sl Q I rx hs pl pu ⟨b,G,ρ,σ',st,dx,z,rl,hx,e,k⟩
 unfold dSl at e
 split at e
 ·cases e
  cases hx with
  | lst h1 t1=>exact sl_list pins s σ H _ v vl vu lo hi sl Q I rx hs pl pu ⟨_,_,rfl,SqL.of (rl.sub _ _ h1),fun p hp=>k.new hR rl hp (.lst upd_same (t1.cut.mono hR (rl.gnew hp) (List.prefix_refl _)))⟩
 ·cases e
  cases hx with
  | tup h1 t1=>
   rename_i xs
   refine sl_tupA pins s σ H _ v vl vu lo hi sl Q I rx hs pl pu ⟨_,_,rfl,rl.sub.sqt h1,fun hw=>k.imm rl (.tup h1 ?_),fun _ p hp=>k.new hR rl hp (.tup (SqT.of upd_same) (t1.cut.mono hR (rl.gnew hp) (List.prefix_refl _)))⟩
   unfold cutD
   rw [← t1.len,hw.1,hw.2,t1.len]
   simp only [List.drop_zero,Nat.sub_zero,List.take_length]
   exact t1
 ·split at e
  ·rename_i hl
   cases e; cases hx
   exact sl_str pins s σ H _ v vl vu lo hi sl Q I rx hs pl pu ⟨_,rfl,Zyb hl,k.imm rl (.str _)⟩
  ·cases e
 ·cases e
theorem ZLd {lo hi : Option Expr} {fl fh : S → Option (Option Int × S)} {p2 : Pos} (ha : PE X a (tD X.K R fa)) (hl : PO X lo (tPt X.K R fl)) (hh : PO X hi (tPt X.K R fh)) : PE X (.Subscript a (.Slice lo hi none p2) pos) (tD X.K R (fSl fa fl fh)):=by
 refine pd_w (pe_slice (sld hR) ha hl hh) fun σ H Q ⟨b,G,ρ,s,r,s',rl,e,k⟩=>?_
 obtain ⟨⟨x,s1⟩,e1,e⟩:=Ze e
 obtain ⟨⟨l,s2⟩,e2,e⟩:=Ze e
 obtain ⟨⟨h,s3⟩,e3,e⟩:=Ze e
 obtain ⟨z,e4,e⟩:=Zm e
 cases e
 refine ⟨b,G,ρ,s,x,s1,rl,e1,fun v G1 ρ1 H1 r1 f1 d1=>⟨b,G1,ρ1,s1,l,s2,r1,e2,fun G2 ρ2 H2 r2 f2=>⟨b,G2,ρ2,s2,h,s3,r2,e3,fun G3 ρ3 H3 r3 f3=>?_⟩⟩⟩
 exact ⟨b,G3,ρ3,σ,s3,x,_,r3,d1.mono hR (f2.trans f3).gg (f2.trans f3).prf,e4,fun u G4 ρ4 H4 r4 f4 d4=>k u G4 ρ4 H4 r4 (((f1.trans f2).trans f3).trans f4) d4⟩
end
end PL
end
section
namespace PL
open PySem PySem.Spec PyProof.Rows L2 Ev
inductive Out where
 | nx (s : S) | bk (s : S) | ct (s : S) | rt (r : D) (s : S) | ro (r : List D) (s : S)
abbrev FS:=S → Option Out
section
variable (K : PySem.W.Frag) (R : OR)
def KE (b : Bs) (G : Hp) (ρ : List Addr) (Dd : Ends) : Out → Prop
 | .nx s'=>∀ σ' G' ρ' H',Rel K R b G' ρ' σ' H' s' → ZC G G' → ρ <+: ρ' → Dd.nx σ' H'
 | .bk s'=>∀ σ' G' ρ' H',Rel K R b G' ρ' σ' H' s' → ZC G G' → ρ <+: ρ' → Dd.bk σ' H'
 | .ct s'=>∀ σ' G' ρ' H',Rel K R b G' ρ' σ' H' s' → ZC G G' → ρ <+: ρ' → Dd.ct σ' H'
 | .rt r s'=>∀ v σ' G' ρ' H',Rel K R b G' ρ' σ' H' s' → RD K R G' ρ' v r → Dd.rt v H'
 | .ro r s'=>∀ a xs σ' G' ρ' H',Rel K R b G' ρ' σ' H' s' → b.H a = none → G' a = none → a ∉ ρ' → H' a = some (.lst xs) → RDs K R G' ρ' xs r → Dd.rt (.ref a) H'
def sS (F : FS) : TS:=fun Dd σ H=>∃ b G ρ s o,Rel K R b G ρ σ H s ∧ F s = some o ∧ KE K R b G ρ Dd o
def gS (sl : List Nat) (g : D → S → Option S) : TG:=fun v σ H Q=>∃ b G ρ s d s',Rel K R b G ρ σ H s ∧ RD K R G ρ v d ∧ g d s = some s' ∧ ∀ σ',Rel K R b G ρ σ' H s' → (∀ a,Own s'.env σ' a → Own s.env σ a) → σ'.length = σ.length → (∀ i,i ∉ sl → σ'[i]? = σ[i]?) → Q σ' H
def gSs (sl : List Nat) (g : List D → S → Option S) : TGs:=fun vs σ H Q=>∃ b G ρ s ds s',Rel K R b G ρ σ H s ∧ RDs K R G ρ vs ds ∧ g ds s = some s' ∧ ∀ σ',Rel K R b G ρ σ' H s' → (∀ a,Own s'.env σ' a → Own s.env σ a) → σ'.length = σ.length → (∀ i,i ∉ sl → σ'[i]? = σ[i]?) → Q σ' H
abbrev DW (G : Hp) (ρ : List Addr) (J : It) (ds : List D) : Prop:=∃ (Gd : Hp → Prop) (Y : Nat → Hp → V → Hp → Prop),Walk J ds.length Gd Y ∧ (∀ H,ZC G H → Gd H) ∧
 ∀ i x H1 H2 d,ds[i]? = some d → ZC G H1 → Y i H1 x H2 → (H2 = H1 ∧ RD K R G ρ x d) ∨ ∃ p xs es,x = .ref p ∧ H1 p = none ∧ H2 = upd H1 p (.tup xs) ∧ d = .tup es ∧ RDs K R G ρ xs es
def iD (fi : FO) : TI:=fun σ H Q=>∃ b G ρ s ds s',Rel K R b G ρ σ H s ∧ fi s = some (ds,s') ∧ ∀ G' ρ' H' J,Rel K R b G' ρ' σ H' s' → Fr σ s.env G H ρ s'.env G' H' ρ' → DW K R G' ρ' J ds → Q J H'
end
def fSet (i : Nat) (fa : FD) : FS:=fun s=>(fa s).map fun p=>.nx ⟨p.2.env.set i (some (.d p.1)),p.2.cs⟩
def Zch (i : Nat) (fo : FO) : FS:=fun s=>(fo s).map fun p=>.nx ⟨p.2.env.set i (some (.ol p.1)),p.2.cs⟩
def fSeq (F G : FS) : FS:=fun s=>(F s).bind fun o=>match o with
 | .nx s1=>G s1
 | o=>some o
def fIfS (ft : FT) (F G : FS) : FS:=fun s=>(ft s).bind fun p=>if p.1 = true then F p.2 else G p.2
def fRet (fa : FD) : FS:=fun s=>(fa s).map fun p=>.rt p.1 p.2
def Zkn (fo : FO) : FS:=fun s=>(fo s).map fun p=>.ro p.1 p.2
def Z9k : FS:=fun s=>some (.nx s)
def gNm (i : Nat) : D → S → Option S:=fun d s=>some ⟨s.env.set i (some (.d d)),s.cs⟩
def gNl : List D → S → Option S:=fun ds s=>match ds with
 | []=>some s
 | _=>none
def gCn (g : D → S → Option S) (gs : List D → S → Option S) : List D → S → Option S:=fun ds s=>match ds with
 | []=>none
 | d :: r=>(g d s).bind (gs r)
def gTp (n : Nat) (gs : List D → S → Option S) : D → S → Option S:=fun d s=>match d with
 | .tup es=>if es.length = n then gs es s else none
 | _=>none
def fAsg (fa : FD) (g : D → S → Option S) : FS:=fun s=>(fa s).bind fun p=>(g p.1 p.2).map .nx
def fPar (i j : Nat) (fl : FO) : FS:=fun s=>(fl s).bind fun p=>match p.1 with
 | [x,y]=>some (.nx ⟨(p.2.env.set i (some (.d x))).set j (some (.d y)),p.2.cs⟩)
 | _=>none
def ZDj (g : D → S → Option S) (body : FS) : List D → FS
 | [],s=>some (.nx s)
 | d :: r,s=>(g d s).bind fun s1=>(body s1).bind fun o=>match o with
  | .nx s2=>ZDj g body r s2
  | .ct s2=>ZDj g body r s2
  | .bk s2=>some (.nx s2)
  | .rt x s2=>some (.rt x s2)
  | .ro x s2=>some (.ro x s2)
def fFor (fi : FO) (g : D → S → Option S) (body : FS) : FS:=fun s=>(fi s).bind fun p=>ZDj g body p.1 p.2
def ZXg (e : Env) : List Nat → Env
 | []=>e
 | v :: vs=>(ZXg e vs).set v none
def Zsp : Option Sl → Option Sl
 | some (.d x)=>some (.d x)
 | _=>none
def ZSd (e0 e : Env) (vs : List Nat) : Env:=(List.range e.length).map fun i=>if i ∈ vs then Zsp (e0.getD i none) else e.getD i none
def lcGo (e0 : Env) (vs : List Nat) (g : D → S → Option S) (ft : FT) (fe : FD) : List D → S → Option (List D × S)
 | [],s=>some ([],s)
 | d :: r,s=>(g d ⟨ZXg s.env vs,s.cs⟩).bind fun s1=>(ft s1).bind fun p=>if p.1 = true then (fe p.2).bind fun q=>(lcGo e0 vs g ft fe r ⟨ZSd e0 q.2.env vs,q.2.cs⟩).map fun t=>(q.1 :: t.1,t.2)
  else lcGo e0 vs g ft fe r ⟨ZSd e0 p.2.env vs,p.2.cs⟩
def fLc (vs : List Nat) (fi : FO) (g : D → S → Option S) (ft : FT) (fe : FD) : FO:=fun s=>(fi s).bind fun p=>if p.1.length < 100000 then lcGo p.2.env vs g ft fe p.1 p.2 else none
def fYes : FT:=fun s=>some (true,s)
def fApp (i : Nat) (fe : FD) : FS:=fun s=>match s.env[i]? with
 | some (some (.ol _))=>(fe s).bind fun p=>match p.2.env[i]? with
  | some (some (.ol ds))=>if ds.length < 100000 then some (.nx ⟨p.2.env.set i (some (.ol (ds ++ [p.1]))),p.2.cs⟩) else none
  | _=>none
 | _=>none
def Z4l (fo fi fe : FD) : FS:=fun s=>(fe s).bind fun p=>(fo p.2).bind fun q=>(fi q.2).bind fun t=>match q.1,t.1 with
 | .cell i,.int j=>(t.2.cs[i]?).bind fun ds=>if ZPh ds = true then none else if 0 ≤ j ∧ j < ds.length then some (.nx ⟨t.2.env,t.2.cs.set i (ds.set j.toNat p.1)⟩) else none
 | _,_=>none
def Z0l (fo : FO) : FD:=fun s=>(fo s).map fun p=>(.cell p.2.cs.length,⟨p.2.env,p.2.cs ++ [p.1]⟩)
section
variable {X : Cx} {R : OR} {e a c a' : Expr} {st : Stmt} {sts rest : List Stmt} {es : List Expr} {t u : TS} {fa fb fe f : FD} {fo fl fi : FO} {ft : FT} {F G' : FS} {pos pos' : Pos}
theorem ps_w (h : PS X st t) (k : ∀ Dd σ H,u Dd σ H → t Dd σ H) : PS X st u:=⟨fun pins s σ H Dd I q=>h.run pins s σ H Dd I (k Dd σ H q)⟩
theorem ZEp (h : PSs X sts t) (k : ∀ Dd σ H,u Dd σ H → t Dd σ H) : PSs X sts u:=⟨fun pins s σ H Dd I q=>h.run pins s σ H Dd I (k Dd σ H q)⟩
theorem pi_w {tg : Expr} {wi wj : TI} (h : PI X tg e wi) (k : ∀ σ H Q,wj σ H Q → wi σ H Q) : PI X tg e wj:=⟨fun pins s σ H Q I q=>h.run pins s σ H Q I (k σ H Q q)⟩
theorem pg_w {tg : Expr} {g g' : TG} (h : PG X tg g) (k : ∀ v σ H Q,g' v σ H Q → g v σ H Q) : PG X tg g':=⟨fun pins s σ H v w Q I r q=>h.run pins s σ H v w Q I r (k v σ H Q q)⟩
theorem ZAp {tg : List Expr} {g g' : TGs} (h : PGs X tg g) (k : ∀ v σ H Q,g' v σ H Q → g v σ H Q) : PGs X tg g':=⟨fun pins s σ H v w Q I r q=>h.run pins s σ H v w Q I r (k v σ H Q q)⟩
theorem KE.later {K : PySem.W.Frag} {b : Bs} {G G1 : Hp} {ρ ρ1 : List Addr} {Dd : Ends} {o : Out} (k : KE K R b G ρ Dd o) (gg : ZC G G1) (p : ρ <+: ρ1) : KE K R b G1 ρ1 Dd o:=by
 cases o with
 | nx s'=>exact fun σ' G' ρ' H' r g q=>k σ' G' ρ' H' r (gg.trans g) (p.trans q)
 | bk s'=>exact fun σ' G' ρ' H' r g q=>k σ' G' ρ' H' r (gg.trans g) (p.trans q)
 | ct s'=>exact fun σ' G' ρ' H' r g q=>k σ' G' ρ' H' r (gg.trans g) (p.trans q)
 | rt r s'=>exact k
 | ro r s'=>exact k
theorem Zqk : PSs X [] (sS X.K R Z9k):=by
 refine ZEp pss_nil fun Dd σ H ⟨b,G,ρ,s,o,rl,e,k⟩=>?_
 cases e
 exact k σ G ρ H rl .refl (List.prefix_refl _)
theorem Z0 (h : PS X st (sS X.K R F)) : PSs X [st] (sS X.K R F):=pss_one h
theorem Zl (h : PS X st (sS X.K R F)) (h2 : PSs X rest (sS X.K R G')) : PSs X (st :: rest) (sS X.K R (fSeq F G')):=by
 refine ZEp (pss_cons h h2) fun Dd σ H ⟨b,G,ρ,s,o,rl,e,k⟩=>?_
 obtain ⟨o1,e1,e⟩:=Ze e
 refine ⟨b,G,ρ,s,o1,rl,e1,?_⟩
 cases o1 with
 | nx s1=>exact fun σ' G' ρ' H' r1 gg p=>⟨b,G',ρ',s1,o,r1,e,k.later gg p⟩
 | bk s1=>cases e; exact k
 | ct s1=>cases e; exact k
 | rt r s1=>cases e; exact k
 | ro r s1=>cases e; exact k
theorem Zvm (hc : PT X c (tTs X.K R ft)) (ha : PSs X sts (sS X.K R F)) (hb : PSs X rest (sS X.K R G')) : PS X (.If c sts rest pos) (sS X.K R (fIfS ft F G')):=by
 refine ps_w (ps_if hc ha hb) fun Dd σ H ⟨b,G,ρ,s,o,rl,e,k⟩=>?_
 obtain ⟨⟨z,s1⟩,e1,e⟩:=Ze e
 refine ⟨b,G,ρ,s,z,s1,rl,e1,fun G1 ρ1 H1 r1 f1=>?_⟩
 cases z with
 | true=>exact ⟨b,G1,ρ1,s1,o,r1,e,k.later f1.gg f1.prf⟩
 | false=>exact ⟨b,G1,ρ1,s1,o,r1,e,k.later f1.gg f1.prf⟩
theorem Z4c (h : PE X e (tD X.K R fa)) : PS X (.Return (some e) pos) (sS X.K R (fRet fa)):=by
 refine ps_w (ps_ret h) fun Dd σ H ⟨b,G,ρ,s,o,rl,e,k⟩=>?_
 obtain ⟨⟨z,s1⟩,e1,e⟩:=Zm e
 cases e
 exact ⟨b,G,ρ,s,z,s1,rl,e1,fun v G1 ρ1 H1 r1 f1 d1=>k v σ G1 ρ1 H1 r1 d1⟩
theorem Ztn (h : PE X e (tO X.K R fo)) : PS X (.Return (some e) pos) (sS X.K R (Zkn fo)):=by
 refine ps_w (ps_ret h) fun Dd σ H ⟨b,G,ρ,s,o,rl,e,k⟩=>?_
 obtain ⟨⟨z,s1⟩,e1,e⟩:=Zm e
 cases e
 exact ⟨b,G,ρ,s,z,s1,rl,e1,fun v xs G1 ρ1 H1 r1 f1 n0 n1 n2 n3 n4 n5 d1=>k v xs σ G1 ρ1 H1 r1 n0 n2 n3 n5 d1⟩
theorem ZM {i : Nat} {x : Str} (hN : X.N.Nodup) (hi : X.N[i]? = some x) (hx : Loc X.env.scope x) (he : PE X e (tD X.K R fa)) (hs : swapsWith e (some (.Name x pos')) pos.line X.env = pure false:=by rfl) (hf : X.fn x = true ∨ X.env.scope.names.lookup x = some .local:=by first | exact .inl rfl | exact .inr rfl | assumption) :
  PS X (.Assign [.Name x pos'] e pos) (sS X.K R (fSet i fa)):=by
 refine ps_w (ps_set hN hi hx he hs hf) fun Dd σ H ⟨b,G,ρ,s,o,rl,e,k⟩=>?_
 obtain ⟨⟨z,s1⟩,e1,e⟩:=Zm e
 cases e
 exact ⟨b,G,ρ,s,z,s1,rl,e1,fun v G1 ρ1 H1 r1 f1 d1=>k _ G1 ρ1 H1 (r1.setD i d1) f1.gg f1.prf⟩
theorem Z0e {i : Nat} {x : Str} (hN : X.N.Nodup) (hi : X.N[i]? = some x) (hx : Loc X.env.scope x) (he : PE X e (tO X.K R fo)) (hs : swapsWith e (some (.Name x pos')) pos.line X.env = pure false:=by rfl) (hf : X.fn x = true ∨ X.env.scope.names.lookup x = some .local:=by first | exact .inl rfl | exact .inr rfl | assumption) :
  PS X (.Assign [.Name x pos'] e pos) (sS X.K R (Zch i fo)):=by
 refine ps_w (ps_set hN hi hx he hs hf) fun Dd σ H ⟨b,G,ρ,s,o,rl,e,k⟩=>?_
 obtain ⟨⟨z,s1⟩,e1,e⟩:=Zm e
 cases e
 exact ⟨b,G,ρ,s,z,s1,rl,e1,fun v xs G1 ρ1 H1 r1 f1 n0 n1 n2 n3 n4 n5 d1=>k _ G1 ρ1 H1 (r1.setO i (x:=.ol z) ⟨v,xs,rfl,n0,n2,n3,n5,d1⟩ rfl n4) f1.gg f1.prf⟩
theorem Zy {i : Nat} {x : Str} (h : PG X (.Name x pos) (gName i)) : PG X (.Name x pos) (gS X.K R [i] (gNm i)):=by
 refine pg_w h fun v σ H Q ⟨b,G,ρ,s,d,s',rl,hd,e,k⟩=>?_
 cases e
 refine k _ (rl.setD i hd) (fun a ⟨j,y,h1,h2,h3⟩=>?_) (List.length_set ..) fun j hj=>Zgc fun e=>hj (by simp [e])
 rcases Z2 h1 with ⟨rfl,q⟩ | ⟨n,q⟩
 ·cases q; cases h2
 ·exact ⟨j,y,q,h2,by rw [Zgc n] at h3; exact h3⟩
theorem Z1e : PGs X [] (gSs X.K R [] gNl):=by
 refine ZAp pgs_nil fun v σ H Q ⟨b,G,ρ,s,d,s',rl,hd,e,k⟩=>?_
 cases hd with
 | nil=>cases e; exact ⟨rfl,k _ rl (fun _ h=>h) rfl fun _ _=>rfl⟩
 | cons _ _=>cases e
theorem Z8 {x : Expr} {xs : List Expr} {l1 l2 : List Nat} {g : D → S → Option S} {gs : List D → S → Option S} (h : PG X x (gS X.K R l1 g)) (h2 : PGs X xs (gSs X.K R l2 gs)) (hs : (assignEach (x :: xs) X.env).map (·.2) = assign x X.env :: (assignEach xs X.env).map (·.2):=by rfl) : PGs X (x :: xs) (gSs X.K R (l1 ++ l2) (gCn g gs)):=by
 refine ZAp (pgs_cons h h2 hs) fun v σ H Q ⟨b,G,ρ,s,d,s',rl,hd,e,k⟩=>?_
 cases hd with
 | nil=>cases e
 | cons h t=>
  obtain ⟨s1,e1,e⟩:=Ze e
  exact ⟨_,_,rfl,b,G,ρ,s,_,s1,rl,h,e1,fun σ1 r1 o1 z1 w1=>⟨b,G,ρ,s1,_,s',r1,t,e,fun σ2 r2 o2 z2 w2=>k σ2 r2 (fun a q=>o1 a (o2 a q)) (z2.trans z1) fun i hi=>(w2 i fun q=>hi (List.mem_append_right _ q)).trans (w1 i fun q=>hi (List.mem_append_left _ q))⟩⟩
theorem ZOg {n : Nat} {sl : List Nat} {tg : Expr} {gs : List D → S → Option S} (h : PG X tg (gTup X.K n (gSs X.K R sl gs))) : PG X tg (gS X.K R sl (gTp n gs)):=by
 refine pg_w h fun v σ H Q ⟨b,G,ρ,s,d,s',rl,hd,e,k⟩=>?_
 unfold gTp at e
 split at e
 ·split at e
  ·rename_i hl
   cases hd with
   | tup h1 t1=>exact ⟨_,_,rfl,rl.sub.sqt h1,by rw [t1.len]; exact hl,b,G,ρ,s,_,s',rl,t1,e,k⟩
  ·cases e
 ·cases e
theorem ZGo {tg : Expr} {sl : List Nat} {g : D → S → Option S} {p : Pos} (h : PS X (.Assign [tg] e pos) (tAsg (tD X.K R fa) (gS X.K R sl g))) : PS X (.Assign [tg] e pos) (sS X.K R (fAsg fa g)):=by
 refine ps_w h fun Dd σ H ⟨b,G,ρ,s,o,rl,e,k⟩=>?_
 obtain ⟨⟨z,s1⟩,e1,e⟩:=Ze e
 obtain ⟨s2,e2,e⟩:=Zm e
 cases e
 exact ⟨b,G,ρ,s,z,s1,rl,e1,fun v G1 ρ1 H1 r1 f1 d1=>⟨b,G1,ρ1,s1,z,s2,r1,d1,e2,fun σ2 r2 _ _ _=>k σ2 G1 ρ1 H1 r2 f1.gg f1.prf⟩⟩
theorem Zwm {i j : Nat} (h : PS X st (tPar i j (tL X.K R fl))) : PS X st (sS X.K R (fPar i j fl)):=by
 refine ps_w h fun Dd σ H ⟨b,G,ρ,s,o,rl,e,k⟩=>?_
 obtain ⟨⟨z,s1⟩,e1,e⟩:=Ze e
 dsimp only at e
 split at e
 ·cases e
  refine ⟨b,G,ρ,s,_,s1,rl,e1,fun vs G1 ρ1 H1 r1 f1 d1=>?_⟩
  cases d1 with
  | cons h1 t1=>
   cases t1 with
   | cons h2 t2=>
    cases t2
    exact ⟨_,_,rfl,k _ G1 ρ1 H1 ((r1.setD i h1).setD j h2) f1.gg f1.prf⟩
 ·cases e
end
section
variable {X : Cx} {R : OR} {e a c tg iter : Expr} {sts rest : List Stmt} {fa fe f : FD} {fo fl fi : FO} {ft : FT} {F : FS} {pos pos' : Pos} {g : D → S → Option S} (hR : Znb R)
include hR
theorem DW.turn {K : PySem.W.Frag} {b : Bs} {G G1 H1 H2 : Hp} {ρ ρ1 : List Addr} {σ : L2.St} {s : S} {x : V} {d : D} (rl : Rel K R b G1 ρ1 σ H1 s) (gg : ZC G G1) (p : ρ <+: ρ1)
  (y : (H2 = H1 ∧ RD K R G ρ x d) ∨ ∃ p xs es,x = .ref p ∧ H1 p = none ∧ H2 = upd H1 p (.tup xs) ∧ d = .tup es ∧ RDs K R G ρ xs es) :
  ∃ G2,Rel K R b G2 ρ1 σ H2 s ∧ Fr σ s.env G1 H1 ρ1 s.env G2 H2 ρ1 ∧ RD K R G2 ρ1 x d:=by
 rcases y with ⟨rfl,h⟩ | ⟨q,xs,es,rfl,hq,rfl,rfl,h⟩
 ·exact ⟨G1,rl,.refl,h.mono hR gg p⟩
 ·obtain ⟨r2,f2⟩:=rl.new hR (.tup xs) hq
  exact ⟨_,r2,f2,.tup (SqT.of upd_same) (h.mono hR (gg.trans f2.gg) p)⟩
theorem ZTk {l : List D} {i : Nat} {d : D} (h : l[i]? = some d) : l.drop i = d :: l.drop (i + 1):=by
 rw [List.drop_eq_getElem_cons (List.getElem?_eq_some_iff.mp h).1,(List.getElem?_eq_some_iff.mp h).2]
theorem Zwd (hi : PI X tg iter (iD X.K R fi)) {sl : List Nat} (hg : PG X tg (gS X.K R sl g)) (hb : PSs X sts (sS X.K R F)) (hc : X.calm = true) (hp : PassesOwn (model X.prog X.w) X.A X.env X.xe) (hs : ∀ x,foldedSetIterable iter X.env x = pure x:=by intro _; rfl) :
  PS X (.For tg iter sts [] pos) (sS X.K R (fFor fi g F)):=by
 refine ps_w (ps_for hp hc hi hg hb hs) fun Dd σ H ⟨b,G,ρ,s,o,rl,e,k⟩=>?_
 obtain ⟨⟨ds,s1⟩,e1,e⟩:=Ze e
 refine ⟨b,G,ρ,s,ds,s1,rl,e1,fun G1 ρ1 H1 J r1 f1 ⟨Gd,Y,wk,gd,yd⟩=>?_⟩
 have k1:=k.later f1.gg f1.prf
 refine for_it wk (fun i σ' H'=>∃ G2 ρ2 s2,Rel X.K R b G2 ρ2 σ' H' s2 ∧ ZC G1 G2 ∧ ρ1 <+: ρ2 ∧ ZDj g F (ds.drop i) s2 = some o) ⟨G1,ρ1,s1,r1,.refl,List.prefix_refl _,e⟩ (fun i σ' H' _ ⟨G2,ρ2,s2,r2,g2,_⟩=>gd H' (g2.trans r2.sub.r)) ?_ ?_
 ·rintro i x σ' H2 H3 hi ⟨G2,ρ2,s2,r2,g2,p2,e2⟩ y
  have hd : ds[i]? = some (ds[i]'hi):=List.getElem?_eq_getElem hi
  rw [ZTk hR hd] at e2
  obtain ⟨s3,e3,e2⟩:=Ze e2
  obtain ⟨o',e4,e2⟩:=Ze e2
  obtain ⟨G3,r3,f3,d3⟩:=DW.turn hR r2 g2 p2 (yd i x H2 H3 _ hd (g2.trans r2.sub.r) y)
  refine ⟨b,G3,ρ2,s2,_,s3,r3,d3,e3,fun σ4 r4 _ _ _=>⟨b,G3,ρ2,s3,o',r4,e4,?_⟩⟩
  have g3:=g2.trans f3.gg
  cases o' with
  | nx s5=>exact fun σ5 G5 ρ5 H5 r5 g5 p5=>⟨G5,ρ5,s5,r5,g3.trans g5,p2.trans p5,e2⟩
  | ct s5=>exact fun σ5 G5 ρ5 H5 r5 g5 p5=>⟨G5,ρ5,s5,r5,g3.trans g5,p2.trans p5,e2⟩
  | bk s5=>cases e2; exact fun σ5 G5 ρ5 H5 r5 g5 p5=>k1 σ5 G5 ρ5 H5 r5 (g3.trans g5) (p2.trans p5)
  | rt z s5=>cases e2; exact k1
  | ro z s5=>cases e2; exact k1
 ·rintro σ' H2 ⟨G2,ρ2,s2,r2,g2,p2,e2⟩
  rw [List.drop_length] at e2
  cases e2
  exact k1 σ' G2 ρ2 H2 r2 g2 p2
end
end PL
end
section
namespace PL
open PySem PySem.Spec PyProof.Rows L2 Ev
theorem Zpd {σ : L2.St} {i : Nat} : ∀ {vs : List Nat},i ∉ vs → (wipe σ vs)[i]? = σ[i]?
 | [],_=>rfl
 | v :: vs,h=>by
  rw [List.mem_cons,not_or] at h
  show ((wipe σ vs).set v none)[i]? = _
  rw [List.getElem?_set_ne (fun e=>h.1 e.symm)]
  exact Zpd h.2
theorem ZGk {σ : L2.St} {i : Nat} : ∀ {vs : List Nat},i ∈ vs → (wipe σ vs)[i]? = if i < σ.length then some none else none
 | v :: vs,h=>by
  show ((wipe σ vs).set v none)[i]? = _
  by_cases hv : v = i
  ·subst hv
   by_cases hl : v < σ.length
   ·rw [if_pos hl,List.getElem?_set_self (by rw [wipe_length]; exact hl)]
   ·rw [if_neg hl,List.getElem?_eq_none (by rw [List.length_set,wipe_length]; omega)]
  ·rw [List.getElem?_set_ne hv]
   rcases List.mem_cons.mp h with e | h
   ·exact absurd e.symm hv
   ·exact ZGk h
theorem Z0o {σ σ2 : L2.St} {vs : List Nat} (hl : σ2.length = σ.length) (h : ∀ i,i ∉ vs → σ2[i]? = σ[i]?) : wipe σ2 vs = wipe σ vs:=by
 refine List.ext_getElem? fun i=>?_
 by_cases hi : i ∈ vs
 ·rw [ZGk hi,ZGk hi,hl]
 ·rw [Zpd hi,Zpd hi]
  exact h i hi
theorem Z2j {e : Env} : ∀ {vs : List Nat},(ZXg e vs).length = e.length
 | []=>rfl
 | v :: vs=>by
  show ((ZXg e vs).set v none).length = _
  rw [List.length_set,Z2j]
theorem ZMd {e : Env} {i : Nat} {x : Sl} : ∀ {vs : List Nat},(ZXg e vs)[i]? = some (some x) → e[i]? = some (some x) ∧ i ∉ vs
 | [],h=>⟨h,by simp⟩
 | v :: vs,h=>by
  have h : ((ZXg e vs).set v none)[i]? = some (some x):=h
  rcases Z2 h with ⟨_,q⟩ | ⟨n,q⟩
  ·cases q
  ·obtain ⟨a,b⟩:=ZMd q
   exact ⟨a,by rw [List.mem_cons,not_or]; exact ⟨fun e=>n e.symm,b⟩⟩
theorem ZMl {e0 e : Env} {vs : List Nat} : (ZSd e0 e vs).length = e.length:=by simp [ZSd]
theorem Zri {e0 e : Env} {vs : List Nat} {i : Nat} {x : Sl} (h : (ZSd e0 e vs)[i]? = some (some x)) : (i ∈ vs ∧ e0[i]? = some (some x) ∧ x.own = false) ∨ (i ∉ vs ∧ e[i]? = some (some x)):=by
 unfold ZSd at h
 rw [List.getElem?_map] at h
 cases q : (List.range e.length)[i]? with
 | none=>rw [q] at h; cases h
 | some j=>
  rw [q] at h
  have hj:=(List.getElem?_eq_some_iff.mp q)
  obtain ⟨hl,hj⟩:=hj
  rw [List.getElem_range] at hj
  subst hj
  have h : (if i ∈ vs then Zsp (e0.getD i none) else e.getD i none) = some x:=Option.some.inj h
  by_cases hi : i ∈ vs
  ·rw [if_pos hi] at h
   left
   rw [List.getD_eq_getElem?_getD] at h
   cases q2 : e0[i]? with
   | none=>rw [q2] at h; cases h
   | some y=>
    rw [q2] at h
    cases y with
    | none=>cases h
    | some y=>
     cases y with
     | d z=>cases h; exact ⟨hi,rfl,rfl⟩
     | ol _=>cases h
     | od _ _=>cases h
  ·rw [if_neg hi,List.getD_eq_getElem?_getD] at h
   right
   refine ⟨hi,?_⟩
   cases q2 : e[i]? with
   | none=>rw [q2] at h; cases h
   | some y=>rw [q2] at h; exact congrArg some h
section
variable {K : PySem.W.Frag} {R : OR} {b : Bs} {G G0 H H0 G' H' : Hp} {ρ ρ0 ρ' : List Addr} {σ σ2 : L2.St} {s s0 : S} {e e' e2 e2' : Env} (hR : Znb R)
theorem Fr.conv (f : Fr σ2 e2 G H ρ e2' G' H' ρ') (h1 : ∀ a,Own e2 σ2 a → Own e σ a) (h2 : ∀ a,Own e' σ a → Own e2' σ2 a) : Fr σ e G H ρ e' G' H' ρ':=
 ⟨f.gg,fun a o h n no g nt=>f.keep a o h n (fun q=>no (h1 a q)) g nt,f.there,fun a h=>by rcases f.gnew a h with h | h | h | h; exact .inl h; exact .inr (.inl h); exact .inr (.inr (.inl (h1 a h))); exact .inr (.inr (.inr h)),f.pre,fun a h=>h1 a (f.own a (h2 a h))⟩
theorem Rel.other (r : Rel K R b G ρ σ H s) {a : Addr} {o : HO} (h0 : b.H a = none) (h1 : G a = none) (h2 : a ∉ ρ) (h3 : ¬ Own s.env σ a) (hnt : ZCf o = false) (hat : ∀ ps,H a ≠ some (.tbl ps)) : Rel K R b G ρ σ (upd H a o) s:=by
 refine ⟨⟨r.le.gg,fun c u h n gn nt=>?_,fun c h=>?_,r.le.gnew,r.le.pre⟩,fun c u h=>?_,⟨fun c u h ht=>by
  by_cases hc : c = a
  ·subst hc; rw [upd_same] at h; cases h; rw [hnt] at ht; cases ht
  ·rw [upd_ne hc] at h; exact r.cells.tups c u h ht,r.cells.nd,r.cells.cl,fun c hc=>by
  by_cases q : c = a
  ·subst q; rw [upd_same]; exact nofun
  ·rw [upd_ne q]; exact r.cells.th c hc,fun i c ds e1 e2 hd=>?_,fun i c k es e1 e2=>?_,fun P q h1=>?_,fun i c ks us e1 e2=>?_,r.cells.mf_⟩,r.el,fun i x e1=>?_,r.sep⟩
 ·rw [upd_ne fun q=>by rw [q,h0] at h; cases h]; exact r.le.keep c u h n gn nt
 ·by_cases hc : c = a
  ·subst hc; rw [upd_same]; exact nofun
  ·rw [upd_ne hc]; exact r.le.there c h
 ·rw [upd_ne fun q=>by rw [q,h1] at h; cases h]; exact r.sub c u h
 ·obtain ⟨q1,xs,q2,q3⟩:=r.cells.at_ i c ds e1 e2 hd
  exact ⟨q1,xs,by rw [upd_ne fun q=>h2 (by rw [← q]; exact List.mem_of_getElem? e1)]; exact q2,q3⟩
 ·obtain ⟨q1,C,nms,dx,vs,q2,q3,q4,q5⟩:=r.cells.ob_ i c k es e1 e2
  exact ⟨q1,C,nms,dx,vs,q2,by rw [upd_ne fun q=>h2 (by rw [← q]; exact List.mem_of_getElem? e1)]; exact q3,q4,q5⟩
 ·obtain ⟨q1,q2⟩:=r.cells.tab P q h1
  obtain ⟨ps,e,_⟩:=id q2
  exact ⟨q1,q2.go .refl (upd_ne fun z=>hat ps (by rw [← z]; exact e))⟩
 ·obtain ⟨q1,w,xs,ws,q2,q3,q4⟩:=r.cells.mp_ i c ks us e1 e2
  exact ⟨q1,w,xs,ws,q2,by rw [upd_ne fun q=>h2 (by rw [← q]; exact List.mem_of_getElem? e1)]; exact q3,q4⟩
 ·obtain ⟨v,q1,q2⟩:=r.env i x e1
  refine ⟨v,q1,?_⟩
  cases x with
  | d x=>exact q2
  | ol ds=>
   obtain ⟨c,xs,rfl,w⟩:=q2
   exact ⟨c,xs,rfl,w.1,w.2.1,w.2.2.1,by rw [upd_ne fun q=>h3 (by rw [← q]; exact ⟨i,_,e1,rfl,q1⟩)]; exact w.2.2.2.1,w.2.2.2.2⟩
  | od ks ds=>
   obtain ⟨c,xs,rfl,w⟩:=q2
   exact ⟨c,xs,rfl,w.1,w.2.1,w.2.2.1,by rw [upd_ne fun q=>h3 (by rw [← q]; exact ⟨i,_,e1,rfl,q1⟩)]; exact w.2.2.2.1,w.2.2.2.2⟩
theorem Fr.other (f : Fr σ e G H ρ e' G' H' ρ') {a : Addr} {o : HO} (h : H a = none) : Fr σ e G H ρ e' G' (upd H' a o) ρ':=by
 refine ⟨f.gg,fun c u h1 n no gn nt=>?_,fun c h1=>?_,f.gnew,f.pre,f.own⟩
 ·rw [upd_ne fun q=>by rw [q,h] at h1; cases h1]; exact f.keep c u h1 n no gn nt
 ·by_cases hc : c = a
  ·subst hc; rw [upd_same]; exact nofun
  ·rw [upd_ne hc]; exact f.there c h1
include hR
theorem Rel.unwipe (r : Rel K R b G ρ σ2 H s) {vs : List Nat} (hw : wipe σ2 vs = wipe σ vs) (r0 : Rel K R b G0 ρ0 σ H0 s0) (gg : ZC G0 G) (p : ρ0 <+: ρ) :
  Rel K R b G ρ σ H ⟨ZSd s0.env s.env vs,s.cs⟩ ∧ ∀ a,Own (ZSd s0.env s.env vs) σ a → Own s.env σ2 a:=by
 have off : ∀ {i : Nat},i ∉ vs → σ2[i]? = σ[i]?:=fun {i} h=>by rw [← Zpd h,hw,Zpd h]
 have ow : ∀ (i : Nat) (x : Sl),(ZSd s0.env s.env vs)[i]? = some (some x) → x.own = true → i ∉ vs ∧ s.env[i]? = some (some x):=fun i x h h2=>by
  rcases Zri h with ⟨_,_,q⟩ | q
  ·rw [q] at h2; cases h2
  ·exact q
 refine ⟨⟨r.le,r.sub,r.cells,?_,fun i x e=>?_,fun i j x y a h1 h2 h3 h4 h5 h6=>?_⟩,fun a ⟨i,x,h1,h2,h3⟩=>?_⟩
 ·show (ZSd s0.env s.env vs).length = _
  rw [ZMl,r.el]
  have:=congrArg List.length hw
  rwa [wipe_length,wipe_length] at this
 ·rcases Zri e with ⟨h1,h2,h3⟩ | ⟨h1,h2⟩
  ·obtain ⟨v,q1,q2⟩:=r0.env i x h2
   cases x with
   | d x=>exact ⟨v,q1,RD.mono hR gg p q2⟩
   | ol _=>cases h3
   | od _ _=>cases h3
  ·obtain ⟨v,q1,q2⟩:=r.env i x h2
   exact ⟨v,by rw [← off h1]; exact q1,q2⟩
 ·obtain ⟨a1,a2⟩:=ow i x h1 h3
  obtain ⟨a3,a4⟩:=ow j y h2 h4
  exact r.sep i j x y a a2 a4 h3 h4 (by rw [off a1]; exact h5) (by rw [off a3]; exact h6)
 ·obtain ⟨a1,a2⟩:=ow i x h1 h2
  exact ⟨i,x,a2,h2,by rw [off a1]; exact h3⟩
end
section
variable {X : Cx} {R : OR} {elt tg iter : Expr} {ifs : List Expr} {scope : Scope} {own : List (Str × Nat)} {fe : FD} {fi : FO} {ft : FT} {pos pos' : Pos} {g : D → S → Option S} (hR : Znb R)
include hR
theorem Zmp {σ : L2.St} {H : Hp} {Q : VK} {vs sl : List Nat} (hsl : ∀ i ∈ sl,i ∈ vs) (h : tO X.K R (fLc vs fi g ft fe) σ H Q) : tLc (iD X.K R fi) (gS X.K R sl g) (tTs X.K R ft) (tD X.K R fe) vs σ H Q:=by
 obtain ⟨b,G,ρ,s,r,s',rl,e,k⟩:=h
 obtain ⟨⟨ds,s1⟩,e1,e⟩:=Ze e
 dsimp only at e
 split at e
 case isFalse=>cases e
 rename_i hlen
 refine ⟨b,G,ρ,s,ds,s1,rl,e1,fun G1 ρ1 H1 J r1 f1 ⟨Gd,Y,wk,gd,yd⟩ Dn hDn=>?_⟩
 have hb : b.H Dn = none:=by
  cases z : b.H Dn with
  | none=>rfl
  | some o=>exact absurd hDn (r1.le.there Dn (ZB z))
 have hH : H Dn = none:=by
  cases z : H Dn with
  | none=>rfl
  | some o=>exact absurd hDn (f1.there Dn (ZB z))
 have hG:=r1.sub.free hDn
 have hρ : Dn ∉ ρ1:=fun q=>(r1.cells.some q) hDn
 have hO : ¬ Own s1.env σ Dn:=fun q=>(r1.ownB q).2.2.2 hDn
 refine lc_it wk (fun i H'=>∃ G2 ρ2 s2 acc es rest,Rel X.K R b G2 ρ2 σ H' s2 ∧ Fr σ s1.env G1 H1 ρ1 s2.env G2 H' ρ2 ∧ H' Dn = some (.lst acc) ∧ RDs X.K R G2 ρ2 acc es ∧ acc.length ≤ i ∧ G2 Dn = none ∧ Dn ∉ ρ2 ∧ ¬ Own s2.env σ Dn ∧ lcGo s1.env vs g ft fe (ds.drop i) s2 = some (rest,s') ∧ r = es ++ rest) ?_ (fun i H' _ ⟨G2,ρ2,s2,_,_,_,r2,f2,_⟩=>gd H' (f2.gg.trans r2.sub.r)) ?_ ?_
 ·exact ⟨G1,ρ1,s1,[],[],r,r1.other hb hG hρ hO rfl (fun _ z=>by rw [hDn] at z; cases z),Fr.refl.other hDn,upd_same,.nil,Nat.le_refl _,hG,hρ,hO,e,rfl⟩
 ·rintro i x H2 H3 hi ⟨G2,ρ2,s2,acc,es,rest,r2,f2,hD,hacc,hal,g2,p2,o2,e2,er⟩ y
  have hd : ds[i]? = some (ds[i]'hi):=List.getElem?_eq_getElem hi
  rw [ZTk hR hd] at e2
  obtain ⟨s3,e3,e2⟩:=Ze e2
  obtain ⟨⟨c,s4⟩,e4,e2⟩:=Ze e2
  obtain ⟨G3,r3,f3,d3⟩:=DW.turn hR r2 f2.gg f2.prf (yd i x H2 H3 _ hd (f2.gg.trans r2.sub.r) y)
  have rw3 : Rel X.K R b G3 ρ2 (wipe σ vs) H3 ⟨ZXg s2.env vs,s2.cs⟩:=r3.drop (by rw [Z2j,wipe_length]; exact r3.el) fun i x e=>⟨(ZMd e).1,Zpd (ZMd e).2⟩
  have ow3 : ∀ a,Own (ZXg s2.env vs) (wipe σ vs) a → Own s2.env σ a:=fun a ⟨j,z,q1,q2,q3⟩=>⟨j,z,(ZMd q1).1,q2,by rw [← Zpd (ZMd q1).2]; exact q3⟩
  refine ⟨b,G3,ρ2,_,_,s3,rw3,d3,e3,fun σ2 r4 o4 l4 w4=>?_⟩
  have hw : wipe σ2 vs = wipe σ vs:=Z0o (l4.trans (wipe_length _ _)) fun i hi=>(w4 i fun q=>hi (hsl i q)).trans (Zpd hi)
  have ow4 : ∀ a,Own s3.env σ2 a → Own s2.env σ a:=fun a q=>ow3 a (o4 a q)
  refine ⟨hw,b,G3,ρ2,s3,c,s4,r4,e4,fun G5 ρ5 H5 r5 f5=>?_⟩
  have hD3 : H3 Dn = some (.lst acc):=f3.keep Dn _ hD p2 o2 g2 (fun _ z=>by cases z)
  have f35 : Fr σ2 s3.env G3 H3 ρ2 s4.env G5 H5 ρ5:=f5
  have fin : ∀ {s6 : S} {G6 H6 : Hp} {ρ6 : List Addr},Rel X.K R b G6 ρ6 σ2 H6 s6 → Fr σ2 s3.env G3 H3 ρ2 s6.env G6 H6 ρ6 → Rel X.K R b G6 ρ6 σ H6 ⟨ZSd s1.env s6.env vs,s6.cs⟩ ∧ Fr σ s1.env G1 H1 ρ1 (ZSd s1.env s6.env vs) G6 H6 ρ6 ∧ H6 Dn = some (.lst acc) ∧ RDs X.K R G6 ρ6 acc es ∧ G6 Dn = none ∧ Dn ∉ ρ6 ∧ ¬ Own (ZSd s1.env s6.env vs) σ Dn:=fun {s6 G6 H6 ρ6} r6 f6=>by
   obtain ⟨r7,o7⟩:=r6.unwipe hR hw r1 ((f2.gg.trans f3.gg).trans f6.gg) ((f2.prf).trans f6.prf)
   have f7 : Fr σ s2.env G3 H3 ρ2 (ZSd s1.env s6.env vs) G6 H6 ρ6:=f6.conv ow4 o7
   have g3 : G3 Dn = none:=by
    cases z : G3 Dn with
    | none=>rfl
    | some o=>
     rcases f3.gnew Dn (ZB z) with q | q | q | q
     ·exact absurd g2 q
     ·rw [hD] at q; cases q
     ·exact absurd q o2
     ·exact absurd q p2
   refine ⟨r7,(f2.trans f3).trans f7,f7.keep Dn _ hD3 p2 o2 g3 (fun _ z=>by cases z),hacc.mono hR (f3.gg.trans f6.gg) (f3.prf.trans f6.prf),?_,?_,fun q=>o2 (f7.own Dn q)⟩
   ·cases z : G6 Dn with
    | none=>rfl
    | some o=>
     rcases f7.gnew Dn (ZB z) with q | q | q | q
     ·exact absurd g3 q
     ·rw [hD3] at q; cases q
     ·exact absurd q o2
     ·exact absurd q p2
   ·obtain ⟨t,et,ht⟩:=f7.pre
    rw [et]
    intro q
    rcases List.mem_append.mp q with q | q
    ·exact p2 q
    ·have:=ht Dn q; rw [hD3] at this; cases this
  cases c with
  | false=>
   refine iteF ?_
   obtain ⟨r7,f7,h7,a7,n7,p7,o7⟩:=fin r5 f5
   exact ⟨G5,ρ5,_,acc,es,rest,r7,f7,h7,a7,by omega,n7,p7,o7,e2,er⟩
  | true=>
   refine iteT ?_
   obtain ⟨⟨z,s6⟩,e6,e2⟩:=Ze e2
   obtain ⟨⟨t,s7⟩,e7,e2⟩:=Zm e2
   cases e2
   refine ⟨b,G5,ρ5,s4,z,s6,r5,e6,fun v G6 ρ6 H6 r6 f6 d6=>?_⟩
   obtain ⟨r7,f7,h7,a7,n7,p7,o7⟩:=fin r6 (f5.trans f6)
   refine ⟨acc,h7,ZXc (by omega),G6,ρ6,_,acc ++ [v],es ++ [z],t,r7.other hb n7 p7 o7 rfl (fun _ z=>by rw [h7] at z; cases z),f7.other hDn,upd_same,RDs.app (.cons d6 .nil) a7,by rw [List.length_append]; simp; omega,n7,p7,o7,e7,by rw [er,List.append_assoc]; rfl⟩
 ·rintro H2 ⟨G2,ρ2,s2,acc,es,rest,r2,f2,hD,hacc,hal,g2,p2,o2,e2,er⟩
  rw [List.drop_length] at e2
  cases e2
  rw [List.append_nil] at er
  subst er
  exact k Dn acc G2 ρ2 H2 r2 (f1.trans f2) hb hH g2 p2 o2 hD hacc
theorem ZBo {sl : List Nat} (hc : X.calm = true) (hN : X.N.Nodup) (hi : PI X tg iter (iD X.K R fi)) (ok : BlkOk X.N X.env.scope scope own)
  (hg : ∀ (s : Shared) (H : Hp) (C : Addr) (cl : List (Str × Addr)) (fp : List Addr),PG (X.blk s H scope (compEnvC scope cl C X.env) fp) tg (gS X.K R sl g)) (hsl : ∀ i ∈ sl,i ∈ own.map (·.2))
  (ht : ∀ (s : Shared) (H : Hp) (C : Addr) (cl : List (Str × Addr)) (fp : List Addr),PTs (X.blk s H scope (compEnvC scope cl C X.env) fp) ifs (tTs X.K R ft))
  (he : ∀ (s : Shared) (H : Hp) (C : Addr) (cl : List (Str × Addr)) (fp : List Addr),PE (X.blk s H scope (compEnvC scope cl C X.env) fp) elt (tD X.K R fe)) (hs : ∀ x,foldedSetIterable iter X.env x = pure x:=by intro _; rfl) :
  PE X (.ListComp elt [⟨tg,iter,ifs,0⟩] scope pos) (tO X.K R (fLc (own.map (·.2)) fi g ft fe)):=
 pd_w (pe_lc hc hN hi ok hg ht he hs) fun σ H Q h=>Zmp hR hsl h
theorem Zwg {sl : List Nat} {i : Nat} {y : Str} {py spos : Pos} (hc : X.calm = true) (hN : X.N.Nodup) (hy : X.N[i]? = some y) (hyl : X.env.scope.names.lookup y = some .local)
  (hsw : swapsWith (.ListComp elt [⟨tg,iter,ifs,0⟩] scope pos) (some (.Name y py)) spos.line X.env = pure true) (hi : PI X tg iter (iD X.K R fi)) (ok : BlkOk X.N X.env.scope scope own)
  (hg : ∀ (s : Shared) (H : Hp) (C : Addr) (cl : List (Str × Addr)) (fp : List Addr),PG (X.blk s H scope (compEnvC scope cl C X.env) fp) tg (gS X.K R sl g)) (hsl : ∀ i ∈ sl,i ∈ own.map (·.2))
  (ht : ∀ (s : Shared) (H : Hp) (C : Addr) (cl : List (Str × Addr)) (fp : List Addr),PTs (X.blk s H scope (compEnvC scope cl C X.env) fp) ifs (tTs X.K R ft))
  (he : ∀ (s : Shared) (H : Hp) (C : Addr) (cl : List (Str × Addr)) (fp : List Addr),PE (X.blk s H scope (compEnvC scope cl C X.env) fp) elt (tD X.K R fe)) (hs : ∀ x,foldedSetIterable iter X.env x = pure x:=by intro _; rfl) :
  PS X (.Assign [.Name y py] (.ListComp elt [⟨tg,iter,ifs,0⟩] scope pos) spos) (sS X.K R (Zch i (fLc (own.map (·.2)) fi g ft fe))):=by
 refine ps_w (ps_setLc hc hN hy hyl hsw hi ok hg ht he hs) fun Dd σ H ⟨b,G,ρ,s,o,rl,e,k⟩=>?_
 obtain ⟨⟨z,s1⟩,e1,e⟩:=Zm e
 cases e
 refine Zmp hR hsl ⟨b,G,ρ,s,z,s1,rl,e1,fun v xs G1 ρ1 H1 r1 f1 n0 n1 n2 n3 n4 n5 d1=>?_⟩
 exact k _ G1 ρ1 H1 (r1.setO i (x:=.ol z) ⟨v,xs,rfl,n0,n2,n3,n5,d1⟩ rfl n4) f1.gg f1.prf
theorem Z4f {sts : List Expr} (h : PTs X sts tYes) : PTs X sts (tTs X.K R fYes):=⟨fun pins s σ H Q I ⟨b,G,ρ,s0,r,s',rl,e,k⟩=>h.run pins s σ H Q I (by
 cases e
 exact k G ρ H rl .refl)⟩
end
end PL
end
section
namespace PL
open PySem PySem.Spec PyProof.Rows L2 Ev
section
variable {X : Cx} {R : OR} {e a c o ie : Expr} {es : List Expr} {fa fb fe fp fx f : FD} {fo fl : FO} {pos pos' : Pos} (hR : Znb R)
include hR
theorem ZYn {K : PySem.W.Frag} {b : Bs} {G H : Hp} {ρ : List Addr} {σ : L2.St} {s : S} {i : Nat} {ds : List D} (rl : Rel K R b G ρ σ H s) (h : s.env[i]? = some (some (.ol ds))) :
  ∃ a xs,σ[i]? = some (some (.ref a)) ∧ H a = some (.lst xs) ∧ RDs K R G ρ xs ds:=by
 obtain ⟨v,e1,a,xs,rfl,h1,h2,h3,h4,h5⟩:=rl.env i _ h
 exact ⟨a,xs,e1,h4,h5⟩
theorem ZBb {i : Nat} (h : PS X (.Expr e pos) (tDrop (tBM X.K "list" rAppend (tVar i) (tCons (tD X.K R fe) tNil)))) : PS X (.Expr e pos) (sS X.K R (fApp i fe)):=by
 refine ps_w h fun Dd σ H ⟨b,G,ρ,s,o,rl,e,k⟩=>?_
 unfold fApp at e
 split at e
 ·rename_i d0 q0
  obtain ⟨⟨z,s1⟩,e1,e⟩:=Ze e
  dsimp only at e
  split at e
  ·rename_i ds q1
   split at e
   ·rename_i hl
    cases e
    obtain ⟨a,xs,h1,h2,h3⟩:=ZYn hR rl q0
    refine ⟨_,h1,.inl ⟨rfl,_,SqL.of h2⟩,b,G,ρ,s,z,s1,rl,e1,fun v G1 ρ1 H1 r1 f1 d1=>?_⟩
    obtain ⟨a',ys,h4,h5,h6⟩:=ZYn hR r1 q1
    rw [h1] at h4
    cases h4
    refine ⟨a,ys,v,rfl,rfl,h5,ZXc (by rw [h6.len]; omega),?_⟩
    obtain ⟨r2,f2⟩:=r1.write hR (z:=.ol (ds ++ [z])) (o:=.lst (ys ++ [v])) q1 rfl h1 rfl rfl fun w1 w2 w3=>⟨a,_,rfl,w1,w2,w3,upd_same,RDs.app (.cons d1 .nil) h6⟩
    exact k σ G1 ρ1 _ r2 f1.gg f1.prf
   ·cases e
  ·cases e
 ·cases e
theorem Z0k {o ie : Expr} {p : Pos} (h : PS X (.Assign [.Subscript o ie p] e pos) (tAsg (tD X.K R fe) (gSub (tD X.K R fp) (tD X.K R fx) rSetL))) : PS X (.Assign [.Subscript o ie p] e pos) (sS X.K R (Z4l fp fx fe)):=by
 refine ps_w h fun Dd σ H ⟨b,G,ρ,s,o,rl,e,k⟩=>?_
 obtain ⟨⟨z,s1⟩,e1,e⟩:=Ze e
 obtain ⟨⟨y,s2⟩,e2,e⟩:=Ze e
 obtain ⟨⟨x,s3⟩,e3,e⟩:=Ze e
 dsimp only at e
 split at e
 ·obtain ⟨ds,e4,e⟩:=Ze e
  split at e
  ·cases e
  rename_i hdead
  have hdead : ZPh ds = false:=by simpa using hdead
  split at e
  ·rename_i hl
   cases e
   refine ⟨b,G,ρ,s,z,s1,rl,e1,fun v G1 ρ1 H1 r1 f1 d1=>⟨b,G1,ρ1,s1,_,s2,r1,e2,fun v2 G2 ρ2 H2 r2 f2 d2=>⟨b,G2,ρ2,s2,_,s3,r2,e3,fun v3 G3 ρ3 H3 r3 f3 d3=>?_⟩⟩⟩
   have d2:=d2.mono hR f3.gg f3.prf
   have d1:=d1.mono hR (f2.trans f3).gg (f2.trans f3).prf
   cases d3
   cases d2 with
   | cell h1=>
    obtain ⟨_,xs,h2,h3⟩:=r3.cells.at_ _ _ ds h1 e4 hdead
    have hx : ∀ {j' : Int},0 ≤ j' ∧ j' < ds.length → ixN xs.length j' = some j'.toNat:=fun {j'} hl=>by
     unfold ixN
     rw [if_pos hl.1,if_pos (by rw [h3.len]; exact hl.2)]
    refine ⟨_,xs,_,_,rfl,rfl,h2,hx hl,?_⟩
    ·refine k σ G3 ρ3 _ (r3.putC hR h1 e4 hdead (h3.set d1 _)) ((f1.trans f2).trans f3).gg ((f1.trans f2).trans f3).prf
  ·cases e
 ·cases e
theorem Zzo (h : PE X e (tO X.K R fo)) : PE X e (tD X.K R (Z0l fo)):=by
 refine pd_w h fun σ H Q ⟨b,G,ρ,s,r,s',rl,e,k⟩=>?_
 obtain ⟨⟨ds,s1⟩,e1,e⟩:=Zm e
 cases e
 refine ⟨b,G,ρ,s,ds,s1,rl,e1,fun a xs G1 ρ1 H1 r1 f1 n0 n1 n2 n3 n4 n5 d1=>?_⟩
 have pr : ρ1 <+: ρ1 ++ [a]:=List.prefix_append _ _
 have fr : Fr σ s.env G H ρ s1.env G1 H1 (ρ1 ++ [a]):=by
  obtain ⟨t,et,ht⟩:=f1.pre
  refine ⟨f1.gg,f1.keep,f1.there,f1.gnew,⟨t ++ [a],by rw [et,List.append_assoc],fun c hc=>?_⟩,f1.own⟩
  rcases List.mem_append.mp hc with q | q
  ·exact ht c q
  ·rw [List.mem_singleton.mp q]; exact n1
 have rr : Rel X.K R b G1 (ρ1 ++ [a]) σ H1 ⟨s1.env,s1.cs ++ [ds]⟩:=by
  refine ⟨rl.leOf fr,r1.sub,⟨r1.cells.tups,?_,by rw [List.length_append,List.length_append,r1.cells.cl]; rfl,fun c hc=>by
   rcases List.mem_append.mp hc with q | q
   ·exact r1.cells.th c q
   ·rw [List.mem_singleton.mp q,n5]; exact nofun,fun i c es h1 h2 hd=>?_,fun i c k es h1 h2=>?_,r1.cells.tab,fun i c ks us h1 h2=>?_,r1.cells.mf_.push hR r1.cells.cl fun ks us z=>Znm (z ▸ d1)⟩,r1.el,fun i x h1=>?_,r1.sep⟩
  ·rw [List.nodup_append]
   exact ⟨r1.cells.nd,by simp,fun x hx y hy z=>n3 (by rw [List.mem_singleton.mp hy] at z; rw [← z]; exact hx)⟩
  ·by_cases hi : i < ρ1.length
   ·rw [List.getElem?_append_left hi] at h1
    rw [List.getElem?_append_left (by rw [r1.cells.cl]; exact hi)] at h2
    obtain ⟨q1,ys,q2,q3⟩:=r1.cells.at_ i c es h1 h2 hd
    exact ⟨q1,ys,q2,q3.mono hR .refl pr⟩
   ·have hi2 : i = ρ1.length:=by
     have:=(List.getElem?_eq_some_iff.mp h1).1
     rw [List.length_append] at this
     simp at this
     omega
    subst hi2
    rw [List.getElem?_append_right (Nat.le_refl _),Nat.sub_self] at h1
    rw [← r1.cells.cl,List.getElem?_append_right (Nat.le_refl _),Nat.sub_self] at h2
    cases h1
    cases h2
    exact ⟨n2,xs,n5,d1.mono hR .refl pr⟩
  ·by_cases hi : i < ρ1.length
   ·rw [List.getElem?_append_left hi] at h1
    rw [List.getElem?_append_left (by rw [r1.cells.cl]; exact hi)] at h2
    obtain ⟨q1,C,nms,dx,vs,q2,q3,q4,q5⟩:=r1.cells.ob_ i c k es h1 h2
    exact ⟨q1,C,nms,dx,vs,q2,q3,q4,q5.mono hR .refl pr⟩
   ·have hi2 : i = ρ1.length:=by
     have:=(List.getElem?_eq_some_iff.mp h1).1
     rw [List.length_append] at this
     simp at this
     omega
    subst hi2
    rw [← r1.cells.cl,List.getElem?_append_right (Nat.le_refl _),Nat.sub_self] at h2
    cases h2
    exact (ZWn d1).elim
  ·by_cases hi : i < ρ1.length
   ·rw [List.getElem?_append_left hi] at h1
    rw [List.getElem?_append_left (by rw [r1.cells.cl]; exact hi)] at h2
    obtain ⟨q1,w,xs,ws,q2,q3,q4,q5,q6⟩:=r1.cells.mp_ i c ks us h1 h2
    exact ⟨q1,w,xs,ws,q2,q3,q4.mono hR .refl pr,q5.mono hR .refl pr,q6⟩
   ·have hi2 : i = ρ1.length:=by
     have:=(List.getElem?_eq_some_iff.mp h1).1
     rw [List.length_append] at this
     simp at this
     omega
    subst hi2
    rw [← r1.cells.cl,List.getElem?_append_right (Nat.le_refl _),Nat.sub_self] at h2
    cases h2
    exact (ZVn d1).elim
  ·obtain ⟨v,q1,q2⟩:=r1.env i x h1
   refine ⟨v,q1,q2.go hR .refl pr fun d ed hx=>⟨rfl,?_,?_⟩⟩
   ·subst ed; exact (r1.ownB ⟨i,x,h1,hx,q1⟩).2.1
   ·subst ed
    have ow : Own s1.env σ d:=⟨i,x,h1,hx,q1⟩
    intro q
    rcases List.mem_append.mp q with q | q
    ·exact (r1.ownB ow).2.2.1 q
    ·rw [List.mem_singleton.mp q] at ow; exact n4 ow
 refine k (.ref a) G1 _ H1 rr fr (.cell ?_)
 rw [r1.cells.cl,List.getElem?_append_right (Nat.le_refl _),Nat.sub_self]
 rfl
end
def Zod (n : Nat) (ds : List D) : Env:=ds.map (fun d=>some (.d d)) ++ List.replicate (n - ds.length) none
abbrev FF:=List D → List (List D) → Option (D × List (List D))
abbrev FFO:=List D → List (List D) → Option (List D × List (List D))
def runF (m n : Nat) (F : FS) : FF:=fun ds cs=>if ds.length = m then (F ⟨Zod n ds,cs⟩).bind fun o=>match o with
 | .rt r s=>some (r,s.cs)
 | .nx s=>some (.non,s.cs)
 | _=>none
 else none
def runO (m n : Nat) (F : FS) : FFO:=fun ds cs=>if ds.length = m then (F ⟨Zod n ds,cs⟩).bind fun o=>match o with
 | .ro r s=>some (r,s.cs)
 | _=>none
 else none
def spD (K : PySem.W.Frag) (R : OR) (m : Nat) (F : FF) : Sp:=fun vs H Q _=>∃ G ρ ds cs r cs',ds.length = m ∧ Same G H ∧ Cells K R G ρ H cs ∧ RDs K R G ρ vs ds ∧ F ds cs = some (r,cs') ∧
 ∀ v G' ρ' H',Le G H ρ G' H' ρ' → Same G' H' → Cells K R G' ρ' H' cs' → RD K R G' ρ' v r → Q v H'
def spO (K : PySem.W.Frag) (R : OR) (m : Nat) (F : FFO) : Sp:=fun vs H Q _=>∃ G ρ ds cs r cs',ds.length = m ∧ Same G H ∧ Cells K R G ρ H cs ∧ RDs K R G ρ vs ds ∧ F ds cs = some (r,cs') ∧
 ∀ a xs G' ρ' H',Le G H ρ G' H' ρ' → Same G' H' → Cells K R G' ρ' H' cs' → H a = none → G' a = none → a ∉ ρ' → H' a = some (.lst xs) → RDs K R G' ρ' xs r → Q (.ref a) H'
theorem ZBi {n : Nat} {ds : List D} {i : Nat} {x : Sl} (h : (Zod n ds)[i]? = some (some x)) : ∃ d,ds[i]? = some d ∧ x = .d d:=by
 unfold Zod at h
 by_cases hi : i < ds.length
 ·rw [List.getElem?_append_left (by rw [List.length_map]; exact hi),List.getElem?_map] at h
  cases q : ds[i]? with
  | none=>rw [q] at h; cases h
  | some d=>rw [q] at h; cases h; exact ⟨d,rfl,rfl⟩
 ·rw [List.getElem?_append_right (by rw [List.length_map]; omega)] at h
  have:=List.mem_of_getElem? h
  rw [List.mem_replicate] at this
  cases this.2
theorem ZAg {K : PySem.W.Frag} {R : OR} {G H : Hp} {ρ : List Addr} {vs : List V} {ds : List D} {cs : List (List D)} {N : List Str} (h1 : Same G H) (h2 : Cells K R G ρ H cs) (h3 : RDs K R G ρ vs ds) : Rel K R ⟨G,H,ρ⟩ G ρ (L2.start N vs) H ⟨Zod N.length ds,cs⟩:=by
 refine ⟨.refl,h1,h2,?_,fun i x e=>?_,fun i j x y a e1 e2 e3=>?_⟩
 ·simp [Zod,L2.start,h3.len]
 ·obtain ⟨d,q1,rfl⟩:=ZBi e
  obtain ⟨v,q2,q3⟩:=h3.at q1
  refine ⟨v,?_,q3⟩
  unfold L2.start
  rw [List.getElem?_append_left (by rw [List.length_map]; exact (List.getElem?_eq_some_iff.mp q2).1),List.getElem?_map,q2]
  rfl
 ·obtain ⟨d,q1,rfl⟩:=ZBi e1
  cases e3
section
variable {P : Program} {w : World} {K : PySem.W.Frag} {mg : Str → Option Value} {base : Heap} {R : OR}
theorem Zbl {x qual : Str} {st : Stmt} {f : Addr} {fd : FuncData} {N ps : List Str} {k m n : Nat} {F : FS} (T : Fun K x qual st f fd) (Sc : FnScope N ps (defScope st)) (hm : ps.length = m) (hn : N.length = n)
  (hbody : ∀ (cdv : Value) (A : Around) (outer : List PySem.Env) (s : Shared) (H : Hp) (E : XK),Room k (A.deeper (envOfC qual (defScope st) s.heap.objs.size f cdv)) → PSs (cxOf CX0 P w K mg base N qual (defScope st) f cdv A outer s H E).nox (defBody st) (sS K R F)) :
  FnOk P w K mg base CX0 (k + 1) f fd ps (spD K R m (runF m n F)):=by
 subst hm hn
 refine T.ok Sc (fun vs H Q E ⟨G,ρ,ds,cs,r,cs',h1,_,_,h2,_⟩=>by rw [h2.len,h1]) fun cdv A outer s H vs Q E hr ⟨G,ρ,ds,cs,r,cs',h0,h1,h2,h3,e,k⟩=>⟨_,hbody cdv A outer s H E hr,?_⟩
 unfold runF at e
 rw [if_pos h0] at e
 obtain ⟨o,e1,e⟩:=Ze e
 refine ⟨⟨G,H,ρ⟩,G,ρ,_,o,ZAg h1 h2 h3,e1,?_⟩
 cases o with
 | rt z s1=>cases e; exact fun v σ' G' ρ' H' r1 d1=>k v G' ρ' H' r1.le r1.sub r1.cells d1
 | nx s1=>cases e; exact fun σ' G' ρ' H' r1 _ _=>k .non G' ρ' H' r1.le r1.sub r1.cells .non
 | bk s1=>cases e
 | ct s1=>cases e
 | ro z s1=>cases e
theorem Zbp {x qual : Str} {st : Stmt} {f : Addr} {fd : FuncData} {N ps : List Str} {k m n : Nat} {F : FS} (T : Fun K x qual st f fd) (Sc : FnScope N ps (defScope st)) (hm : ps.length = m) (hn : N.length = n)
  (hbody : ∀ (cdv : Value) (A : Around) (outer : List PySem.Env) (s : Shared) (H : Hp) (E : XK),Room k (A.deeper (envOfC qual (defScope st) s.heap.objs.size f cdv)) → PSs (cxOf CX0 P w K mg base N qual (defScope st) f cdv A outer s H E).nox (defBody st) (sS K R F)) :
  FnOk P w K mg base CX0 (k + 1) f fd ps (spO K R m (runO m n F)):=by
 subst hm hn
 refine T.ok Sc (fun vs H Q E ⟨G,ρ,ds,cs,r,cs',h1,_,_,h2,_⟩=>by rw [h2.len,h1]) fun cdv A outer s H vs Q E hr ⟨G,ρ,ds,cs,r,cs',h0,h1,h2,h3,e,k⟩=>⟨_,hbody cdv A outer s H E hr,?_⟩
 unfold runO at e
 rw [if_pos h0] at e
 obtain ⟨o,e1,e⟩:=Ze e
 refine ⟨⟨G,H,ρ⟩,G,ρ,_,o,ZAg h1 h2 h3,e1,?_⟩
 cases o with
 | ro z s1=>cases e; exact fun a xs σ' G' ρ' H' r1 n0 n1 n2 n3 d1=>k a xs G' ρ' H' r1.le r1.sub r1.cells n0 n1 n2 n3 d1
 | rt z s1=>cases e
 | nx s1=>cases e
 | bk s1=>cases e
 | ct s1=>cases e
end
def fFn (F : FF) (fl : FO) : FD:=fun s=>(fl s).bind fun p=>(F p.1 p.2.cs).map fun q=>(q.1,⟨p.2.env,q.2⟩)
def fFnO (F : FFO) (fl : FO) : FO:=fun s=>(fl s).bind fun p=>(F p.1 p.2.cs).map fun q=>(q.1,⟨p.2.env,q.2⟩)
section
variable {X : Cx} {R : OR} {e : Expr} {fl : FO} {f : Addr} (hR : Znb R)
include hR
theorem Zpk {m : Nat} {F : FF} {E : XK} (hl : ∀ (ds : List D) cs r,F ds cs = some r → ds.length = m) (h : PE X e (tCall (spD X.K R m F) [] E (tL X.K R fl))) : PE X e (tD X.K R (fFn F fl)):=by
 refine pd_w h fun σ H Q ⟨b,G,ρ,s,r,s',rl,e,k⟩=>?_
 obtain ⟨⟨ds,s1⟩,e1,e⟩:=Ze e
 obtain ⟨⟨z,cs'⟩,e2,e⟩:=Zm e
 cases e
 refine ⟨b,G,ρ,s,ds,s1,rl,e1,fun vs G1 ρ1 H1 r1 f1 d1=>?_⟩
 refine ⟨G1,ρ1,ds,s1.cs,z,cs',hl _ _ _ e2,r1.sub,r1.cells,by rw [List.append_nil]; exact d1,e2,fun v G2 ρ2 H2 le gh c2 d2=>?_⟩
 obtain ⟨r2,f2⟩:=r1.call hR le gh c2
 exact k v G2 ρ2 H2 r2 (f1.trans f2) d2
theorem Zup {m : Nat} {F : FFO} {E : XK} (hl : ∀ (ds : List D) cs r,F ds cs = some r → ds.length = m) (h : PE X e (tCall (spO X.K R m F) [] E (tL X.K R fl))) : PE X e (tO X.K R (fFnO F fl)):=by
 refine pd_w h fun σ H Q ⟨b,G,ρ,s,r,s',rl,e,k⟩=>?_
 obtain ⟨⟨ds,s1⟩,e1,e⟩:=Ze e
 obtain ⟨⟨z,cs'⟩,e2,e⟩:=Zm e
 cases e
 refine ⟨b,G,ρ,s,ds,s1,rl,e1,fun vs G1 ρ1 H1 r1 f1 d1=>?_⟩
 refine ⟨G1,ρ1,ds,s1.cs,z,cs',hl _ _ _ e2,r1.sub,r1.cells,by rw [List.append_nil]; exact d1,e2,fun a xs G2 ρ2 H2 le gh c2 n1 n2 n3 n4 d2=>?_⟩
 obtain ⟨r2,f2⟩:=r1.call hR le gh c2
 refine k a xs G2 ρ2 H2 r2 (f1.trans f2) ?_ ?_ n2 n3 (fun q=>(r1.ownB (f2.own a q)).2.2.2 n1) n4 d2
 ·cases z : b.H a with
  | none=>rfl
  | some o=>exact absurd n1 (r1.le.there a (ZB z))
 ·cases z : H a with
  | none=>rfl
  | some o=>exact absurd n1 (f1.there a (ZB z))
end
theorem Z1b {m n : Nat} {F : FS} : ∀ (ds : List D) cs r,runF m n F ds cs = some r → ds.length = m:=fun ds cs r e=>by
 unfold runF at e
 split at e
 ·assumption
 ·cases e
theorem ZBn {m n : Nat} {F : FS} : ∀ (ds : List D) cs r,runO m n F ds cs = some r → ds.length = m:=fun ds cs r e=>by
 unfold runO at e
 split at e
 ·assumption
 ·cases e
def fItL (fa : FD) : FO:=fun s=>(fa s).bind fun p=>match p.1 with
 | .lst ds=>some (ds,p.2)
 | _=>none
def fItT (fa : FD) : FO:=fun s=>(fa s).bind fun p=>match p.1 with
 | .tup ds=>some (ds,p.2)
 | _=>none
def rngD (lo hi : Int) : List D:=(List.range (hi - lo).toNat).map fun i=>.int (lo + (i : Nat))
def fRg1 (fl : FO) : FO:=fun s=>(fl s).bind fun p=>match p.1 with
 | [.int j]=>if -(2 ^ 62) ≤ j ∧ j < 2 ^ 62 then some (rngD 0 j,p.2) else none
 | _=>none
def D.seq : D → Option (Bool × List D)
 | .lst ds=>some (false,ds)
 | .tup ds=>some (true,ds)
 | _=>none
section
variable {X : Cx} {R : OR} {e tg : Expr} {fa : FD} {fl : FO}
theorem RD.seq {K : PySem.W.Frag} {G : Hp} {ρ : List Addr} {v : V} {d : D} {q : Bool × List D} (h : RD K R G ρ v d) (e : d.seq = some q) : ∃ a xs,v = .ref a ∧ SqX K q.1 G a xs ∧ RDs K R G ρ xs q.2:=by
 unfold D.seq at e
 split at e
 ·cases e
  cases h with
  | lst h t=>exact ⟨_,_,rfl,SqL.of h,t⟩
 ·cases e
  cases h with
  | tup h t=>exact ⟨_,_,rfl,h,t⟩
 ·cases e
theorem Zhc (h : PI X tg e (iList X.K (tD X.K R fa))) : PI X tg e (iD X.K R (fItL fa)):=by
 refine pi_w h fun σ H Q ⟨b,G,ρ,s,ds,s',rl,e,k⟩=>?_
 obtain ⟨⟨z,s1⟩,e1,e⟩:=Ze e
 dsimp only at e
 split at e
 ·cases e
  refine ⟨b,G,ρ,s,_,_,rl,e1,fun v G1 ρ1 H1 r1 f1 d1=>?_⟩
  cases d1 with
  | @lst a xs _ h1 t1=>
   have wk:=walk_list (K:=X.K) (a:=a) (xs:=xs)
   rw [t1.len] at wk
   refine ⟨_,rfl,⟨_,SqL.of (r1.sub _ _ h1)⟩,k G1 ρ1 H1 _ r1 f1 ⟨_,_,wk,fun H' g=>g.sql (SqL.of h1),fun i x H2 H3 d hd g ⟨e1,e2⟩=>.inl ⟨e1,?_⟩⟩⟩
   obtain ⟨d',q1,q2⟩:=t1.get e2
   rw [hd] at q1
   cases q1
   exact q2
 ·cases e
theorem ZXh (h : PI X tg e (iTup X.K (tD X.K R fa))) : PI X tg e (iD X.K R (fItT fa)):=by
 refine pi_w h fun σ H Q ⟨b,G,ρ,s,ds,s',rl,e,k⟩=>?_
 obtain ⟨⟨z,s1⟩,e1,e⟩:=Ze e
 dsimp only at e
 split at e
 ·cases e
  refine ⟨b,G,ρ,s,_,_,rl,e1,fun v G1 ρ1 H1 r1 f1 d1=>?_⟩
  cases d1 with
  | @tup a xs _ h1 t1=>
   have wk:=walk_tup (K:=X.K) (a:=a) (xs:=xs)
   rw [t1.len] at wk
   refine ⟨_,rfl,⟨_,r1.sub.sqt h1⟩,k G1 ρ1 H1 _ r1 f1 ⟨_,_,wk,fun H' g=>g.sqt h1,fun i x H2 H3 d hd g ⟨e1,e2⟩=>.inl ⟨e1,?_⟩⟩⟩
   obtain ⟨d',q1,q2⟩:=t1.get e2
   rw [hd] at q1
   cases q1
   exact q2
 ·cases e
theorem ZAn {lo hi : Int} {i : Nat} {d : D} (h : (rngD lo hi)[i]? = some d) : d = .int (lo + (i : Nat)):=by
 unfold rngD at h
 rw [List.getElem?_map] at h
 cases q : (List.range (hi - lo).toNat)[i]? with
 | none=>rw [q] at h; cases h
 | some j=>
  rw [q] at h
  cases h
  obtain ⟨hl,hj⟩:=List.getElem?_eq_some_iff.mp q
  rw [List.getElem_range] at hj
  rw [hj]
theorem Zym (h : PI X tg e (iRng1 (tL X.K R fl))) : PI X tg e (iD X.K R (fRg1 fl)):=by
 refine pi_w h fun σ H Q ⟨b,G,ρ,s,ds,s',rl,e,k⟩=>?_
 obtain ⟨⟨z,s1⟩,e1,e⟩:=Ze e
 dsimp only at e
 split at e
 ·split at e
  ·rename_i j hl
   cases e
   refine ⟨b,G,ρ,s,_,_,rl,e1,fun vs G1 ρ1 H1 r1 f1 d1=>?_⟩
   cases d1 with
   | cons h1 t1=>
    cases t1
    cases h1
    have wk:=walk_range (lo:=0) (n:=j.toNat)
    rw [show j.toNat = (rngD 0 j).length by simp [rngD]] at wk
    refine ⟨_,rfl,hl.1,hl.2,?_⟩
    rw [show j.toNat = (rngD 0 j).length by simp [rngD]]
    refine k G1 ρ1 H1 _ r1 f1 ⟨_,_,wk,fun _ _=>trivial,fun i x H2 H3 d hd g ⟨e1,e2⟩=>.inl ⟨e1,?_⟩⟩
    rw [ZAn hd,e2]
    exact .int _
  ·cases e
 ·cases e
end
end PL
end
section
namespace PL
open PySem PySem.Spec PyProof.Rows L2 Ev
def dLen : List D → Option D
 | [.str z]=>if z.length ≤ 100000 then some (.int z.length) else none
 | [.lst ds]=>some (.int ds.length)
 | [.tup ds]=>some (.int ds.length)
 | [.scr ns]=>some (.int ns.length)
 | _=>none
def dInt : List D → Option D
 | [.int i]=>some (.int i)
 | [.bl k]=>some (.int (if k then 1 else 0))
 | [.str z]=>match PySem.intText? z with
  | some n=>if z.length ≤ 640 then some (.int n) else none
  | none=>none
 | _=>none
def dAbs : List D → Option D
 | [.int i]=>some (.int (if i < 0 then -i else i))
 | _=>none
def ZSl : List D → Option D
 | [.int i,.int j]=>some (.int (if j > i then j else i))
 | _=>none
def ZTl : List D → Option D
 | [.int i,.int j]=>some (.int (if j < i then j else i))
 | _=>none
def dStr : List D → Option D
 | [.int i]=>if i.natAbs.log2 < 1920 then some (.str (toString i)) else none
 | _=>none
def dAll : List D → Option D
 | [.lst ds]=>(ZIf D.isBl ds).map fun bs=>.bl (bs.all id)
 | _=>none
section
variable {X : Cx} {R : OR} {e a c o : Expr} {es : List Expr} {fa fb fe f : FD} {fo fl : FO} {pos pos' : Pos} (hR : Znb R)
omit hR
theorem ZKk : CallR X (.builtin "len") (rDL X.K R dLen):=by
 intro pins s σ H xs us Q I r ⟨b,G,ρ,σ',st,ds,z,rl,hd,e,k⟩
 unfold dLen at e
 split at e
 ·split at e
  ·rename_i hl
   cases e
   cases hd with | cons h t=>cases t; cases h; exact call_len_str pins s σ H _ us Q I r ⟨_,rfl,Zyb hl,k.imm rl (.int _)⟩
  ·cases e
 ·cases e
  cases hd with
  | cons h t=>
   cases t
   cases h with
   | lst h1 t1=>exact call_len_seq pins s σ H _ us Q I r ⟨_,_,rfl,.inl (SqL.of (rl.sub _ _ h1)),by rw [t1.len]; exact k.imm rl (.int _)⟩
 ·cases e
  cases hd with
  | cons h t=>
   cases t
   cases h with
   | tup h1 t1=>exact call_len_seq pins s σ H _ us Q I r ⟨_,_,rfl,.inr (rl.sub.sqt h1),by rw [t1.len]; exact k.imm rl (.int _)⟩
 ·cases e
  cases hd with
  | cons h t=>
   cases t
   cases h with
   | scr h1=>exact call_len_seq pins s σ H _ us Q I r ⟨_,_,rfl,.inl (rl.sub.seq h1),by rw [List.length_map]; exact k.imm rl (.int _)⟩
 ·cases e
theorem Z5d : CallR X (.type "int") (rDL X.K R dInt):=by
 intro pins s σ H xs us Q I r ⟨b,G,ρ,σ',st,ds,z,rl,hd,e,k⟩
 unfold dInt at e
 split at e
 ·cases e
  cases hd with | cons h t=>cases t; cases h; exact call_int1 pins s σ H _ us Q I r (.inl ⟨_,rfl,k.imm rl (.int _)⟩)
 ·cases e
  cases hd with | cons h t=>cases t; cases h; exact call_int1 pins s σ H _ us Q I r (.inr ⟨_,rfl,k.imm rl (.int _)⟩)
 ·split at e
  ·split at e
   ·rename_i hn hl
    cases e
    cases hd with | cons h t=>cases t; cases h; exact call_int_str pins s σ H _ us Q I r ⟨_,_,rfl,hn,hl,k.imm rl (.int _)⟩
   ·cases e
  ·cases e
 ·cases e
theorem ZQn : CallR X (.builtin "abs") (rDL X.K R dAbs):=by
 intro pins s σ H xs us Q I r ⟨b,G,ρ,σ',st,ds,z,rl,hd,e,k⟩
 unfold dAbs at e
 split at e
 ·cases e
  cases hd with | cons h t=>cases t; cases h; exact call_abs pins s σ H _ us Q I r ⟨_,rfl,k.imm rl (.int _)⟩
 ·cases e
theorem Z7n (hc : X.calm = true) : CallR X (.builtin "max") (rDL X.K R ZSl):=by
 intro pins s σ H xs us Q I r ⟨b,G,ρ,σ',st,ds,z,rl,hd,e,k⟩
 unfold ZSl at e
 split at e
 ·cases e
  cases hd with | cons h t=>cases t with | cons h2 t=>cases t; cases h; cases h2; exact call_max2 hc pins s σ H _ us Q I r ⟨_,_,rfl,k.imm rl (.int _)⟩
 ·cases e
theorem Z8n (hc : X.calm = true) : CallR X (.builtin "min") (rDL X.K R ZTl):=by
 intro pins s σ H xs us Q I r ⟨b,G,ρ,σ',st,ds,z,rl,hd,e,k⟩
 unfold ZTl at e
 split at e
 ·cases e
  cases hd with | cons h t=>cases t with | cons h2 t=>cases t; cases h; cases h2; exact call_min2 hc pins s σ H _ us Q I r ⟨_,_,rfl,k.imm rl (.int _)⟩
 ·cases e
theorem ZOl : CallR X (.type "str") (rDL X.K R dStr):=by
 intro pins s σ H xs us Q I r ⟨b,G,ρ,σ',st,ds,z,rl,hd,e,k⟩
 unfold dStr at e
 split at e
 ·split at e
  ·rename_i hl
   cases e
   cases hd with | cons h t=>cases t; cases h; exact call_str_int pins s σ H _ us Q I r ⟨_,rfl,hl,k.imm rl (.str _)⟩
  ·cases e
 ·cases e
theorem Z6o (hc : X.calm = true) : CallR X (.builtin "all") (rDL X.K R dAll):=by
 intro pins s σ H xs us Q I r ⟨b,G,ρ,σ',st,ds,z,rl,hd,e,k⟩
 unfold dAll at e
 split at e
 ·obtain ⟨bs,e1,e⟩:=Zm e
  cases e
  have e1:=ZJk e1
  subst e1
  cases hd with
  | cons h t=>
   cases t
   cases h with
   | lst h1 t1=>
    have:=t1.allBl
    subst this
    exact cr_all hc pins s σ H _ us Q I r ⟨_,_,rfl,SqL.of (rl.sub _ _ h1),k.imm rl (.bl _)⟩
 ·cases e
def fLrg (fa : FD) : FO:=fun s=>(fa s).bind fun p=>match p.1 with
 | .int j=>if 0 ≤ j ∧ j ≤ 100000 then some (rngD 0 j,p.2) else none
 | _=>none
theorem Z4p {K : PySem.W.Frag} {G : Hp} {ρ : List Addr} (j : Int) : RDs K R G ρ (rgV 0 j) (rngD 0 j):=by
 unfold rgV rngD
 generalize List.range (j - 0).toNat = l
 induction l with
 | nil=>exact .nil
 | cons a r ih=>exact .cons (.int _) ih
include hR in
theorem Zwp {p p' pos2 : Pos} (hc : X.calm = true) (hg : Gl X "list") (hm : X.mg "list" = none) (hg2 : Gl X "range") (hm2 : X.mg "range" = none) (h : PE X a (tD X.K R fa))
  (na : starEach [a] X.env = (false,eval a X.env) :: starEach [] X.env:=by rfl) (na2 : starEach [.Call (.Name "range" p') [a] [] pos2] X.env = (false,eval (.Call (.Name "range" p') [a] [] pos2) X.env) :: starEach [] X.env:=by rfl) :
  PE X (.Call (.Name "list" p) [.Call (.Name "range" p') [a] [] pos2] [] pos) (tO X.K R (fLrg fa)):=by
 refine pd_w (pe_listRg hc hg hm (prg_1 hg2 hm2 h na) na2) fun σ H Q ⟨b,G,ρ,s,r,s',rl,e,k⟩=>?_
 obtain ⟨⟨z,s1⟩,e1,e⟩:=Ze e
 dsimp only at e
 split at e
 ·split at e
  ·rename_i j hj
   cases e
   refine ⟨b,G,ρ,s,_,_,rl,e1,fun v G1 ρ1 H1 r1 f1 d1=>?_⟩
   cases d1
   refine ⟨_,rfl,RgOk.of_le (by omega) (by omega) (by omega) (by omega),fun q hq=>?_⟩
   exact KO.new hR (K:=X.K) (σ:=σ) (s:=_) (b:=b) (G:=G1) (ρ:=ρ1) (fun u xs G3 ρ3 H3 r3 f3 n0 n1 n2 n3 n4 n5 d3=>k u xs G3 ρ3 H3 r3 (f1.trans f3) n0 (by
    cases q : H u with
    | none=>rfl
    | some o=>exact absurd n1 (f1.there u (ZB q))) n2 n3 n4 n5 d3) r1 hq (Z4p j)
  ·cases e
 ·cases e
def Zck : D → D → Option D
 | .str z,.lst ds=>(ZIf D.isStr ds).bind fun ys=>if (ys.map (·.length)).sum + ys.length * z.length ≤ 100000 then some (.str (Txt.join z ys)) else none
 | .str z,.tup ds=>(ZIf D.isStr ds).bind fun ys=>if (ys.map (·.length)).sum + ys.length * z.length ≤ 100000 then some (.str (Txt.join z ys)) else none
 | _,_=>none
include hR in
theorem ZAo {apos : Pos} (ho : PE X o (tD X.K R fa)) (he : PE X e (tD X.K R fb)) (hs : starEach [e] X.env = [(false,eval e X.env)]:=by rfl) (hbase : attributeBase o "join" X.env (eval o X.env) = eval o X.env:=by rfl) (hline : (apos.endLine == pos.line) = true:=by rfl) :
  PE X (.Call (.Attribute o "join" apos) [e] [] pos) (tD X.K R (fBin Zck fa fb)):=by
 refine pd_w (pe_join ho he hs hbase hline) fun σ H Q ⟨b,G,ρ,s,r,s',rl,e,k⟩=>?_
 obtain ⟨⟨x,s1⟩,e1,e⟩:=Ze e
 obtain ⟨⟨y,s2⟩,e2,e⟩:=Ze e
 obtain ⟨z,e3,e⟩:=Zm e
 cases e
 dsimp only at e3
 unfold Zck at e3
 split at e3
 ·obtain ⟨ys,e4,e5⟩:=Ze e3
  clear e3
  have e4:=Zyd e4
  subst e4
  split at e5
  ·rename_i hl
   cases e5
   refine ⟨b,G,ρ,s,_,s1,rl,e1,fun v G1 ρ1 H1 r1 f1 d1=>?_⟩
   cases d1
   refine ⟨⟨_,rfl⟩,b,G1,ρ1,s1,_,s2,r1,e2,fun w G2 ρ2 H2 r2 f2 d2=>?_⟩
   cases d2 with
   | lst h1 t1=>
    have:=t1.allStr
    subst this
    exact ⟨_,_,ys,rfl,rfl,.inl (SqL.of (r2.sub _ _ h1)),by omega,k _ G2 ρ2 H2 r2 (f1.trans f2) (.str _)⟩
  ·cases e5
 ·obtain ⟨ys,e4,e5⟩:=Ze e3
  clear e3
  have e4:=Zyd e4
  subst e4
  split at e5
  ·rename_i hl
   cases e5
   refine ⟨b,G,ρ,s,_,s1,rl,e1,fun v G1 ρ1 H1 r1 f1 d1=>?_⟩
   cases d1
   refine ⟨⟨_,rfl⟩,b,G1,ρ1,s1,_,s2,r1,e2,fun w G2 ρ2 H2 r2 f2 d2=>?_⟩
   cases d2 with
   | tup h1 t1=>
    have:=t1.allStr
    subst this
    exact ⟨_,_,ys,rfl,rfl,.inr (r2.sub.sqt h1),by omega,k _ G2 ρ2 H2 r2 (f1.trans f2) (.str _)⟩
  ·cases e5
 ·cases e3
end
end PL
end
section
namespace PL
open PySem PySem.Spec PyProof.Rows L2 Ev
mutual
def D.noC : D → Bool
 | .cell _=>false
 | .tup ds=>noCs ds
 | .lst ds=>noCs ds
 | .dic _ ds=>noCs ds
 | .obj _ ds=>noCs ds
 | .err _ d=>d.noC
 | _=>true
def noCs : List D → Bool
 | []=>true
 | d :: r=>d.noC && noCs r
end
def Z0d (g : List D → Option D) : FF:=fun ds cs=>(g ds).map fun r=>(r,cs)
def ZEf (F : FF) : List D → Option D:=fun ds=>if noCs ds = true then (F ds []).bind fun p=>if p.1.noC = true then some p.1 else none else none
section
variable {K : PySem.W.Frag} {R : OR} {G : Hp} {ρ ρ' : List Addr}
mutual
theorem RD.noC : ∀ {v : V} {d : D},RD K R G ρ v d → d.noC = true → RD K R G ρ' v d
 | _,_,.non,_=>.non
 | _,_,.bl b,_=>.bl b
 | _,_,.int i,_=>.int i
 | _,_,.str x,_=>.str x
 | _,_,.tup h t,e=>.tup h (RDs.noC t e)
 | _,_,.lst h t,e=>.lst h (RDs.noC t e)
 | _,_,.dic h l t,e=>.dic h l (RDs.noC t e)
 | _,_,.brd h,_=>.brd h
 | _,_,.cell _,e=>by cases e
 | _,_,.scr h,_=>.scr h
 | _,_,.obj h1 h2 h3 t,e=>.obj h1 h2 h3 (RDs.noC t e)
 | _,_,.err h1 h2 t,e=>.err h1 h2 (RD.noC t e)
theorem RDs.noC : ∀ {vs : List V} {ds : List D},RDs K R G ρ vs ds → noCs ds = true → RDs K R G ρ' vs ds
 | _,_,.nil,_=>.nil
 | _,_,.cons (d:=d) (ds:=ds) h t,e=>by
  have e : (d.noC && noCs ds) = true:=e
  rw [Bool.and_eq_true] at e
  exact .cons (RD.noC h e.1) (RDs.noC t e.2)
end
theorem ZXi {m : Nat} {F : FF} (hl : ∀ (ds : List D) cs r,F ds cs = some r → ds.length = m) (hR : Znb R) : ∀ vs H Q E,spD K R m (Z0d (ZEf F)) vs H Q E → spD K R m F vs H Q E:=by
 rintro vs H Q E ⟨G,ρ,ds,cs,r,cs',h0,h1,h2,h3,e,k⟩
 obtain ⟨r',e1,e⟩:=Zm e
 cases e
 unfold ZEf at e1
 split at e1
 ·rename_i hn
  obtain ⟨⟨z,cs2⟩,e2,e1⟩:=Ze e1
  dsimp only at e1
  split at e1
  ·rename_i hz
   cases e1
   refine ⟨G,[],ds,[],_,cs2,h0,h1,⟨h2.tups,by simp,rfl,fun a ha=>by simp at ha,fun i a es q=>by simp at q,fun i a c es q=>by simp at q,h2.tab,(fun i a ks us q=>by simp at q),fun i a ks us q=>by simp at q⟩,h3.noC hn,e2,fun v G' ρ' H' le gh c2 d2=>?_⟩
   have kp : ∀ a o,H a = some o → G a = none → notT o → H' a = some o:=fun a o h g nt=>le.keep a o h (by simp) g nt
   have gN : ∀ a,H a ≠ none → G a = none → G' a = none:=fun a q1 q2=>by
    cases q : G' a with
    | none=>rfl
    | some o=>
     rcases le.gnew a (ZB q) with z | z | z
     ·exact absurd q2 z
     ·exact absurd z q1
     ·cases z
   refine k v G' ρ H' ⟨le.gg,fun a o h _ g nt=>kp a o h g nt,le.there,(fun a q=>(by rcases le.gnew a q with z | z | z; exact .inl z; exact .inr (.inl z); cases z)),[],by simp,fun _ h=>by cases h⟩ gh (h2.go hR le.gg c2.tups (fun a ha=>?_) c2.tab) (d2.noC hz)
   have w1:=h2.some ha
   obtain ⟨o,eo⟩:=ZSe w1
   exact ⟨le.there a w1,fun q nt=>⟨by rw [eo]; exact kp a o eo q (fun ps z=>nt ps (by rw [eo,z])),gN a w1 q⟩⟩
  ·cases e1
 ·cases e1
theorem Zvh {m : Nat} {F : FF} (hl : ∀ (ds : List D) cs r,F ds cs = some r → ds.length = m) : ∀ (ds : List D) cs r,Z0d (ZEf F) ds cs = some r → ds.length = m:=fun ds cs r e=>by
 obtain ⟨r',e1,e⟩:=Zm e
 unfold ZEf at e1
 split at e1
 ·obtain ⟨⟨z,cs2⟩,e2,e1⟩:=Ze e1
  exact hl _ _ _ e2
 ·cases e1
end
def Zdg (G H H' : Hp) : Hp:=fun a=>match H a with
 | none=>H' a
 | some _=>G a
section
variable {K : PySem.W.Frag} {R : OR} {G H H' : Hp} {ρ : List Addr} {cs : List (List D)}
theorem ZXe {a : Addr} (h : H a = none) : Zdg G H H' a = H' a:=by unfold Zdg; rw [h]
theorem ZLc {a : Addr} (h : H a ≠ none) : Zdg G H H' a = G a:=by
 obtain ⟨o,e⟩:=ZSe h
 unfold Zdg; rw [e]
theorem Zqj (hR : Znb R) (gh : Same G H) (c : Cells K R G ρ H cs) (hh : Same H H') :
  Le G H ρ (Zdg G H H') H' ρ ∧ Same (Zdg G H H') H' ∧ Cells K R (Zdg G H H') ρ H' cs:=by
 have gg : Same G (Zdg G H H'):=fun a o e=>by rw [ZLc (ZB (gh a o e))]; exact e
 have s2 : Same (Zdg G H H') H':=fun a o e=>by
  by_cases h : H a = none
  ·rw [ZXe h] at e; exact e
  ·rw [ZLc h] at e; exact hh a o (gh a o e)
 refine ⟨⟨gg.r,fun a o h _ _ _=>hh a o h,fun a h=>by obtain ⟨o,e⟩:=ZSe h; exact ZB (hh a o e),fun a h=>?_,[],by simp,fun _ h=>by cases h⟩,s2,c.go hR gg.r (fun a o e t=>?_) (fun a ha=>?_) (c.tabs_go gg.r fun P ps z g=>⟨hh P _ z,by rw [ZLc (ZB z)]; exact g⟩)⟩
 ·by_cases q : H a = none
  ·exact .inr (.inl q)
  ·rw [ZLc q] at h; exact .inl h
 ·by_cases q : H a = none
  ·rw [ZXe q]; exact e
  ·rw [ZLc q]
   obtain ⟨u,eu⟩:=ZSe q
   have:=hh a u eu
   rw [e] at this
   cases this
   exact c.tups a o eu t
 ·have w1:=c.some ha
  obtain ⟨o,eo⟩:=ZSe w1
  exact ⟨ZB (hh a o eo),fun q _=>⟨by rw [eo]; exact hh a o eo,by rw [ZLc w1]; exact q⟩⟩
theorem ZNn (t : Tups G H) {a : Addr} {xs : List V} (h : SqT K H a xs) : SqT K G a xs:=by
 rcases h with (h | ⟨o,h⟩) | h
 ·exact .inl (.inl (t a _ h rfl))
 ·exact .inl (.inr ⟨o,t a _ h rfl⟩)
 ·exact .inr h
end
mutual
def ofPy : PyData → D
 | .none=>.non
 | .bool b=>.bl b
 | .int i=>.int i
 | .str x=>.str x
 | .tuple ds=>.tup (ofPys ds)
 | .list ds=>.lst (ofPys ds)
 | .dict _=>.non
def ofPys : List PyData → List D
 | []=>[]
 | d :: r=>ofPy d :: ofPys r
end
section
variable {K : PySem.W.Frag} {R : OR} {G H : Hp} {ρ : List Addr}
mutual
theorem Dp.rd (t : Tups G H) : ∀ {v : V} {d : PyData},Dp K H v d → noL d = true → RD K R G ρ v (ofPy d)
 | _,_,.non,_=>.non
 | _,_,.bl b,_=>.bl b
 | _,_,.int i,_=>.int i
 | _,_,.str x,_=>.str x
 | _,_,.lst h r,e=>by cases e
 | _,_,.tup h r,e=>.tup (ZNn t h) (DpAll.rd t r e)
theorem DpAll.rd (t : Tups G H) : ∀ {vs : List V} {ds : List PyData},DpAll K H vs ds → noLs ds = true → RDs K R G ρ vs (ofPys ds)
 | _,_,.nil,_=>.nil
 | _,_,.cons (d:=d) (ds:=ds) h r,e=>by
  have e : (noL d && noLs ds) = true:=e
  rw [Bool.and_eq_true] at e
  exact .cons (Dp.rd t h e.1) (DpAll.rd t r e.2)
end
end
section
variable {X : Cx} {R : OR} {e : Expr} {fl : FO} {f : Addr} {pos : Pos} (hR : Znb R)
include hR
omit hR in
theorem pdv (hR : Znb R) (i : Nat) {x : Str} (hN : X.N[i]? = some x:=by rfl) (hv : Vis X.env.scope x:=by first | exact Or.inl rfl | exact Or.inr (Or.inl rfl) | exact Or.inr (Or.inr rfl)) (hd : (x == ("__debug__" : Str)) = false:=by decide)
  (hcd : (x == ("__classdict__" : Str)) = false:=by decide) : PE X (.Name x pos) (tD X.K R (fVar i)):=Zzp hR hN hv hd hcd
end
end PL
end
section
namespace PL
open PySem PySem.Spec PyProof.Rows L2 Ev
section
variable {K : PySem.W.Frag} {R : OR} {b : Bs} {G H : Hp} {ρ : List Addr} {σ : L2.St} {s : S}
theorem RDs.setD {v : V} {d : D} : ∀ {vs : List V} {ds : List D} {i : Nat},RDs K R G ρ vs ds → vs[i]? = some v → RD K R G ρ v d → RDs K R G ρ vs (ds.set i d)
 | _,_,_,.nil,e,_=>by simp at e
 | _,_,0,.cons h t,e,q=>by simp at e; subst e; exact .cons q t
 | _,_,i + 1,.cons h t,e,q=>.cons h (RDs.setD (i:=i) t (by simpa using e) q)
end
end PL
end
section
namespace PL
open PySem PySem.Spec PyProof.Rows L2 Ev
def D.key : D → Option Key
 | .int i=>some (.inl i)
 | .str x=>some (.inr x)
 | _=>none
end PL
end
section
namespace PL
open PySem PySem.Spec PyProof.Rows L2 Ev
structure FnG (P : Program) (w : World) (K : PySem.W.Frag) (mg : Str → Option Value) (base : Heap) (k : Nat) (f : Addr) (fd : FuncData) (ps : List Str) (sp : Sp) : Prop where
 count : ∀ vs H Q E,sp vs H Q E → vs.length = ps.length
 does : ∀ (A : Around) (outer : List PySem.Env) (s : Shared) (H : Hp) (args : Args) (us : List Value) (vs : List V) (Q : VK) (E : XK),
  A.guards = some [] → Room k A → Env0 P w K mg base A outer s H → BindsTo s fd args (ps.zip us) → Vals vs us → sp vs H Q E →
  codeAny (model P w) A (.call (.ref f) args) (CR CX0 outer P w H s Q E) s
section
variable {P : Program} {w : World} {K : PySem.W.Frag} {mg : Str → Option Value} {base : Heap} {k : Nat} {f : Addr} {fd : FuncData} {ps : List Str} {sp sp' : Sp}
theorem FnG.of (F : FnOk P w K mg base CX0 k f fd ps sp) : FnG P w K mg base k f fd ps sp:=
 ⟨F.len,fun A outer s H args us vs Q E _=>F.run A outer s H args us vs Q E⟩
theorem FnG.weak (F : FnG P w K mg base k f fd ps sp) (h : ∀ vs H Q E,sp' vs H Q E → sp vs H Q E) : FnG P w K mg base k f fd ps sp':=
 ⟨fun vs H Q E q=>F.count vs H Q E (h _ _ _ _ q),fun A outer s H args us vs Q E g r e b v q=>F.does A outer s H args us vs Q E g r e b v (h _ _ _ _ q)⟩
theorem Zmo {x qual : Str} {st : Stmt} {N : List Str} (T : Fun K x qual st f fd) (Sc : FnScope N ps (defScope st)) (hc : ∀ vs H Q E,sp vs H Q E → vs.length = ps.length)
  (hbody : ∀ (cdv : Value) (A : Around) (outer : List PySem.Env) (s : Shared) (H : Hp) (vs : List V) (Q : VK) (E : XK),A.guards = some [] → Room k (A.deeper (envOfC qual (defScope st) s.heap.objs.size f cdv)) → sp vs H Q E →
   ∃ t,PSs (cxOf CX0 P w K mg base N qual (defScope st) f cdv A outer s H E).nox (defBody st) t ∧ t { nx:=fun _ H'=>Q .non H',rt:=Q } (start N vs) H) : FnG P w K mg base (k + 1) f fd ps sp:=by
 obtain ⟨oc,od,kV,doc,pm,an,cdv,ct,osl,rfl,lk,hcd⟩:=T.ex
 refine ⟨hc,fun A outer s H args us vs Q E hg room en bind rel want=>?_⟩
 have inK : K.In s.heap:=en.mod.kin.keeps fun b o e=>(en.bs b o e).1
 have noLim : s.heap.NoLimit:=en.mod.nolimit.keeps fun b o e=>(en.bs b o e).1
 have kinds : ∀ y ∈ ps.zip us,(defScope st).names.lookup y.1 = some .local ∨ ((defScope st).names.lookup y.1 = some .cell ∧ ((cellsFrom (s.heap.objs.size + 1) (defScope st).names []).lookup y.1).isSome = true):=by
  rintro ⟨n,v⟩ hy
  exact (Sc.par n (List.of_mem_zip hy).1).imp id fun q=>⟨q,PySem.W.cellsFrom_some _ _ _ (.inl q)⟩
 apply codeAny_call_function room.depth (inK _ _ lk) rfl Sc.co Sc.gen rfl (PySem.W.codeRec_of inK hcd)
 apply bind
 apply wpAny_newFunctionEnv_cells Sc.kind kinds
 rintro env rfl s1 born
 refine ⟨noLim.keeps born.toInCall.keep,codeAny_func ?_⟩
 obtain ⟨t,runs,ends⟩:=hbody cdv A outer s H vs Q E hg (room.deeper _) want
 have begin_:=inv_start (CX:=CX0) (E:=E) (N:=N) (qual:=qual) (f:=f) (cd:=cdv) Sc room.hd en (hc _ _ _ _ want) rel born
 refine wpAny_mono (runs.nox.run [] s1 (start N vs) H _ begin_ ends) (fun fl s' after=>?_) fun e s' bad=>bad
 match fl,after with
 | .ret u,⟨v,σ',H',J,rv,q⟩=>exact ⟨v,H',J.os,J.bare,J.base,J.hok,rv,q⟩
 | .next,⟨σ',H',J,q⟩=>exact ⟨.non,H',J.os,J.bare,J.base,J.hok,rfl,q⟩
 | .brk,⟨_,_,_,q⟩=>exact q.elim
 | .cont,⟨_,_,_,q⟩=>exact q.elim
end
section
variable {X : Cx} {k : Nat} {f : Addr} {fd : FuncData} {ps : List Str} {sp : Sp} {x : Str} {p pos : Pos} {e : Expr} {es : List Expr} {t : TA}
theorem ZWp {pins : List (Addr × Obj)} {σ : L2.St} {H : Hp} {s : Shared} {Q : VK} {us : List Value} {vs : List V} (F : FnG X.prog X.w X.K X.mg X.base k f fd ps sp) (hg : X.A.guards = some []) (room : Room k X.A) (hb : Binds X.K fd ps [])
  (I : Inv X pins σ H s) (rel : Vals vs us) (want : sp vs H Q E0) : wpAny (model X.prog X.w) X.A (call (.ref f) us) (EP X pins σ Q) X.xe s:=by
 have same : (us ++ []).length = ps.length:=by rw [List.append_nil,← rel.length]; exact F.count _ _ _ _ want
 have bound:=hb s us I.kIn same
 rw [List.append_nil] at bound
 apply wpAny_call
 refine codeAny_mono (F.does X.A X.stack s H ⟨us,[]⟩ us vs Q E0 hg room I.env0 bound rel want) fun r s' got=>?_
 match r,got with
 | .error _,bad=>exact bad.elim
 | .ok (.ret u),ok=>exact I.after ok
 | .ok .next,bad=>exact bad.elim
 | .ok .brk,bad=>exact bad.elim
 | .ok .cont,bad=>exact bad.elim
theorem Zun (F : FnG X.prog X.w X.K X.mg X.base k f fd ps sp) (hg : X.A.guards = some []) (room : Room k X.A) (gl : Gl X x) (hm : X.mg x = some (.ref f)) (hk : PySem.W.keepIn X.K (.ref f) = true) (hb : Binds X.K fd ps [])
  (ha : PA X (e :: es) t) (hdb : (x == ("__debug__" : Str)) = false:=by decide) (he : starEach (e :: es) X.env = (false,eval e X.env) :: starEach es X.env:=by rfl) (hpl : (backTo pos (starEach es X.env)).any (·.1) = false:=by rfl) :
  PE X (.Call (.Name x p) (e :: es) [] pos) (tCall sp [] E0 t):=
 ⟨fun pins s σ H Q I h=>wpAny_Call_Name_kw (ld_glob I gl hm (PySem.W.callWith_K (h₀:=X.base) I.ok.mod.kin hk (thn (ha.run pos pins s σ H _ I h) fun us s1 ⟨vs,H1,I1,r,q⟩=>⟨I1.kIn,ZWp F hg room hb I1 r (by rw [← List.append_nil vs]; exact q)⟩) he hpl) hdb)⟩
end
end PL
end
section
namespace PL
open PySem PySem.Spec PyProof.Rows L2 Ev
def Z0n (q : PyData) : Bool:=q.showable && !q.hasDict && decide (q.depth ≤ 50) && decide (q.shown.length ≤ sizeLine)
end PL
end
section
namespace PL
open PySem PySem.Spec PyProof.Rows L2 Ev
def putD (kvs : List (Key × D)) (k : Key) (v : D) : List (Key × D):=
 if (kvs.any fun kv=>decide (kv.1 = k)) = true then kvs.map (fun kv=>if kv.1 = k then (kv.1,v) else kv) else kvs ++ [(k,v)]
section
variable {X : Cx} {R : OR} (hR : Znb R)
include hR
omit hR
def KvR (K : PySem.W.Frag) (R : OR) (G : Hp) (ρ : List Addr) (p : Key × V) (q : Key × D) : Prop:=p.1 = q.1 ∧ RD K R G ρ p.2 q.2
theorem KvR.upd {K : PySem.W.Frag} {G : Hp} {ρ : List Addr} {k : Key} {v : V} {d : D} (h : RD K R G ρ v d) : ∀ {ps : List (Key × V)} {qs : List (Key × D)},Paired (KvR K R G ρ) ps qs →
  Paired (KvR K R G ρ) (ps.map fun kv=>if kv.1 = k then (kv.1,v) else kv) (qs.map fun kv=>if kv.1 = k then (kv.1,d) else kv)
 | _,_,.nil=>.nil
 | _,_,.cons (a:=p) (b:=q) a r=>by
  refine .cons ?_ (KvR.upd h r)
  show KvR K R G ρ (if p.1 = k then (p.1,v) else p) (if q.1 = k then (q.1,d) else q)
  rw [a.1]
  by_cases z : q.1 = k
  ·rw [if_pos z,if_pos z]; exact ⟨rfl,h⟩
  ·rw [if_neg z,if_neg z]; exact a
theorem KvR.put {K : PySem.W.Frag} {G : Hp} {ρ : List Addr} {k : Key} {v : V} {d : D} (h : RD K R G ρ v d) {ps : List (Key × V)} {qs : List (Key × D)} (r : Paired (KvR K R G ρ) ps qs) : Paired (KvR K R G ρ) (putK ps k v) (putD qs k d):=by
 have e : (ps.any fun kv=>decide (kv.1 = k)) = (qs.any fun kv=>decide (kv.1 = k)):=by
  clear h
  induction r with
  | nil=>rfl
  | cons a _ ih=>simp only [List.any_cons]; rw [a.1,ih]
 unfold putK putD
 rw [e]
 split
 ·exact KvR.upd h r
 ·exact r.snoc ⟨rfl,h⟩
theorem KvR.dic {K : PySem.W.Frag} {G : Hp} {ρ : List Addr} : ∀ {ps : List (Key × V)} {qs : List (Key × D)},Paired (KvR K R G ρ) ps qs → (qs.map (·.1)).zip (ps.map (·.2)) = ps ∧ (qs.map (·.1)).length = (ps.map (·.2)).length ∧ RDs K R G ρ (ps.map (·.2)) (qs.map (·.2))
 | _,_,.nil=>⟨rfl,rfl,.nil⟩
 | _,_,.cons (a:=p) (b:=q) a t=>by
  obtain ⟨e1,e2,e3⟩:=KvR.dic t
  refine ⟨?_,congrArg (· + 1) e2,.cons a.2 e3⟩
  simp only [List.map_cons,List.zip_cons_cons]
  rw [e1,← a.1]
end
end PL
end
section
namespace PL
open PySem PySem.Spec PyProof.Rows L2 Ev
section
variable {P : Program} {w : World} {K : PySem.W.Frag} {mg : Str → Option Value} {base : Heap} {R : OR}
theorem Zap {x qual : Str} {st : Stmt} {f : Addr} {fd : FuncData} {N ps : List Str} {k m n : Nat} {F : FS} (T : Fun K x qual st f fd) (Sc : FnScope N ps (defScope st)) (hm : ps.length = m) (hn : N.length = n)
  (hbody : ∀ (cdv : Value) (A : Around) (outer : List PySem.Env) (s : Shared) (H : Hp) (E : XK),A.guards = some [] → Room k (A.deeper (envOfC qual (defScope st) s.heap.objs.size f cdv)) → PSs (cxOf CX0 P w K mg base N qual (defScope st) f cdv A outer s H E).nox (defBody st) (sS K R F)) :
  FnG P w K mg base (k + 1) f fd ps (spD K R m (runF m n F)):=by
 subst hm hn
 refine Zmo T Sc (fun vs H Q E ⟨G,ρ,ds,cs,r,cs',h1,_,_,h2,_⟩=>by rw [h2.len,h1]) fun cdv A outer s H vs Q E hg hr ⟨G,ρ,ds,cs,r,cs',h0,h1,h2,h3,e,k⟩=>⟨_,hbody cdv A outer s H E hg hr,?_⟩
 unfold runF at e
 rw [if_pos h0] at e
 obtain ⟨o,e1,e⟩:=Ze e
 refine ⟨⟨G,H,ρ⟩,G,ρ,_,o,ZAg h1 h2 h3,e1,?_⟩
 cases o with
 | rt z s1=>cases e; exact fun v σ' G' ρ' H' r1 d1=>k v G' ρ' H' r1.le r1.sub r1.cells d1
 | nx s1=>cases e; exact fun σ' G' ρ' H' r1 _ _=>k .non G' ρ' H' r1.le r1.sub r1.cells .non
 | bk s1=>cases e
 | ct s1=>cases e
 | ro z s1=>cases e
end
end PL
end
section
namespace PL
open PySem PySem.Spec PyProof.Rows L2 Ev
structure ShowD (c e : Nat) (d : PyData) : Prop where
 lay : d.canLay0 = true
 leaf : d.leavesShort 13 = true
 bulk : d.bulk ≤ c
 sh : d.showable = true
 dep : d.depth ≤ e
theorem ShowD.int {n : Nat} (h : n < 10 ^ 12) {c e : Nat} (he : 1 ≤ e) : ShowD c e (.int (n : Int)):=by
 refine ⟨rfl,?_,Nat.zero_le _,?_,Nat.le_trans (Nat.le_of_ble_eq_true rfl) he⟩
 ·have e : (PyData.shown (.int (n : Int))).length ≤ 12:=toString_length_le (v:=(n : Int)) (k:=12) (by omega) (by decide) (by omega)
  show decide ((PyData.shown (.int (n : Int))).length ≤ 13) = true
  exact decide_eq_true (by omega)
 ·simp only [PyData.showable,decide_eq_true_eq]
  have : ((n : Int).natAbs).log2 < 200:=PySem.Flt.log2_lt_of (by decide) (Nat.lt_of_lt_of_le (m:=10 ^ 12) (show ((n : Int).natAbs) < 10 ^ 12 by omega) (by decide))
  omega
theorem ShowD.str {w : Str} {c e : Nat} (h : ∀ x ∈ w.cps.toList,x < 0x110000) (hc : w.length ≤ c) (he : 1 ≤ e) : ShowD c e (.str w):=by
 refine ⟨?_,?_,hc,rfl,Nat.le_trans (Nat.le_of_ble_eq_true rfl) he⟩
 ·show (w.cps.all fun c=>decide (c < 0x110000)) = true
  rw [Array.all_eq_true']
  intro x hx
  exact decide_eq_true (h x (Array.mem_toList_iff.mpr hx))
 ·show (w.cps.toList.all fun c=>decide (c < 16 ^ 8)) = true
  rw [List.all_eq_true]
  intro x hx
  have:=h x hx
  exact decide_eq_true (Nat.lt_trans this (by decide))
theorem ShowD.bool (b : Bool) {c e : Nat} (he : 1 ≤ e) : ShowD c e (.bool b):=⟨rfl,rfl,Nat.zero_le _,rfl,Nat.le_trans (Nat.le_of_ble_eq_true rfl) he⟩
theorem ShowD.non {c e : Nat} (he : 1 ≤ e) : ShowD c e .none:=⟨rfl,rfl,Nat.zero_le _,rfl,Nat.le_trans (Nat.le_of_ble_eq_true rfl) he⟩
theorem ShowD.all {c e : Nat} : ∀ {ds : List PyData},(∀ d ∈ ds,ShowD c e d) → PyData.canLayAll0 ds = true ∧ PyData.leavesShortAll 13 ds = true ∧ PyData.bulkAll ds ≤ (c + 1) * ds.length ∧ PyData.showableAll ds = true ∧ PyData.depthAll ds ≤ e
 | [],_=>⟨rfl,rfl,Nat.le_refl _,rfl,Nat.zero_le _⟩
 | d :: r,h=>by
  obtain ⟨h1,h2,h3,h4,h5⟩:=ShowD.all fun x hx=>h x (List.mem_cons_of_mem _ hx)
  obtain ⟨a1,a2,a3,a4,a5⟩:=h d List.mem_cons_self
  refine ⟨?_,?_,?_,?_,Nat.max_le.2 ⟨a5,h5⟩⟩
  ·show (PyData.canLay0 d && PyData.canLayAll0 r) = true
   rw [a1,h1]; rfl
  ·show (PyData.leavesShort 13 d && PyData.leavesShortAll 13 r) = true
   rw [a2,h2]; rfl
  ·show PyData.bulk d + 1 + PyData.bulkAll r ≤ _
   rw [List.length_cons,Nat.mul_succ]
   omega
  ·show (PyData.showable d && PyData.showableAll r) = true
   rw [a4,h4]; rfl
theorem ShowD.tup {c e n : Nat} {ds : List PyData} (h : ∀ d ∈ ds,ShowD c e d) (hl : ds.length ≤ n) : ShowD ((c + 1) * n) (e + 1) (.tuple ds):=by
 obtain ⟨h1,h2,h3,h4,h5⟩:=ShowD.all h
 exact ⟨h1,h2,Nat.le_trans h3 (Nat.mul_le_mul (Nat.le_refl _) hl),h4,Nat.succ_le_succ h5⟩
theorem ShowD.list {c e n : Nat} {ds : List PyData} (h : ∀ d ∈ ds,ShowD c e d) (hl : ds.length ≤ n) : ShowD ((c + 1) * n) (e + 1) (.list ds):=by
 obtain ⟨h1,h2,h3,h4,h5⟩:=ShowD.all h
 exact ⟨h1,h2,Nat.le_trans h3 (Nat.mul_le_mul (Nat.le_refl _) hl),h4,Nat.succ_le_succ h5⟩
theorem ShowD.more {c c' e e' : Nat} {d : PyData} (h : ShowD c e d) (hc : c ≤ c') (he : e ≤ e') : ShowD c' e' d:=⟨h.lay,h.leaf,Nat.le_trans h.bulk hc,h.sh,Nat.le_trans h.dep he⟩
theorem ShowD.shaped {c e : Nat} {d : PyData} (h : ShowD c e d) (he : e ≤ 64) : SeqAt.shaped d = true:=by
 show (d.canLay0 && decide (d.depth ≤ 64)) = true
 rw [h.lay,Bool.true_and,decide_eq_true_iff]
 exact Nat.le_trans h.dep he
theorem ShowD.ok {c e : Nat} {d : PyData} (h : ShowD c e d) (hc : c ≤ 2 ^ 20) (he : e ≤ 50) : Z0n d = true:=by
 unfold Z0n
 rw [Bool.and_eq_true,Bool.and_eq_true,Bool.and_eq_true,decide_eq_true_iff,decide_eq_true_iff,Bool.not_eq_true']
 exact ⟨⟨⟨h.sh,PyData.hasDict_of_canLay _ h.lay⟩,Nat.le_trans h.dep he⟩,PyData.shown_fits_bulk (B:=13) (by decide) (by decide) h.leaf (Nat.le_trans h.bulk hc)⟩
end PL
end
section
namespace PL
open PySem PySem.Spec PyProof.Rows L2 Ev SX
theorem Zgo {fi : FO} {g : D → S → Option S} {body : FS} {s s1 : S} {l : List D} {o : Option Out} (h : fi s = some (l,s1)) (h2 : ZDj g body l s1 = o) : fFor fi g body s = o:=by
 unfold fFor
 rw [h]
 exact h2
theorem ZNe {F G : FS} {s s1 : S} {o : Option Out} (h : F s = some (.nx s1)) (h2 : G s1 = o) : fSeq F G s = o:=by
 unfold fSeq
 rw [h]
 exact h2
theorem Z1h {m n : Nat} {F : FS} {ds : List D} {cs : List (List D)} {r : D} {s : S} (h : ds.length = m) (h2 : F ⟨Zod n ds,cs⟩ = some (.rt r s)) : runF m n F ds cs = some (r,s.cs):=by
 unfold runF
 rw [if_pos h,h2]
 rfl
section
variable {s s1 s2 : S} {fa fb fe : FD} {fl fo : FO} {d e r : D} {ds ds0 es : List D} {i : Nat} {cs' : List (List D)}
theorem ZLh (h : fa s = some (d,s1)) : fSet i fa s = some (.nx ⟨s1.env.set i (some (.d d)),s1.cs⟩):=by unfold fSet; rw [h]; rfl
theorem ZKh {F : FF} (h : fl s = some (ds,s1)) (h2 : F ds s1.cs = some (r,cs')) : fFn F fl s = some (r,⟨s1.env,cs'⟩):=by unfold fFn; rw [h,Option.bind_some,h2]; rfl
theorem ZZe (h : fa s = some (d,s1)) (h2 : fl s1 = some (ds,s2)) : Zb fa fl s = some (d :: ds,s2):=by unfold Zb; rw [h,Option.bind_some,h2]; rfl
theorem ZNi {g : List D → Option D} (h : fl s = some (ds,s1)) (h2 : g ds = some d) : ZV g fl s = some (d,s1):=by unfold ZV; rw [h,Option.bind_some,h2]; rfl
theorem ZZl {g : List D → Option (List D)} (h : fl s = some (ds,s1)) (h2 : g ds = some es) : ZCj g fl s = some (es,s1):=by unfold ZCj; rw [h,Option.bind_some,h2]; rfl
theorem Z1l (h : fo s = some (ds,s1)) : fFz fo s = some (.lst ds,s1):=by unfold fFz; rw [h]; rfl
theorem Zvc {g : D → D → Option D} (h : fa s = some (d,s1)) (h2 : fb s1 = some (e,s2)) (h3 : g d e = some r) : fBin g fa fb s = some (r,s2):=by unfold fBin; rw [h,Option.bind_some,h2,Option.bind_some,h3]; rfl
theorem Zjo (h : fl s = some (ds,s1)) (h2 : ds.length ≤ 100000) : fTup fl s = some (.tup ds,s1):=by unfold fTup; rw [h,Option.bind_some,if_pos h2]
theorem ZTn {ft : FT} {c : Bool} (h : ft s = some (c,s1)) (h2 : (if c = true then fa s1 else fb s1) = some (r,s2)) : fIf ft fa fb s = some (r,s2):=by unfold fIf; rw [h,Option.bind_some]; exact h2
theorem Zho {ft : FT} {F G : FS} {c : Bool} {o : Option Out} (h : ft s = some (c,s1)) (h2 : (if c = true then F s1 else G s1) = o) : fIfS ft F G s = o:=by unfold fIfS; rw [h,Option.bind_some]; exact h2
theorem Z5l (h : fa s = some (d,s1)) : fRet fa s = some (.rt d s1):=by unfold fRet; rw [h]; rfl
theorem ZOi {c : Bool} (h : fa s = some (.bl c,s1)) : fTst fa s = some (c,s1):=by unfold fTst; rw [h]; rfl
end
theorem Zem {e0 : PL.Env} {vs : List Nat} {g : D → S → Option S} {ft : FT} {fe : FD} {d x : D} {r rs : List D} {s s1 s2 s3 s' : S} (h1 : g d ⟨ZXg s.env vs,s.cs⟩ = some s1) (h2 : ft s1 = some (true,s2)) (h3 : fe s2 = some (x,s3))
  (h4 : lcGo e0 vs g ft fe r ⟨ZSd e0 s3.env vs,s3.cs⟩ = some (rs,s')) : lcGo e0 vs g ft fe (d :: r) s = some (x :: rs,s'):=by
 show ((g d _).bind _) = _
 rw [h1,Option.bind_some,h2,Option.bind_some,if_pos rfl,h3,Option.bind_some,h4]
 rfl
theorem Zdl {g : D → S → Option S} {body : FS} {d : D} {r : List D} {s s1 s2 : S} {o : Option Out} (h1 : g d s = some s1) (h2 : body s1 = some (.nx s2)) (h3 : ZDj g body r s2 = o) : ZDj g body (d :: r) s = o:=by
 show ((g d s).bind _) = _
 rw [h1,Option.bind_some,h2]
 exact h3
section
variable {s s1 s2 : S} {fa fb : FD} {fl fo : FO} {d e : D} {ds es : List D}
theorem Zjn (h : fo s = some (ds,s1)) : Z0l fo s = some (.cell s1.cs.length,⟨s1.env,s1.cs ++ [ds]⟩):=by unfold Z0l; rw [h]; rfl
theorem Z2l (h : fa s = some (.lst ds,s1)) : fItL fa s = some (ds,s1):=by unfold fItL; rw [h]; rfl
end
theorem ZKn (l : List Str) : ZIf D.isStr (l.map D.str) = some l:=Zzh D.isStr D.str (fun _=>rfl) l
theorem Zan {z : Str} {l : List Str} (h : (l.map (·.length)).sum + l.length * z.length ≤ 100000) : Zck (.str z) (.lst (l.map .str)) = some (.str (Txt.join z l)):=by
 show (ZIf D.isStr (l.map D.str)).bind _ = _
 rw [ZKn,Option.bind_some,if_pos h]
theorem Zfm {e0 : PL.Env} {vs : List Nat} {g : D → S → Option S} {ft : FT} {fe : FD} {d : D} {r : List D} {s s1 s2 : S} {o : Option (List D × S)} (h1 : g d ⟨ZXg s.env vs,s.cs⟩ = some s1) (h2 : ft s1 = some (false,s2))
  (h4 : lcGo e0 vs g ft fe r ⟨ZSd e0 s2.env vs,s2.cs⟩ = o) : lcGo e0 vs g ft fe (d :: r) s = o:=by
 show ((g d _).bind _) = _
 rw [h1,Option.bind_some,h2,Option.bind_some,if_neg Bool.false_ne_true]
 exact h4
theorem Z9o {vs : List Nat} {fi : FO} {g : D → S → Option S} {ft : FT} {fe : FD} {s s1 : S} {l : List D} {o : Option (List D × S)} (h : fi s = some (l,s1)) (hl : l.length < 100000) (h2 : lcGo s1.env vs g ft fe l s1 = o) : fLc vs fi g ft fe s = o:=by
 unfold fLc
 rw [h,Option.bind_some,if_pos hl]
 exact h2
theorem Zzm {F : FF} {ds : List D} {r : D} {cs : List (List D)} (h1 : noCs ds = true) (h2 : F ds [] = some (r,cs)) (h3 : r.noC = true) : ZEf F ds = some r:=by
 unfold ZEf
 rw [if_pos h1,h2,Option.bind_some,if_pos h3]
theorem Zuh {g : List D → Option D} {ds : List D} {r : D} {cs : List (List D)} (h : g ds = some r) : Z0d g ds cs = some (r,cs):=by
 unfold Z0d
 rw [h]
 rfl
theorem ZSn {ft : FT} {F G : FS} {s s1 : S} {o : Option Out} (h : ft s = some (false,s1)) (h2 : G s1 = o) : fIfS ft F G s = o:=Zho h (by rw [if_neg Bool.false_ne_true]; exact h2)
theorem Zfo {F : FFO} {fl : FO} {s s1 : S} {ds r : List D} {cs' : List (List D)} (h : fl s = some (ds,s1)) (h2 : F ds s1.cs = some (r,cs')) : fFnO F fl s = some (r,⟨s1.env,cs'⟩):=by unfold fFnO; rw [h,Option.bind_some,h2]; rfl
theorem Zio {ft : FT} {c : Bool} {s s1 : S} (h : ft s = some (c,s1)) : fNot ft s = some (!c,s1):=by unfold fNot; rw [h]; rfl
theorem Z6n (l : List Bool) : ZIf D.isBl (l.map D.bl) = some l:=Zzh D.isBl D.bl (fun _=>rfl) l
theorem ZQl (n : Nat) : dAll [.lst ((List.replicate n true).map D.bl)] = some (.bl true):=by
 show (ZIf D.isBl _).map _ = _
 rw [Z6n]
 show some (D.bl _) = _
 congr 2
 rw [List.all_replicate]
 simp
end PL
end
section
namespace PL
open PySem PySem.Spec PyProof.Rows L2 Ev
def ZQh : Key → PyData
 | .inl i=>.int i
 | .inr x=>.str x
mutual
def D.pyd : D → Option PyData
 | .non=>some .none
 | .bl b=>some (.bool b)
 | .int i=>some (.int i)
 | .str x=>some (.str x)
 | .tup ds=>(pyds ds).map .tuple
 | .lst ds=>(pyds ds).map .list
 | .dic ks ds=>(pyds ds).map fun qs=>.dict ((ks.map ZQh).zip qs)
 | _=>none
def pyds : List D → Option (List PyData)
 | []=>some []
 | d :: r=>match d.pyd,pyds r with
  | some p,some q=>some (p :: q)
  | _,_=>none
end
mutual
def D.hasLst : D → Bool
 | .tup ds=>hasLsts ds
 | .lst _=>true
 | .dic _ ds=>hasLsts ds
 | _=>false
def hasLsts : List D → Bool
 | []=>false
 | d :: r=>d.hasLst || hasLsts r
end
mutual
def D.hasDic : D → Bool
 | .tup ds=>hasDics ds
 | .lst ds=>hasDics ds
 | .dic _ _=>true
 | _=>false
def hasDics : List D → Bool
 | []=>false
 | d :: r=>d.hasDic || hasDics r
end
def Z7i (ds : List D) : Bool:=!hasDics ds || !hasLsts ds
def Zpm : D → Bool
 | .lst ds=>Z7i ds
 | .dic _ ds=>Z7i ds
 | d=>!d.hasDic || !d.hasLst
mutual
theorem Z1k : ∀ {d : D} {q : PyData},d.pyd = some q → q.hasDict = d.hasDic
 | .non,_,e=>by cases e; rfl
 | .bl _,_,e=>by cases e; rfl
 | .int _,_,e=>by cases e; rfl
 | .str _,_,e=>by cases e; rfl
 | .tup ds,_,e=>by
  obtain ⟨qs,e1,rfl⟩:=Option.map_eq_some_iff.mp e
  simp only [PyData.hasDict,D.hasDic]
  exact pyds_dict e1
 | .lst ds,_,e=>by
  obtain ⟨qs,e1,rfl⟩:=Option.map_eq_some_iff.mp e
  simp only [PyData.hasDict,D.hasDic]
  exact pyds_dict e1
 | .dic _ ds,_,e=>by
  obtain ⟨qs,e1,rfl⟩:=Option.map_eq_some_iff.mp e
  simp only [PyData.hasDict,D.hasDic]
 | .brd _ _,_,e=>by cases e
 | .cell _,_,e=>by cases e
 | .scr _,_,e=>by cases e
 | .obj _ _,_,e=>by cases e
 | .err _ _,_,e=>by cases e
theorem pyds_dict : ∀ {ds : List D} {qs : List PyData},pyds ds = some qs → PyData.hasDictAll qs = hasDics ds
 | [],_,e=>by cases e; rfl
 | d :: r,_,e=>by
  have e : (match d.pyd,pyds r with | some p,some q=>some (p :: q) | _,_=>none) = some _:=e
  cases e1 : d.pyd with
  | none=>rw [e1] at e; cases e
  | some p=>
   cases e2 : pyds r with
   | none=>rw [e1,e2] at e; cases e
   | some q=>
    rw [e1,e2] at e
    cases e
    simp only [PyData.hasDictAll,hasDics]
    rw [Z1k e1,pyds_dict e2]
end
theorem Zhj : ∀ {ds : List D} {qs : List PyData},pyds ds = some qs → qs.length = ds.length
 | [],_,e=>by cases e; rfl
 | d :: r,_,e=>by
  unfold pyds at e
  split at e
  ·rename_i p q e1 e2
   cases e
   rw [List.length_cons,List.length_cons,Zhj e2]
  ·cases e
theorem ZYg {α β : Type} : ∀ {as : List α} {bs : List β},as.length = bs.length → (as.zip bs).map (·.1) = as
 | [],[],_=>rfl
 | a :: as,b :: bs,h=>by
  rw [List.zip_cons_cons,List.map_cons,ZYg (by simpa using h)]
 | [],_ :: _,h=>by cases h
 | _ :: _,[],h=>by cases h
theorem Z5e {α β : Type} : ∀ {as : List α} {bs : List β},as.length = bs.length → (as.zip bs).map (·.2) = bs
 | [],[],_=>rfl
 | a :: as,b :: bs,h=>by
  rw [List.zip_cons_cons,List.map_cons,Z5e (by simpa using h)]
 | [],_ :: _,h=>by cases h
 | _ :: _,[],h=>by cases h
section
variable {X : Cx} {R : OR} {pins : List (Addr × Obj)} {σ : L2.St} {H : Hp} {s : Shared} {ρ : List Addr}
theorem ZRh {P : Program} {w : World} {h : Heap} : ∀ {es : List DictEntry} {kvs : List (Key × Value)},Pairs (mixKind P w) es kvs → ReadsAll h (es.map (·.key)) (kvs.map fun p=>ZQh p.1) []
 | _,_,.nil=>.nil
 | _,_,.cons (e:=e) (kv:=kv) h1 h2 t=>by
  have h1 : keyIs kv.1 e.key = true:=h1
  have q : Reads h e.key (ZQh kv.1) []:=by
   rcases keyIs_shape h1 with ⟨i,t,hk,hv⟩ | ⟨x,t,hk,hv⟩
   ·rw [hk,hv]; exact .int i t
   ·rw [hk,hv]; exact .str x t
  exact .cons (as:=[]) (bs:=[]) q (ZRh t)
theorem ZFk {P : Program} {w : World} : ∀ {es : List DictEntry} {kvs : List (Key × Value)},Pairs (mixKind P w) es kvs → es.map (·.val) = kvs.map (·.2)
 | _,_,.nil=>rfl
 | _,_,.cons h1 h2 t=>by rw [List.map_cons,List.map_cons,h2,ZFk t]
theorem ZUi : ∀ {ks : List Key} {xs : List V} {vs : List (Key × Value)},ks.length = xs.length → KV (ks.zip xs) vs → vs.map (·.1) = ks ∧ Vals xs (vs.map (·.2))
 | [],[],_,_,r=>by cases r; exact ⟨rfl,.nil⟩
 | k :: ks,x :: xs,_,e,r=>by
  rw [List.zip_cons_cons] at r
  cases r with
  | cons h t=>
   obtain ⟨h1,h2⟩:=ZUi (by simpa using e) t
   exact ⟨by rw [List.map_cons,h1,← h.1],.cons h.2 h2⟩
 | [],_ :: _,_,e,_=>by cases e
 | _ :: _,[],_,e,_=>by cases e
mutual
theorem RD.readsD (I : Inv X pins σ H s) : ∀ {v : V} {d : D} {q : PyData} {u : Value},RD X.K R H ρ v d → d.pyd = some q → RelV v u → ∃ as,Reads s.heap u q as ∧ (d.hasLst = false → sysModules ∉ as)
 | _,_,_,_,.non,e,r=>by cases e; cases r; exact ⟨_,.none,by simp⟩
 | _,_,_,_,.bl b,e,r=>by cases e; cases r; exact ⟨_,.bool b,by simp⟩
 | _,_,_,_,.int i,e,r=>by cases e; obtain ⟨t,rfl⟩:=r; exact ⟨_,.int i t,by simp⟩
 | _,_,_,_,.str x,e,r=>by cases e; obtain ⟨t,rfl⟩:=r; exact ⟨_,.str x t,by simp⟩
 | _,_,_,_,.tup h t,e,r=>by
  obtain ⟨qs,e1,rfl⟩:=Option.map_eq_some_iff.mp e
  cases r
  obtain ⟨its,rv,⟨o,ho,hc,n,hd⟩,_⟩:=I.tuple h
  obtain ⟨as,hr,hn⟩:=RDs.readsD I t e1 rv
  exact ⟨_,.tuple ho hc hd hr,fun z=>hn (by simpa [D.hasLst] using z)⟩
 | _,_,_,_,.lst (a:=a) h t,e,r=>by
  obtain ⟨qs,e1,rfl⟩:=Option.map_eq_some_iff.mp e
  cases r
  obtain ⟨its,rv,⟨o,n,ho,hc,_,hd⟩,_⟩:=I.list (SqL.of h)
  obtain ⟨as,hr,hn⟩:=RDs.readsD I t e1 rv
  exact ⟨_,.list ho hc hd hr,fun z=>by simp [D.hasLst] at z⟩
 | _,_,_,_,.dic (a:=a) (ks:=ks) h l t,e,r=>by
  obtain ⟨qs,e1,rfl⟩:=Option.map_eq_some_iff.mp e
  cases r
  obtain ⟨_,hsys,vs,kv,o,es,ep,ho,hx,hd,_,hp,_⟩:=(show ObjOk X.prog X.w H s.heap a (.dK (ks.zip _)) from h.ok I.hok)
  obtain ⟨k1,k2⟩:=ZUi l kv
  obtain ⟨bs,hr,hn⟩:=RDs.readsD I t e1 k2
  have hl : (ks.map ZQh).length = qs.length:=by
   rw [List.length_map,Zhj e1,← RDs.len t,l]
  refine ⟨_,Reads.dict (as:=[]) (bs:=bs) ho hx.1 hd ?_ ?_,fun hl' z=>?_⟩
  ·rw [ZYg hl]
   have q:=ZRh (h:=s.heap) hp
   have e2 : (vs.map fun p=>ZQh p.1) = ks.map ZQh:=by rw [← k1,List.map_map]; rfl
   rw [e2] at q
   exact q
  ·rw [Z5e hl,ZFk hp]
   exact hr
  ·rcases List.mem_cons.mp z with z | z
   ·rw [← z] at hsys
    exact absurd hsys (by decide)
   ·exact hn (by simpa [D.hasLst] using hl') z
 | _,_,_,_,.brd _,e,_=>by cases e
 | _,_,_,_,.cell _,e,_=>by cases e
 | _,_,_,_,.scr _,e,_=>by cases e
 | _,_,_,_,.obj _ _ _ _,e,_=>by cases e
 | _,_,_,_,.err _ _ _,e,_=>by cases e
theorem RDs.readsD (I : Inv X pins σ H s) : ∀ {vs : List V} {ds : List D} {qs : List PyData} {us : List Value},RDs X.K R H ρ vs ds → pyds ds = some qs → Vals vs us → ∃ as,ReadsAll s.heap us qs as ∧ (hasLsts ds = false → sysModules ∉ as)
 | _,_,_,_,.nil,e,r=>by cases e; cases r; exact ⟨_,.nil,by simp⟩
 | _,_,_,_,.cons (d:=d) (ds:=ds) h t,e,r=>by
  have e : (match d.pyd,pyds ds with | some p,some q=>some (p :: q) | _,_=>none) = some _:=e
  cases e1 : d.pyd with
  | none=>rw [e1] at e; cases e
  | some p=>
   cases e2 : pyds ds with
   | none=>rw [e1,e2] at e; cases e
   | some q=>
    rw [e1,e2] at e
    cases e
    cases r with
    | cons r1 r2=>
     obtain ⟨as,q1,n1⟩:=RD.readsD I h e1 r1
     obtain ⟨bs,q2,n2⟩:=RDs.readsD I t e2 r2
     exact ⟨_,.cons q1 q2,fun hl z=>by
      simp only [hasLsts,Bool.or_eq_false_iff] at hl
      exact (List.mem_append.mp z).elim (n1 hl.1) (n2 hl.2)⟩
end
end
section
variable {prog : Program} {w : World} {A : Around} {E : Value → Shared → Prop} {s : Shared} {Q : Value → Shared → Prop} {h₀ : Heap} {a : Addr} {o : Obj} {n : Nat}
theorem ZBm {vs : Array Value} {xs : List PyData} {bs₀ : List Addr} (h1 : h₀.get? a = some o) (h2 : o.cls = .type "list") (h3 : o.data = .seq vs n) (h4 : ReadsAll h₀ vs.toList xs bs₀) (hs : PyData.showableAll xs = true)
  (hsm : PyData.hasDictAll xs = true → sysModules ∉ bs₀) (hg : A.guards = some []) (hu : A.units + ((PyData.list xs).depth + 1) < cLine) (hk0 : ∀ b o,h₀.get? b = some o → s.heap.get? b = some o)
  (hQ : ∀ h' u tk,(∀ b o,s.heap.get? b = some o → h'.get? b = some o) → Q (.str (PyData.list xs).shown u) { s with heap:=h',toks:=tk }) (hsz : (PyData.list xs).shown.length ≤ sizeLine) : wpAny (model prog w) A (call (.builtin "repr") [.ref a]) Q E s:=by
 by_cases hd : PyData.hasDictAll xs = true
 ·have hz' : (listText (PyData.shownAll xs)).length ≤ sizeLine:=by simpa only [PyData.shown] using hsz
  obtain ⟨bs,hb,hk⟩:=ReprAllK.of_readsAll (prog:=prog) (w:=w) h4 hs hsm (fun t ht=>Nat.le_trans (listText_mem_le ht) hz')
  have hna : a ∉ bs:=not_mem_of_deeper (.list h1 h2 h3 h4) (by simp only [PyData.depth]; omega) hb
  simp only [PyData.depth] at hu
  simp only [PyData.shown] at hQ
  refine call_repr_slot (by omega) (T:= "list") ⟨o,hk0 _ _ h1,h2⟩ F.slot_list_repr.toG ?_
  obtain ⟨l⟩:=vs
  cases l with
  | nil=>
   cases (show ReadsAll h₀ [] xs _ from h4)
   cases hd
  | cons x l=>
   exact call_list_reprK (A:=A.in1) h1 h2 h3 hna (by simpa using hk.length_eq) (fun i y e=>hk.item i y (by simpa using e)) hg (fun b _=>Clear.nil b) (by show A.units + 1 + _ < cLine; omega) hk0 (fun h' u tk hk=>⟨_,_,rfl,hQ h' u tk hk⟩) hz'
 ·exact repr_of_reads' (.list h1 h2 h3 h4) (by simpa [PyData.showable] using hs) (fun z=>absurd (by simpa [PyData.hasDict] using z) hd) hg hu hk0 hQ hsz
theorem ZAm {es : Array DictEntry} {kvs : List (PyData × PyData)} {bs₀ : List Addr} (h1 : h₀.get? a = some o) (h2 : o.cls = .type "dict") (h3 : o.data = .dict es n) (h4 : ReadsAll h₀ (es.toList.map (·.key)) (kvs.map (·.1)) []) (h5 : ReadsAll h₀ (es.toList.map (·.val)) (kvs.map (·.2)) bs₀)
  (hs : (PyData.dict kvs).showable = true) (hsys : (a == sysModules) = false) (hsm : PyData.hasDictAll (kvs.map (·.2)) = true → sysModules ∉ bs₀) (hg : A.guards = some []) (hu : A.units + ((PyData.dict kvs).depth + 1) < cLine) (hk0 : ∀ b o,h₀.get? b = some o → s.heap.get? b = some o)
  (hQ : ∀ h' u tk,(∀ b o,s.heap.get? b = some o → h'.get? b = some o) → Q (.str (PyData.dict kvs).shown u) { s with heap:=h',toks:=tk }) (hsz : (PyData.dict kvs).shown.length ≤ sizeLine) : wpAny (model prog w) A (call (.builtin "repr") [.ref a]) Q E s:=by
 have hz' : (dictText (PyData.shownKv kvs)).length ≤ sizeLine:=by simpa only [PyData.shown] using hsz
 obtain ⟨hs1,hs2⟩:=PyData.showableKv_split kvs (by simpa [PyData.showable] using hs)
 obtain ⟨b1,hb1,k1⟩:=ReprAllK.of_readsAll (prog:=prog) (w:=w) h4 hs1 (fun _ hm=>by cases hm) (fun t ht=>let ⟨p,hp,hl⟩:=PyData.shownKv_key_le kvs t ht; Nat.le_trans hl (Nat.le_trans (dictText_mem_le hp) hz'))
 obtain ⟨b2,hb2,k2⟩:=ReprAllK.of_readsAll (prog:=prog) (w:=w) h5 hs2 hsm (fun t ht=>let ⟨p,hp,hl⟩:=PyData.shownKv_val_le kvs t ht; Nat.le_trans hl (Nat.le_trans (dictText_mem_le hp) hz'))
 have hb : ReadAtMost h₀ (PyData.depthKv kvs) (b1 ++ b2):=(hb1.mono (PyData.depthAll_keys_le kvs)).append (hb2.mono (PyData.depthAll_vals_le kvs))
 have hna : a ∉ b1 ++ b2:=not_mem_of_deeper (.dict h1 h2 h3 h4 h5) (by simp only [PyData.depth]; omega) hb
 simp only [PyData.depth] at hu
 simp only [PyData.shown,PyData.shownKv_eq] at hQ
 refine call_repr_slot (by omega) (T:= "dict") ⟨o,hk0 _ _ h1,h2⟩ F.slot_dict_repr ?_
 exact call_dict_reprK (A:=A.in1) h1 h2 h3 hsys hna (ReprEntriesK.of_two es.toList _ _ (k1.more_le (fun b hb=>List.mem_append_left _ hb) (PyData.depthAll_keys_le kvs)) (k2.more_le (fun b hb=>List.mem_append_right _ hb) (PyData.depthAll_vals_le kvs)))
  hg (fun b _=>Clear.nil b) (by show A.units + 1 + _ < cLine; omega) hk0 (fun h' u tk hk=>⟨_,_,rfl,hQ h' u tk hk⟩) (by rw [← PyData.shownKv_eq]; exact hz')
end
def ZTf (d : D) : Bool:=match d.pyd with
 | some q=>Zpm d && (q.showable && (decide (q.depth ≤ 50) && decide (q.shown.length ≤ sizeLine)))
 | none=>false
section
variable {X : Cx} {R : OR} {pins : List (Addr × Obj)} {σ : L2.St} {H : Hp} {s : Shared} {ρ : List Addr}
theorem Z2k {Q : VK} {us : List Value} {v : V} {d : D} (hg : X.A.guards = some []) (hu : X.A.units + 64 < cLine) (I : Inv X pins σ H s) (h2 : RD X.K R H ρ v d) (c : ZTf d = true) (r : Vals [v] us) (k : ∀ q,d.pyd = some q → Q (.str q.shown) H) :
  wpAny (model X.prog X.w) X.A (call (.builtin "repr") us) (EP X pins σ Q) X.xe s:=by
 unfold ZTf at c
 split at c
 ·rename_i q eq
  simp only [Bool.and_eq_true,decide_eq_true_eq] at c
  obtain ⟨ot,c1,c2,c3⟩:=c
  have kq:=k q eq
  obtain ⟨u,eu,ru⟩:=vals1 r
  subst eu
  cases h2 with
  | non=>cases eq; cases ru; exact PySem.P.repr_of_none ⟨.str _,H,I.tok _,⟨_,rfl⟩,kq⟩
  | bl b'=>cases eq; cases ru; exact PySem.P.repr_of_bool ⟨.str _,H,I.tok _,⟨_,rfl⟩,kq⟩
  | int i=>
   cases eq
   obtain ⟨t,rfl⟩:=ru
   exact PySem.P.repr_of_int (of_decide_eq_true c1) ⟨.str _,H,I.tok _,⟨_,rfl⟩,kq⟩
  | str x=>
   cases eq
   obtain ⟨t,rfl⟩:=ru
   exact PySem.P.repr_of_str ⟨.str _,H,I.tok _,⟨_,rfl⟩,kq⟩ c3
  | tup h1 t1=>
   obtain ⟨as,rd,hn⟩:=RD.readsD I (.tup h1 t1) eq ru
   have ed:=Z1k eq
   cases ru
   refine repr_of_reads' rd c1 (fun z=>hn ?_) hg (by omega) (fun b o e=>e) (fun h' u tk kept=>⟨.str q.shown,H,I.kept kept,⟨_,rfl⟩,kq⟩) c3
   rw [ed] at z
   simpa [Zpm,z] using ot
  | @lst a xs ds h1 t1=>
   obtain ⟨qs,e1,rfl⟩:=Option.map_eq_some_iff.mp eq
   cases ru
   obtain ⟨its,rv,⟨o,n,ho,hc,_,hd⟩,_⟩:=I.list (SqL.of h1)
   obtain ⟨as,hr,hn⟩:=RDs.readsD I t1 e1 rv
   refine ZBm ho hc hd hr (by simpa [PyData.showable] using c1) (fun z=>hn ?_) hg (by omega) (fun b o e=>e) (fun h' u tk kept=>⟨.str _,H,I.kept kept,⟨_,rfl⟩,kq⟩) c3
   rw [pyds_dict e1] at z
   simpa [Zpm,Z7i,z] using ot
  | @dic a ks xs ds h1 l1 t1=>
   obtain ⟨qs,e1,rfl⟩:=Option.map_eq_some_iff.mp eq
   cases ru
   obtain ⟨_,hsys,vs,kv,o,es,ep,ho,hx,hd,_,hp,_⟩:=(show ObjOk X.prog X.w H s.heap a (.dK (ks.zip xs)) from h1.ok I.hok)
   obtain ⟨k1,k2⟩:=ZUi l1 kv
   obtain ⟨bs,hr,hn⟩:=RDs.readsD I t1 e1 k2
   have hl : (ks.map ZQh).length = qs.length:=by
    rw [List.length_map,Zhj e1,← RDs.len t1,l1]
   have q4 : ReadsAll s.heap (es.toList.map (·.key)) (((ks.map ZQh).zip qs).map (·.1)) []:=by
    rw [ZYg hl]
    have q:=ZRh (h:=s.heap) hp
    have e2 : (vs.map fun p=>ZQh p.1) = ks.map ZQh:=by rw [← k1,List.map_map]; rfl
    rw [e2] at q
    exact q
   have q5 : ReadsAll s.heap (es.toList.map (·.val)) (((ks.map ZQh).zip qs).map (·.2)) bs:=by
    rw [Z5e hl,ZFk hp]
    exact hr
   refine ZAm ho hx.1 hd q4 q5 c1 hsys (fun z=>hn ?_) hg (by omega) (fun b o e=>e) (fun h' u tk kept=>⟨.str _,H,I.kept kept,⟨_,rfl⟩,kq⟩) c3
   rw [Z5e hl,pyds_dict e1] at z
   simpa [Zpm,Z7i,z] using ot
  | brd _=>cases eq
  | cell _=>cases eq
  | scr _=>cases eq
  | obj _ _ _ _=>cases eq
  | err _ _ _=>cases eq
 ·cases c
end
theorem Zyn {K : PySem.W.Frag} {R : OR} (hR : Znb R) {G : Hp} {ρ : List Addr} {v : V} {d : D} (h : RD K R G ρ v d) (c : ZTf d = true) : Z8h K G v:=by
 intro X pins s σ H' us Q eK st hg hu I r k
 subst eK
 exact Z2k hg hu I (RD.mono hR st.r (List.prefix_refl _) h) c r fun q _=>k _
end PL
end
section
namespace PL
open PySem PySem.Spec PyProof.Rows L2 Ev NdefX
def Zbo : D → Option D
 | .err _ d=>some d
 | _=>none
def dIsX (g : Nat → Bool) : D → Option D
 | .err c _=>some (.bl (g c))
 | _=>none
section
variable {X : Cx} {R : OR} {k : Nat} {f D' C : Addr} {Fi : NF} {doc pm ctv : Value} {x : Str} {e : Expr} {fa : FD} {p pos : Pos}
theorem ZFo (hx : ∀ c C,R.exc c = some C → XfC X.K C ∧ PySem.W.findIn X.K (.ref C) "value" = some none) (he : PE X e (tD X.K R fa)) (hb : attributeBase e "value" X.env (eval e X.env) = eval e X.env:=by rfl) :
  PE X (.Attribute e "value" pos) (tD X.K R (fUn Zbo fa)):=by
 refine pd_w (ZLo he hb) fun σ H Q ⟨b,G,ρ,s,r,s',rl,e,k⟩=>?_
 obtain ⟨⟨x,s1⟩,e1,e⟩:=Ze e
 obtain ⟨z,e3,e⟩:=Zm e
 cases e
 refine ⟨b,G,ρ,s,x,s1,rl,e1,fun v G1 ρ1 H1 r1 f1 d1=>?_⟩
 have d1 : RD X.K R G1 ρ1 v x:=d1
 have e3 : Zbo x = some r:=e3
 cases d1 with
 | err h1 h2 h3=>
  cases e3
  exact ⟨_,_,_,rfl,h2.same r1.sub,(hx _ _ h1).1,(hx _ _ h1).2,k _ _ _ _ r1 f1 h3⟩
 | _=>cases e3
theorem Zvp {g : Nat → Bool} {c : V} {cv : Value} {y : Str} {p2 : Pos} (hx : ∀ c C,R.exc c = some C → ExcC X.K C ∧ PySem.W.kitOne X.K (.ref C) cv = some (g c)) (hz : Gl X "isinstance") (hm : X.mg "isinstance" = none) (he : PE X e (tD X.K R fa))
  (hy : PE X (.Name y p2) (tC c)) (hcv : ∀ u,RelV c u → u = cv)
  (h2 : starEach [e,.Name y p2] X.env = (false,eval e X.env) :: starEach [.Name y p2] X.env:=by rfl) (h1 : starEach [.Name y p2] X.env = (false,eval (.Name y p2) X.env) :: starEach [] X.env:=by rfl)
  (hpl : (backTo pos (starEach [.Name y p2] X.env)).any (·.1) = false:=by rfl) :
  PE X (.Call (.Name "isinstance" p) [e,.Name y p2] [] pos) (tD X.K R (fUn (dIsX g) fa)):=by
 refine pd_w (pe_callB (id:= "isinstance") Z5m hz hm PyProof.Rows.Boot.«isinstance» (pa_cons he (pa_cons hy pa_nil h1) h2) (by decide) (by decide) h2 hpl) fun σ H Q ⟨b,G,ρ,s,r,s',rl,e,k⟩=>?_
 obtain ⟨⟨x,s1⟩,e1,e⟩:=Ze e
 obtain ⟨z,e3,e⟩:=Zm e
 cases e
 refine ⟨b,G,ρ,s,x,s1,rl,e1,fun v G1 ρ1 H1 r1 f1 d1=>?_⟩
 have d1 : RD X.K R G1 ρ1 v x:=d1
 have e3 : dIsX g x = some r:=e3
 cases d1 with
 | err h1 h2 h3=>
  cases e3
  exact ⟨_,_,_,_,_,_,rfl,h2.same r1.sub,(hx _ _ h1).1,hcv,(hx _ _ h1).2,k _ _ _ _ r1 f1 (.bl _)⟩
 | _=>cases e3
end
end PL
end
section
namespace PL
open PySem PySem.Spec PyProof.Rows L2 Ev
def gTup : PyData → Bool:=fun d=>match d with | .tuple _=>true | _=>false
end PL
end
section
namespace PL
open PySem PySem.Spec PyProof.Rows L2 Ev
def ZOk : List D → Option D
 | [d]=>if ZTf d = true then d.pyd.map fun q=>.str q.shown else none
 | _=>none
section
variable {X : Cx} {R : OR}
theorem ZLk (hR : Znb R) {j : Nat} (hg : X.A.guards = some []) (room : Room j X.A) : CallR X (.builtin "repr") (rDL X.K R ZOk):=by
 intro pins s σ H xs us Q I r ⟨b,G,ρ,σ',st,ds,z,rl,hd,e,k⟩
 have hu : X.A.units + 64 < cLine:=by have:=room.un; omega
 match ds,hd,e with
 | [],_,e=>cases e
 | _ :: _ :: _,_,e=>cases e
 | [d],hd,e=>
  have e : (if ZTf d = true then d.pyd.map (fun q=>D.str q.shown) else none) = some z:=e
  split at e
  ·rename_i c
   obtain ⟨q,eq,ez⟩:=Zm e
   subst ez
   cases hd with
   | cons h t=>
    cases t
    refine Z2k hg hu I (RD.mono hR rl.sub.r (List.prefix_refl _) h) c r fun q' e'=>?_
    rw [eq] at e'
    cases e'
    exact k.imm rl (.str _)
  ·cases e
end
end PL
end
section
namespace Ev
open PySem PySem.Spec PyProof.Rows L2
def oexA (K : PySem.W.Frag) (C : Addr) : Bool:=match K.lookup C with
 | some ⟨.type "type",_,.cls cd,sl⟩=>(match cd.mro,sl.toList with
  | .ref C' :: bm,[_,_,_,_,some (.builtin n),_]=>C' == C && (n == "ValueError.__new__" && (!cd.hasDel && (cd.hasDict && PySem.HandSPX.refsVE bm)))
  | _,_=>false)
 | _=>false
theorem Zvo {K : PySem.W.Frag} {C : Addr} (q : oexA K C = true) : ∃ nm q N bs bm sn sub ab col dd k0 k1 k2 k3 k5,K.lookup C = some (excClassObj nm q C N bs bm true sn sub ab col dd k0 k1 k2 k3 k5 "ValueError.__new__") ∧ PySem.HandSPX.refsVE bm = true:=by
 unfold oexA at q
 split at q
 ·rename_i dd cd sl ho
  split at q
  ·rename_i C' bm k0 k1 k2 k3 n k5 hm hsl
   simp only [Bool.and_eq_true,beq_iff_eq,Bool.not_eq_true'] at q
   obtain ⟨rfl,rfl,h1,h2,h3⟩:=q
   obtain ⟨nm,bs,mro,ns,qn,hd,sn,sb,ab,col,del⟩:=cd
   obtain ⟨sl⟩:=sl
   dsimp only at hm hsl h1 h2
   subst hm h1 h2
   have hsl : sl = _:=hsl
   subst hsl
   exact ⟨_,_,_,_,_,_,_,_,_,_,_,_,_,_,_,ho,h3⟩
  ·cases q
 ·cases q
def oexB (K : PySem.W.Frag) (C : Addr) : Bool:=oexA K C && (decide (PySem.W.findIn K (.ref C) "__setattr__" = some (some (.builtin "object.__setattr__"))) && (decide (PySem.W.subIn K (.ref C) (.type "BaseException") = some true) &&
 (decide (PySem.W.typeIn K (.ref C) = some (.type "type")) && PySem.W.keepIn K (.ref C))))
theorem Zwo {K : PySem.W.Frag} {C : Addr} (h : oexB K C = true) : OexC K C:=by
 unfold oexB at h
 simp only [Bool.and_eq_true,decide_eq_true_eq] at h
 obtain ⟨h1,h2,h3,h4,h5⟩:=h
 exact ⟨Zvo h1,h2,h3,h4,h5⟩
def suB (K : PySem.W.Frag) (D C : Addr) : Bool:=(PySem.W.clsIn K D).isSome && (decide (PySem.W.mroIn K C (.ref D) = some true) && (decide (PySem.W.nsIn K cStatics "thirdparty.any" = some none) &&
 (decide (PySem.W.ks_superIn K C D "__init__" = some (some (.builtin "ValueError.__init__"))) && decide (PySem.W.subIn K (.ref C) (.type "ValueError") = some true))))
theorem ZHp {K : PySem.W.Frag} {D C : Addr} (h : suB K D C = true) : SuC K D C:=by
 unfold suB at h
 simp only [Bool.and_eq_true,decide_eq_true_eq] at h
 obtain ⟨h1,h2,h3,h4,h5⟩:=h
 exact ⟨Option.isSome_iff_exists.mp h1,h2,h3,h4,h5⟩
def excB (K : PySem.W.Frag) (D : Addr) : Bool:=decide (PySem.W.findIn K (.ref D) "__getattribute__" = some (some (.builtin "BaseException.__getattribute__"))) && (decide (PySem.W.findIn K (.ref D) "__getattr__" = some none) && (decide (PySem.W.subIn K (.ref D) (.type "BaseException") = some true) &&
 (PySem.W.hasDictIn K D && (decide (PySem.W.findIn K (.ref D) "__class__" = some (some (.builtin "object.__class__"))) && (decide (PySem.W.specialIn K (.builtin "object.__class__") "__get__" = some (some (.builtin "getset_descriptor.__get__"))) &&
 (decide (PySem.W.takesIn K (.builtin "object.__class__") = some true) && decide (PySem.W.mroIn K D (.type "object") = some true)))))))
theorem Zdo {K : PySem.W.Frag} {D : Addr} (h : excB K D = true) : ExcC K D:=by
 unfold excB at h
 simp only [Bool.and_eq_true,decide_eq_true_eq] at h
 obtain ⟨h1,h2,h3,h4,h5,h6,h7,h8⟩:=h
 exact ⟨h1,h2,h3,h4,h5,h6,h7,h8⟩
def errB (K : PySem.W.Frag) (D C f : Addr) : Bool:=suB K D C && (oexB K C && (decide (PySem.W.findIn K (.ref C) "value" = some none) && (decide (PySem.W.findIn K (.ref C) "__init__" = some (some (.ref f))) && (decide (PySem.W.typeIn K (.ref f) = some (.type "function")) && (excB K C && xfB K C)))))
theorem Zco {K : PySem.W.Frag} {D C f : Addr} (h : errB K D C f = true) : MkX K D C f ∧ ExcC K C ∧ XfC K C:=by
 unfold errB at h
 simp only [Bool.and_eq_true,decide_eq_true_eq] at h
 obtain ⟨h1,h2,h3,h4,h5,h6,h7⟩:=h
 exact ⟨⟨ZHp h1,Zwo h2,h3,h4,h5⟩,Zdo h6,xfB_ok h7⟩
theorem ZSi {Cs : List Addr} {i : Nat} (h : i < Cs.length) : Cs.getD i 0 ∈ Cs:=by
 rw [List.getD_eq_getElem?_getD,List.getElem?_eq_getElem h]
 exact List.getElem_mem h
end Ev
end
section
namespace PL
open PySem PySem.Spec PyProof.Rows L2 Ev StX
section
variable {K : PySem.W.Frag} {R : OR} {b : Bs} {G1 G2 G6 H1 H2 H6 : Hp} {ρ1 ρ2 ρ6 : List Addr} {σ σ2 : L2.St} {s1 s2 s3 s6 : S}
def del (H : Hp) (a : Addr) : Hp:=fun c=>if c = a then none else H c
end
end PL
end
section
namespace Ev
open PySem PySem.Spec PyProof.Rows L2 NdefX
section
variable {X : Cx} {pins : List (Addr × Obj)} {σ : L2.St} {H : Hp} {s : Shared}
theorem Zam {a C : Addr} {d : Option Addr} {ob : Obj} {vs : Array Value} (I : Inv X pins σ H s) (e : s.heap.get? a = some ob) (h1 : ob.cls = .ref C) (h2 : ob.dict = d) (h3 : ob.data = .fields vs) (n : H a = none)
  (n0 : X.s_0.heap.get? a = none) (nL : a ≠ X.env.locals) (np : ∀ p ∈ X.pn ++ pins,p.1 ≠ a) : Inv X pins σ (upd H a (exq a C d)) s:=by
 refine ⟨I.ok,I.os,I.bare,⟨I.base.keep,I.base.slot,fun b u q m hx=>?_,I.base.there,fun b xs q=>?_,fun b u xs q=>?_,fun b ps q=>?_⟩,I.loc,I.cell,?_,fun x c q=>?_,fun p hp=>?_,?_,I.len⟩
 ·rw [upd_ne (fun z=>by rw [z,n0] at q; cases q)]; exact I.base.free b u q m hx
 ·have z:=I.base.tups b xs q; rw [upd_ne (ne_of_none z n)]; exact z
 ·have z:=I.base.frzs b u xs q; rw [upd_ne (ne_of_none z n)]; exact z
 ·obtain ⟨m,z⟩:=I.base.tbls b ps q; exact ⟨m,by rw [upd_ne (ne_of_none z n)]; exact z⟩
 ·rw [upd_ne (fun z=>nL z.symm)]; exact I.free
 ·rw [upd_ne (fun z=>by
   obtain ⟨v,o,q1,q2⟩:=I.cell x c q
   rw [z,e] at q1; cases q1; rw [h3] at q2; cases q2)]
  exact I.freeC x c q
 ·obtain ⟨q1,q2,q3⟩:=I.pin p hp
  exact ⟨q1,by rw [upd_ne (np p hp)]; exact q2,q3⟩
 ·exact I.hok.laidN (fun _ _ z=>z) n ⟨⟨ob,vs,e,h1,h2,h3⟩,⟨ob,e⟩,fun _ _ ⟨o,w,q,r⟩ k=>⟨o,w,k o q,r⟩⟩
end
def kept (i : Nat) (a C : Addr) (d : Option Addr) (D : Ends) : Ends where
 nx:=fun τ H=>D.nx (τ.set i none) (upd H a (exq a C d))
 rt:=fun v H=>D.rt v (upd H a (exq a C d))
 bk:=fun τ H=>D.bk (τ.set i none) (upd H a (exq a C d))
 ct:=fun τ H=>D.ct (τ.set i none) (upd H a (exq a C d))
def ZRp (K : PySem.W.Frag) (c : Value) (i : Nat) (ts : Addr → Value → Option Addr → TS) (Wo : WX) (D : Ends) : WX:=fun cls d τ H=>
 ∃ b,PySem.W.exmOne K cls c = some b ∧ (b = true → ∃ C,cls = .ref C ∧ ∀ a,H a = none → ts a cls d (kept i a C d D) (τ.set i (some (.ref a))) H) ∧ (b = false → Wo cls d τ H)
section
variable {X : Cx} {x n : Str} {c : Value} {i : Nat} {body suite : List Stmt} {b₀ : Stmt} {np pos pos' : Pos} {tb : WX → TS} {ts : Addr → Value → Option Addr → TS} {Wo : WX}
theorem Zwk (hx0 : X.ex = []) (hst : X.stack = X.env :: X.outer) (hfm : X.env.frame = some X.env.locals) (hnd : X.N.Nodup) (hix : X.N[i]? = some n) (hkd : X.env.kindOf n = some .local) (hcl : Names X x c) (tko : Takes X Wo)
  (hbd : ∀ (W : WX) (pn : List (Addr × Obj)) (xe : Value → Shared → Prop),Takes (X.tr pn xe) W → PassesOwn (model X.prog X.w) X.A X.env xe → PSs (X.tr pn xe) body (tb W))
  (hsu : ∀ (a : Addr) (oe : Obj) (cls : Value) (d : Option Addr) (pn : List (Addr × Obj)),Zc cls d oe → (∃ vs,oe.data = .fields vs) → PSs (X.suite a ((a,oe) :: pn)) (b₀ :: suite) (ts a cls d)) :
  PS X (.Try body [.ExceptHandler (some (.Name x np)) (some n) (b₀ :: suite) pos'] [] [] pos) (fun D τ H=>tb (ZRp X.K c i ts Wo D) D τ H):=by
 refine ⟨fun pins s σ H D I h=>?_⟩
 have frs0 : X.A.frames = some (X.env :: X.outer):=I.ok.frames.trans (by rw [hst])
 have vis : Loc X.env.scope n:=.inl hkd
 refine wpAny_Try_except (wpAny_mono ((hbd (ZRp X.K c i ts Wo D) (X.pn ++ pins) (fun e s₁=>wpAny (model X.prog X.w) X.A (noteFrame e X.env) (fun _ s₂=>wpAny (model X.prog X.w) X.A (setFlight e none) (fun _ s₃=>wpAny (model X.prog X.w) X.A (handleBy e X.env [.ExceptHandler (some (.Name x np)) (some n) (b₀ :: suite) pos']) (SP X pins D) X.xe s₃) X.xe s₂) X.xe s₁)
  (fun u s' air=>?_) PassesOwn.looking).run [] s σ H D (I.toTry _) h) (fun f s1 q=>?_) fun _ _ q=>q)
 ·obtain ⟨a,B,sg,_,τ,G,cls,d,rfl,J',gr,up,sky,na,os,ag,b,mt,yes,no⟩:=air
  have J : Inv X pins τ G sg:=J'.ofTry I.ok
  show wpAny (model X.prog X.w) X.A (noteFrame (.ref a) X.env) _ _ _
  refine Sky.land Zc.steady frs0 hfm (by rw [← hst]; exact sky) fun g1 fl1 up1=>?_
  have J1 : Inv X pins τ G { s' with heap:=g1 }:=J.landed gr fl1.1 (up.trans up1) os ag
  obtain ⟨o1,w1,ho1,hz1,hd1⟩:=fl1.there
  have off : a ∉ frs (X.env :: X.outer):=fun hm=>by
   obtain ⟨_,o',e',hnf⟩:=fl1.2.2.1.mem hm
   have e' : g1.get? a = some o':=e'
   rw [ho1] at e'; cases e'; exact hnf _ hd1
  have offL : a ≠ X.env.locals:=fun z=>off (List.mem_filterMap.mpr ⟨X.env,List.mem_cons_self,by rw [hfm,z]⟩)
  have offF : a ∉ X.fs:=fun hm=>by
   obtain ⟨e,he,q⟩:=List.mem_filterMap.mp hm
   exact off (List.mem_filterMap.mpr ⟨e,List.mem_cons_of_mem _ he,q⟩)
  have bare : ∀ o,sg.heap.get? a ≠ some o:=fun o e=>by
   have z:=gr a o e (by rw [hst]; exact off)
   rw [fl1.2.1] at z; cases z
  have n0 : X.s_0.heap.get? a = none:=by
   cases z : X.s_0.heap.get? a with
   | none=>rfl
   | some o=>obtain ⟨o',e⟩:=J.base.there a o z (by rw [hx0]; exact fun z=>nomatch z); exact absurd e (bare o')
  have npin : ∀ p ∈ X.pn ++ pins,p.1 ≠ a:=fun p hp z=>bare p.2 (by rw [← z]; exact (J.pin p hp).1)
  have S1:=J1.suite ho1 hd1 na offL offF
  refine wpAny_handleBy_cons (codeAny_handlers_test ?_) (by intro q; cases q)
  have same : PySem.W.Looks (model X.prog X.w) g1 (typeOf (.ref a)) cls:=fun A Q E s k q=>wpAny_typeOf_ref (k _ _ ho1) (by rw [hz1.1]; exact q)
  have fits:=PySem.W.exm_one (M:=model X.prog X.w) J1.kIn same mt
  have asked : ∀ {Q : Value → Shared → Prop} {E : Value → Shared → Prop},Q c { s' with heap:=g1 } → wpAny (model X.prog X.w) (X.A.mark (some (.ref a))) (eval (.Name x np) X.env) Q E { s' with heap:=g1 }:=fun {Q E} q=>by
   rcases hcl with ⟨g,db,m | ⟨m,bv,nn⟩⟩
   ·exact ld_glob (X:=X.suite a ((a,o1) :: (X.pn ++ pins))) S1 g m q db
   ·exact ld_blt (X:=X.suite a ((a,o1) :: (X.pn ++ pins))) S1 g m bv q nn db
  refine asked (fits.here ?_)
  cases b with
  | true=>
   obtain ⟨C,rfl,yes⟩:=yes rfl
   refine codeAny_handlers_suite_as (HandSPX.lands_againZ fl1 fun g2 fl2 up2=>?_)
   have J2 : Inv X pins τ G { s' with heap:=g2 }:=J.landed gr fl2.1 ((up.trans up1).trans up2) os ag
   obtain ⟨o2,w2,ho2,hz2,hd2⟩:=fl2.there
   have S2:=J2.suite ho2 hd2 na offL offF
   refine store_ok (X:=X.suite a ((a,o2) :: (X.pn ++ pins))) (v:=.ref a) S2 hnd hix vis rfl (fun s3 S3=>?_) (.inr hkd)
   refine wpAny_mono ((hsu a o2 (.ref C) d (X.pn ++ pins) hz2 ⟨_,hd2⟩).run [] s3 _ G _ S3 (yes a na)) (fun f s4 hq=>?_) (fun _ _ z=>False.elim z)
   have shut : ∀ {υ : L2.St} {G' : Hp} {Q : Shared → Prop},Inv (X.suite a ((a,o2) :: (X.pn ++ pins))) [] υ G' s4 → (∀ s5,Inv X pins (υ.set i none) (upd G' a (exq a C d)) s5 → Q s5) →
     wpAny (model X.prog X.w) X.A (do bindName X.env n .none; unbindBehindTheSuite X.env n pos') (fun _ s5=>Q s5) X.xe s4:=fun {υ G' Q} S4 hq=>
    gone_ok (X:=X.suite a ((a,o2) :: (X.pn ++ pins))) S4 hnd hix hkd fun s5 S5=>hq s5 (by
     obtain ⟨p1,p2,_⟩:=S5.pin (a,o2) (by rw [List.append_nil]; exact List.mem_cons_self)
     exact Zam (S5.unsuite I.ok) p1 hz2.1 hz2.2 hd2 p2 n0 offL npin)
   cases f with
   | next=>obtain ⟨υ,G',S4,q⟩:=hq; exact shut S4 fun s5 J5=>⟨_,_,J5,q⟩
   | brk=>obtain ⟨υ,G',S4,q⟩:=hq; exact shut S4 fun s5 J5=>⟨_,_,J5,q⟩
   | cont=>obtain ⟨υ,G',S4,q⟩:=hq; exact shut S4 fun s5 J5=>⟨_,_,J5,q⟩
   | ret u=>obtain ⟨v,υ,G',S4,r,q⟩:=hq; exact shut S4 fun s5 J5=>⟨_,_,_,J5,r,q⟩
  | false=>
   show wpAny _ X.A (handleBy (.ref a) X.env []) _ _ _
   refine wpAny_handleBy_nil ?_
   obtain ⟨_,_,_,oe,vs,T,oT,ts',he,hz,hd,h1,hr⟩:=id fl1
   unfold PySem.passOn
   refine wpAny_bind (wpAny_field he hd h1 ?_)
   rw [if_neg (by simp)]
   have on : wpAny (model X.prog X.w) X.A (setFlight (.ref a) X.env.frame) (fun _ s4=>wpAny (model X.prog X.w) X.A (throw (.ref a) : Sem Flow) (SP X pins D) X.xe s4) X.xe { s' with heap:=g1 }:=by
    rw [hfm]
    exact HandSPX.setFlight_upZ fl1 fun g2 hh2 up2=>wpAny_throw (tko _ _ ⟨a,B,sg,pins,τ,G,cls,d,rfl,J,gr,(up.trans up1).trans up2,.inr (.inr (by rw [hst]; exact hh2)),na,os,ag,no rfl⟩)
   first | exact wpAny_bind (wpAny_pure (wpAny_bind on)) | exact wpAny_bind on
 ·cases f with
  | next=>obtain ⟨σ',H',J',r⟩:=q; exact wpAny_execs_nil ⟨σ',H',J'.ofTry I.ok,r⟩
  | brk=>obtain ⟨σ',H',J',r⟩:=q; exact ⟨σ',H',J'.ofTry I.ok,r⟩
  | cont=>obtain ⟨σ',H',J',r⟩:=q; exact ⟨σ',H',J'.ofTry I.ok,r⟩
  | ret u=>obtain ⟨v,σ',H',J',r,z⟩:=q; exact ⟨v,σ',H',J'.ofTry I.ok,r,z⟩
end
end Ev
end
section
namespace PL
open PySem PySem.Spec PyProof.Rows L2 Ev NdefX
structure FnX (P : Program) (w : World) (K : PySem.W.Frag) (mg : Str → Option Value) (base : Heap) (k : Nat) (f : Addr) (fd : FuncData) (ps : List Str) (sp : Sp) : Prop where
 count : ∀ vs H Q E,sp vs H Q E → vs.length = ps.length
 does : ∀ (A : Around) (outer : List PySem.Env) (s : Shared) (H : Hp) (args : Args) (us : List Value) (vs : List V) (Q : VK) (E : XK),
  A.guards = some [] → Room k A → Env0 P w K mg base A outer s H → BindsTo s fd args (ps.zip us) → Vals vs us → sp vs H Q E →
  codeAny (model P w) A (.call (.ref f) args) (CR (L2.CX P w) outer P w H s Q E) s
section
variable {P : Program} {w : World} {K : PySem.W.Frag} {mg : Str → Option Value} {base : Heap} {k : Nat} {f : Addr} {fd : FuncData} {ps : List Str} {sp sp' : Sp}
theorem FnX.of (F : FnG P w K mg base k f fd ps sp) : FnX P w K mg base k f fd ps sp:=
 ⟨F.count,fun A outer s H args us vs Q E h1 h2 h3 h4 h5 h6=>codeAny_mono (F.does A outer s H args us vs Q E h1 h2 h3 h4 h5 h6) fun r s' h=>match r,h with
  | .error _,h=>h.elim
  | .ok (.ret _),h=>h
  | .ok .next,h=>h.elim
  | .ok .brk,h=>h.elim
  | .ok .cont,h=>h.elim⟩
theorem ZJg {x qual : Str} {st : Stmt} {N : List Str} (T : Fun K x qual st f fd) (Sc : FnScope N ps (defScope st)) (hc : ∀ vs H Q E,sp vs H Q E → vs.length = ps.length)
  (hbody : ∀ (cdv : Value) (A : Around) (outer : List PySem.Env) (s : Shared) (H : Hp) (vs : List V) (Q : VK) (E : XK),A.guards = some [] → HOk P w H s.heap → Room k (A.deeper (envOfC qual (defScope st) s.heap.objs.size f cdv)) → sp vs H Q E →
   ∃ t,PSs (cxOf (L2.CX P w) P w K mg base N qual (defScope st) f cdv A outer s H E) (defBody st) t ∧ t { nx:=fun _ H'=>Q .non H',rt:=Q } (L2.start N vs) H) : FnX P w K mg base (k + 1) f fd ps sp:=by
 obtain ⟨oc,od,kV,doc,pm,an,cdv,ct,osl,rfl,lk,hcd⟩:=T.ex
 refine ⟨hc,fun A outer s H args us vs Q E hg room en bind rel want=>?_⟩
 have inK : K.In s.heap:=en.mod.kin.keeps fun b o e=>(en.bs b o e).1
 have noLim : s.heap.NoLimit:=en.mod.nolimit.keeps fun b o e=>(en.bs b o e).1
 have kinds : ∀ y ∈ ps.zip us,(defScope st).names.lookup y.1 = some .local ∨ ((defScope st).names.lookup y.1 = some .cell ∧ ((cellsFrom (s.heap.objs.size + 1) (defScope st).names []).lookup y.1).isSome = true):=by
  rintro ⟨n,v⟩ hy
  exact (Sc.par n (List.of_mem_zip hy).1).imp id fun q=>⟨q,PySem.W.cellsFrom_some _ _ _ (.inl q)⟩
 apply codeAny_call_function room.depth (inK _ _ lk) rfl Sc.co Sc.gen rfl (PySem.W.codeRec_of inK hcd)
 apply bind
 apply wpAny_newFunctionEnv_cells Sc.kind kinds
 rintro env rfl s1 born
 refine ⟨noLim.keeps born.toInCall.keep,codeAny_func ?_⟩
 obtain ⟨t,runs,ends⟩:=hbody cdv A outer s H vs Q E hg en.hok (room.deeper _) want
 have begin_:=inv_start (CX:=L2.CX P w) (E:=E) (N:=N) (qual:=qual) (f:=f) (cd:=cdv) Sc room.hd en (hc _ _ _ _ want) rel born
 refine wpAny_mono (runs.run [] s1 (L2.start N vs) H _ begin_ ends) (fun fl s' after=>?_) fun e s' bad=>bad
 match fl,after with
 | .ret u,⟨v,σ',H',J,rv,q⟩=>exact ⟨v,H',J.os,J.bare,J.base,J.hok,rv,q⟩
 | .next,⟨σ',H',J,q⟩=>exact ⟨.non,H',J.os,J.bare,J.base,J.hok,rfl,q⟩
 | .brk,⟨_,_,_,q⟩=>exact q.elim
 | .cont,⟨_,_,_,q⟩=>exact q.elim
end
section
variable {X : Cx} {k : Nat} {f D' C : Addr} {Fi : NF} {doc pm ctv : Value} {x : Str} {e : Expr} {te : TE} {p pos : Pos}
theorem ZXl {H1 H2 : Hp} {a : Addr} (n : H1 a = none) (s : Same H1 H2) : Same H1 (delH H2 a):=fun b o h=>by
 rw [delH_ne (fun z=>by rw [z,n] at h; cases h)]
 exact s b o h
theorem Zxn (U : InitF X.prog X.K X.mg f D' Fi doc pm ctv) (T : MkX X.K D' C f) (hb : Binds X.K (Fi.fd doc pm ctv) iP []) (hg : X.A.guards = some []) (hr : Room (k + 2) X.A) (hgl : Gl X x) (hm : X.mg x = some (.ref C)) (he : PE X e te)
  (hx0 : X.ex = []) (hh : HOk X.prog X.w X.H_0 X.s_0.heap) (hrs : Raises X (.ref C))
  (hs : starEach [e] X.env = (false,eval e X.env) :: starEach [] X.env:=by rfl) (hdb : (x == ("__debug__" : Str)) = false:=by decide) :
  PMk X (.Call (.Name x p) [e] [] pos) (fun σ H Q=>te σ H fun v H1=>Z8h X.K H1 v ∧ ∀ (dx : Addr) (H3 : Hp),Same H1 H3 → H1 dx = none → H3 dx = some (exd dx [(("value" : Str),v)]) → Q (.ref C) (some dx) H3):=by
 intro pins s σ H Q I h
 refine wpAny_mono ((ZIo U T hb hg hr hgl hm (Ztb he) hs hdb).run pins s σ H (fun u H2=>∃ (a dx : Addr) (v : V) (H1 : Hp),u = .ref a ∧ X.s_0.heap.get? a = none ∧ H1 a = none ∧ Same H1 H2 ∧ H1 dx = none ∧ H2 a = some (exo a C (some dx)) ∧ H2 dx = some (exd dx [(("value" : Str),v)]) ∧
  (∀ (dx : Addr) (H3 : Hp),Same H1 H3 → H1 dx = none → H3 dx = some (exd dx [(("value" : Str),v)]) → Q (.ref C) (some dx) H3)) I ⟨_,h,fun v H1 ⟨q1,q2⟩=>⟨q1,fun a H2 n0 n1 sm ⟨dx,e1,e2,e3⟩=>⟨a,dx,v,H1,rfl,n0 hx0,n1,sm,e1,e2,e3,q2⟩⟩⟩) (fun u s1 hu=>?_) fun _ _ z=>z
 obtain ⟨_,H2,I1,r1,a,dx,v,H1,rfl,n0,n1,sm,e1,e2,e3,q⟩:=hu
 obtain rfl : u = Value.ref a:=r1
 obtain ⟨t1,ho⟩:=exo_at I1.hok e2
 have f0 : X.H_0 a = none:=hh.gone n0
 obtain ⟨g,gs,ga,J⟩:=I1.untrack (a:=a) e2 (fr0_none f0) hx0
 have ne : dx ≠ a:=fun z=>by
  rw [z] at e3
  obtain ⟨_,⟨o,es,ep,q1,q2,_⟩,_⟩:=exd_at I1.hok e3
  rw [ho] at q1
  cases q1
  cases q2
 exact ⟨a,_,_,_,delH H2 a,.ref C,some dx,rfl,J,gs,ga,ho,⟨rfl,rfl⟩,rfl,rfl,delH_same,rfl,I1.bare,hrs,q dx (delH H2 a) (ZXl n1 sm) e1 (by rw [delH_ne ne]; exact e3)⟩
end
end PL
end
section
namespace Ev
open PySem PySem.Spec PyProof.Rows L2 NdefX LamX
abbrev lamQ (X : Cx) : Str:=X.env.qual ++ "<lambda>"
def LamH (H : Hp) (P : Addr) (ps : Array Value) (q : Str) (c' : Addr) (H1 : Hp) : Prop:=
 H1 = H ∨ ∃ qs : Array Value,H c' = none ∧ c' ≠ P ∧ TriplesOk qs.toList ∧ (∀ pos cv,codeAmong pos qs.toList = some cv → codeAmong pos ps.toList = some cv ∨ cv = .ref c') ∧ H1 = upd (upd H P (.tbl qs)) c' (CodeO c' q)
section
variable {X : Cx} {pins : List (Addr × Obj)} {σ : L2.St} {H : Hp} {s : Shared}
theorem Zcm {c P : Addr} {params : Arguments} {body : Expr} {scope : Scope} {pos : Pos} {E : Value → Shared → Prop} {Q : Value → Shared → Prop} {ps : Array Value} (I : Inv X pins σ H s) (TB : TabB X.base X.mg c P) (hcode : X.env.code = .ref c)
  (hP : H P = some (.tbl ps)) (ht : TriplesOk ps.toList) (ha : ∀ pos cv,codeAmong pos ps.toList = some cv → ∃ c',cv = .ref c' ∧ H c' = some (CodeO c' (lamQ X))) (hdef : defaultsOf params X.env = ([],[])) (hfree : ∀ y ∈ scope.names,y.2 = .free → ∃ c,X.env.cells.lookup y.1 = some c)
  (h : ∀ (f c' : Addr) (pm ctv : Value) (H1 : Hp) (s' : Shared),Inv X pins σ H1 s' → LamH H P ps (lamQ X) c' H1 →
   s'.heap.get? f = some (PySem.W.kla_obj "<lambda>" (lamQ X) params body scope (cloFrom X.env.cells scope.names []) pm c' ctv) → H1 f = none → f ∉ frs X.stack → H1 c' = some (CodeO c' (lamQ X)) → Q (.ref f) s') :
  wpAny (model X.prog X.w) X.A (eval (.Lambda params body scope pos) X.env) Q E s:=by
 have tbl:=I.hok P _ hP
 have tbl : s.heap.get? P = some { cls:=.none,data:=.fields ps }:=tbl
 have away : ∀ f,s.heap.objs.size ≤ f → f ∉ frs X.stack:=fun f hf z=>(List.mem_cons.mp (I.stkSub _ z)).elim (fun e=>absurd (Nat.lt_of_lt_of_le (e ▸ I.lt) hf) (Nat.lt_irrefl _)) (I.nofs hf)
 apply PySem.W.kla_eval hdef
 rcases hc : codeAmong pos ps.toList with _ | cv
 ·refine PySem.W.kla_makeFunction (mg:=X.mg) (c:=c) (P:=P) (ps:=ps) (closure_ok hfree) I.ok.glob (I.mod.glob.keeps I.bk) hcode (TB.code.keeps I.bk) tbl ht hc TB.gP (TB.bm.keeps I.bk) fun c' ctv g tk kp ge lt rec_ tb=>?_
  obtain ⟨_,oc,vs,t,ec,hoc,hd,hv⟩:=rec_
  cases ec
  have size : s.heap.objs.size ≤ g.objs.size:=Nat.le_trans ge (Nat.le_of_lt lt)
  have nC : H c' = none:=I.hok.fresh ge
  have nP : c' ≠ P:=fun z=>by rw [z,hP] at nC; cases nC
  have eqs : (ps ++ #[rawInt pos.line,rawInt pos.col,.ref c']).toList = ps.toList ++ [rawInt pos.line,rawInt pos.col,.ref c']:=by simp
  have J:=inv_table (t':=tk) (more:=#[rawInt pos.line,rawInt pos.col,.ref c']) (h':=g.push (PySem.W.kla_obj "<lambda>" (lamQ X) params body scope (cloFrom X.env.cells scope.names []) ((X.mg "__name__").getD .none) c' ctv)) I hP
   (fun b o hb e=>Heap.get?_push_of_some _ (kp b o hb e)) (Heap.get?_push_of_some _ tb) ge ⟨oc,vs,t,Heap.get?_push_of_some _ hoc,hd,hv⟩
  refine h g.objs.size c' ((X.mg "__name__").getD .none) ctv _ _ J (.inr ⟨_,nC,nP,by rw [eqs]; exact PySem.TriplesOk_snoc _ _ _ _ ht,fun pos cv q=>by rw [eqs] at q; exact among_app _ ht q,rfl⟩) (Heap.get?_push_size _ rfl) ?_ (away _ size) upd_same
  rw [upd_ne (Nat.ne_of_gt lt),upd_ne (Nat.ne_of_gt (Nat.lt_of_lt_of_le (Heap.lt_size tbl) size))]
  exact I.hok.fresh size
 ·obtain ⟨c',rfl,co⟩:=ha pos cv hc
  refine PySem.W.kla_makeFunctionHit (mg:=X.mg) (c:=c) (P:=P) (ps:=ps) (closure_ok hfree) I.ok.glob (I.mod.glob.keeps I.bk) hcode (TB.code.keeps I.bk) tbl ht hc (TB.bm.keeps I.bk) fun ctv g tk kp size=>?_
  exact h g.objs.size c' ((X.mg "__name__").getD .none) ctv H _ (I.kept (h':=g.push (PySem.W.kla_obj "<lambda>" (lamQ X) params body scope (cloFrom X.env.cells scope.names []) ((X.mg "__name__").getD .none) c' ctv)) fun b o e=>Heap.get?_push_of_some _ (kp b o e)) (.inl rfl) (Heap.get?_push_size _ rfl) (I.hok.fresh size) (away _ size) co
theorem ZHo {CXg : CXT} {Eg : XK} {Ng : List Str} {qg : Str} {sg : Scope} {g f c' : Addr} {cdg pm ctv : Value} {params : Arguments} {body : Expr} {scope : Scope} {k i : Nat} {a : Str} {pn : List (Addr × Obj)} {xe : Value → Shared → Prop} {W : WX} {t : XK → TE} {p1 p2 : Pos}
  (I : Inv X pins σ H s) (L : LamS X.env.scope scope) (hf : s.heap.get? f = some (PySem.W.kla_obj "<lambda>" (lamQ X) params body scope (cloFrom X.env.cells scope.names []) pm c' ctv)) (hfn : H f = none) (hfr : f ∉ frs X.stack)
  (hbind : bindArgs (PySem.W.kla_fn "<lambda>" (lamQ X) params body scope (cloFrom X.env.cells scope.names []) pm (.ref c') ctv) ⟨[],[]⟩ = pure []) (hg : X.A.guards = some [])
  (tk : Takes ((cxOf CXg X.prog X.w X.K X.mg X.base Ng qg sg g cdg X.A X.stack s H Eg).tr pn xe) W) (hr : Room (k + 1) (X.A.deeper (envOfC qg sg s.heap.objs.size g cdg)))
  (hbody : ∀ (A : Around) (outer : List PySem.Env) (s : Shared) (H : Hp) (E : XK),A.guards = some [] → HOk X.prog X.w H s.heap → Room k (A.deeper (lamEnv X scope s.heap.objs.size f c')) → PE (lamCx X A outer s H E scope f c') body (t E))
  (hN : Ng[i]? = some a) (hv : Vis sg a) (hd : (a == ("__debug__" : Str)) = false:=by decide) (hcd : (a == ("__classdict__" : Str)) = false:=by decide) :
  PE ((cxOf CXg X.prog X.w X.K X.mg X.base Ng qg sg g cdg X.A X.stack s H Eg).tr pn xe) (.Call (.Name a p1) [] [] p2)
   (fun σZ HZ Q=>σZ[i]? = some (some (.ref f)) ∧ HZ c' = some (CodeO c' (lamQ X)) ∧ t (fun cls d H'=>W cls d σZ H') σ HZ Q):=by
 refine ⟨fun pinsZ sZ σZ HZ Q IZ ⟨at_,co,want⟩=>?_⟩
 refine wpAny_Call_Name_kw (thn ((pe_var (pos:=p1) (i:=i) hN hv hd hcd).run pinsZ sZ σZ HZ (fun v H1=>v = .ref f ∧ H1 = HZ) IZ ⟨.ref f,at_,rfl,rfl⟩) fun u s1 ⟨v,H1,I1,r1,e1,e2⟩=>?_)
 subst e1 e2
 obtain rfl : u = Value.ref f:=r1
 have obj : s1.heap.get? f = some (PySem.W.kla_obj "<lambda>" (lamQ X) params body scope (cloFrom X.env.cells scope.names []) pm c' ctv):=I1.base.keep f _ hf hfn hfr (fun z=>nomatch (show f ∈ ([] : List Addr) from z))
 apply PySem.W.callWith_F0 ⟨_,_,_,_,obj⟩
 have un : Un (frs X.stack) [] H H1 s.heap s1.heap:=I1.base
 obtain ⟨⟨oc,vs,t',hoc,hdc,hvc⟩,_,_⟩:=I1.hok c' _ co
 have ran : codeAny (model X.prog X.w) (X.A.deeper (envOfC qg sg s.heap.objs.size g cdg)) (.call (.ref f) ⟨[],[]⟩) (CR (L2.CX X.prog X.w) (envOfC qg sg s.heap.objs.size g cdg :: X.stack) X.prog X.w H1 s1 Q fun cls d H'=>W cls d σZ H') s1:=by
  refine PySem.W.kla_callFunE hr.depth obj rfl L.co L.gen rfl ⟨c',oc,vs,t',rfl,hoc,hdc,hvc⟩ ?_
  rw [hbind]
  refine wpAny_pure (wpAny_newFunctionEnv (fun y hy=>(L.own y hy).2) (fun y hy=>absurd hy (by simp)) (fun h₁ hns born=>⟨I1.nolimit.fresh _ born,?_⟩) L.kind)
  show codeAny _ _ (.expr body (lamEnv X scope s1.heap.objs.size f c')) _ _
  have J : Inv (lamCx X (X.A.deeper (envOfC qg sg s.heap.objs.size g cdg)) (envOfC qg sg s.heap.objs.size g cdg :: X.stack) s1 H1 (fun cls d H'=>W cls d σZ H') scope f c') [] σ H1 { s1 with heap:=h₁,toks:=s1.toks + ([] : List (Str × Value)).length }:=
   lam_start2 I L I1.env0 hr.hd un hns fun b o e=>born.extBut b o (Nat.ne_of_lt (Heap.lt_size e)) (Heap.get?_push_of_some _ e)
  refine PySem.W.kla_codeExpr (wpAny_mono ((hbody (X.A.deeper (envOfC qg sg s.heap.objs.size g cdg)) _ s1 H1 _ hg I1.hok (hr.deeper _)).run [] _ _ H1 Q J want) (fun v s' ⟨w',H',J',rv,q⟩=>⟨w',H',J'.os,J'.bare,J'.base,J'.hok,rv,q⟩) fun _ _ q=>q)
 refine wpAny_call (codeAny_mono ran fun r s' hq=>?_)
 match r,hq with
 | .error e,hq=>exact tk e s' (XE.of_call I1 (fun cls d H' z=>z) hq)
 | .ok (.ret u),hq=>exact I1.after hq
 | .ok .next,hq=>exact hq.elim
 | .ok .brk,hq=>exact hq.elim
 | .ok .cont,hq=>exact hq.elim
end
def ZMn (ca ba lo x n : Str) (p0 p1 p2 p3 p4 p5 p6 p7 p8 p9 p10 p11 p12 p13 p14 p15 p16 p17 p18 p19 p20 p21 : Pos) (j1 j2 : Nat) (y1 y2 y3 : Nat) : List Stmt:=
 [.Assign [.Tuple [.Name ca p0,.Name ba p1] y1 p2] (.Tuple [.Constant .none j1 p3,.Constant .none j2 p4] y2 p5) p6,
  .Try [.Assign [.Name ba p7] (.Call (.Name lo p8) [] [] p9) p10] [.ExceptHandler (some (.Name x p11)) (some n) [.Assign [.Name ca p12] (.Name n p13) p14] p15] [] [] p16,
  .Return (some (.Tuple [.Name ca p17,.Name ba p18] y3 p19)) p20]
end Ev
end
section
namespace Ev
open PySem PySem.Spec PyProof.Rows L2 NdefX LamX
abbrev tN (en : Str) : List Str:=["_law_look", "_law_caught", "_law_back",en]
structure ToldF (K : PySem.W.Frag) (mg : Str → Option Value) (x : Str) (st : Stmt) (g : Addr) (fd : FuncData) (CS : Addr) (en : Str) : Prop where
 fn : Fun K x x st g fd
 sc : FnScope (tN en) ["_law_look"] (defScope st)
 look : (defScope st).names.lookup ("_law_look" : Str) = some .local
 caught : (defScope st).names.lookup ("_law_caught" : Str) = some .local
 back : (defScope st).names.lookup ("_law_back" : Str) = some .local
 error : (defScope st).names.lookup en = some .local
 edbg : (en == ("__debug__" : Str)) = false
 ecls : (en == ("__classdict__" : Str)) = false
 glob : (defScope st).names.lookup ("PressError" : Str) = some .globalImplicit
 cls : mg "PressError" = some (.ref CS)
 body : ∃ p0 p1 p2 p3 p4 p5 p6 p7 p8 p9 p10 p11 p12 p13 p14 p15 p16 p17 p18 p19 p20 p21 j1 j2 y1 y2 y3,defBody st = ZMn "_law_caught" "_law_back" "_law_look" "PressError" en p0 p1 p2 p3 p4 p5 p6 p7 p8 p9 p10 p11 p12 p13 p14 p15 p16 p17 p18 p19 p20 p21 j1 j2 y1 y2 y3 ∧
  ∀ (L g' : Addr) (cd : Value),swappedStores [.Tuple [.Name "_law_caught" p0,.Name "_law_back" p1] y1 p2] (.Tuple [.Constant .none j1 p3,.Constant .none j2 p4] y2 p5) (envOfC x (defScope st) L g' cd) = pure none ∧
   swapsWithSole [.Tuple [.Name "_law_caught" p0,.Name "_law_back" p1] y1 p2] (.Tuple [.Constant .none j1 p3,.Constant .none j2 p4] y2 p5) p6.line (envOfC x (defScope st) L g' cd) = pure false
def Zeq (K : PySem.W.Frag) (CS : Addr) (Q : VK) : XK:=fun cls d H'=>∃ C,cls = .ref C ∧ PySem.W.exmOne K (.ref C) (.ref CS) = some true ∧ ∀ a p,H' a = none → upd H' a (exq a C d) p = none → Q (.ref p) (upd (upd H' a (exq a C d)) p (.tup [.ref a,.non]))
def ZLp (K : PySem.W.Frag) (CS P : Addr) (q : Str) (t : XK → TE) : TE:=fun σ H Q=>∃ ps : Array Value,H P = some (.tbl ps) ∧ TriplesOk ps.toList ∧ (∀ pos cv,codeAmong pos ps.toList = some cv → ∃ c',cv = .ref c' ∧ H c' = some (CodeO c' q)) ∧
 ∀ c' H1 p0,LamH H P ps q c' H1 → H1 c' = some (CodeO c' q) → H1 p0 = none → t (Zeq K CS Q) σ (upd H1 p0 (.tup [.non,.non])) fun v H'=>∀ p,H' p = none → Q (.ref p) (upd H' p (.tup [.non,v]))
def Z1o (t : XK → TE) : Prop:=∀ (E E' : XK) σ H (Q Q' : VK),(∀ c d H,E c d H → E' c d H) → (∀ v H,Q v H → Q' v H) → t E σ H Q → t E' σ H Q'
section
variable {X : Cx} {k : Nat} {x : Str} {st : Stmt} {g c P CS : Addr} {fd : FuncData} {en : Str} {params : Arguments} {body : Expr} {scope : Scope} {t : XK → TE} {p lpos pos : Pos}
theorem ZKo (F : ToldF X.K X.mg x st g fd CS en) (hbs : Z1o t) (hgl : Gl X x) (hm : X.mg x = some (.ref g)) (hb : L2.Binds X.K fd ["_law_look"] []) (hg : X.A.guards = some []) (hr : Room (k + 2) X.A)
  (TB : TabB X.base X.mg c P) (hcode : X.env.code = .ref c) (L : LamS X.env.scope scope) (hdef : defaultsOf params X.env = ([],[]))
  (hbind : ∀ (q : Str) (cl : List (Str × Addr)) (pm cv ctv : Value),bindArgs (PySem.W.kla_fn "<lambda>" q params body scope cl pm cv ctv) ⟨[],[]⟩ = pure [])
  (hbody : ∀ (A : Around) (outer : List PySem.Env) (s : Shared) (H : Hp) (E : XK) (f c' : Addr),A.guards = some [] → HOk X.prog X.w H s.heap → Room k (A.deeper (lamEnv X scope s.heap.objs.size f c')) → PE (lamCx X A outer s H E scope f c') body (t E))
  (hdb : (x == ("__debug__" : Str)) = false:=by decide) :
  PE X (.Call (.Name x p) [.Lambda params body scope lpos] [] pos) (ZLp X.K CS P (lamQ X) t):=by
 refine ⟨fun pins s σ H Q I ⟨ps,h1,h2,h3,h⟩=>?_⟩
 refine wpAny_Call_Name_kw (ld_glob I hgl hm ?_ hdb)
 refine PySem.W.callWith_K (h₀:=X.base) I.ok.mod.kin F.fn.kp ?_ (by rfl) (by rfl)
 show wpAny _ _ (spliced ((false,eval (.Lambda params body scope lpos) X.env) :: backTo pos (starEach [] X.env))) _ _ s
 refine Calls.spliced_cons (Zcm I TB hcode h1 h2 h3 hdef (L.has I.ok) fun f c' pm' ctv H1 s' I1 lam hf hfn hfr hco=>?_)
 refine Calls.spliced_nil ⟨I1.kIn,?_⟩
 have want:=fun p0=>h c' H1 p0 lam hco
 obtain ⟨oc,od,kV,doc,pm,an,cdv,ct,osl,rfl,lk,hcd⟩:=F.fn.ex
 have rc : codeAny (model X.prog X.w) X.A (.call (.ref g) ⟨[.ref f],[]⟩) (CR CX0 X.stack X.prog X.w H1 s' Q E0) s':=by
  refine run_ofS (N:=tN en) (ps:=["_law_look"]) (us:=[.ref f]) (vs:=[.ref f]) lk hcd F.sc hr I1.env0 (hb s' [.ref f] I1.kIn rfl) (.cons rfl .nil) rfl fun hr'=>?_
  obtain ⟨p0,p1,p2,p3,p4,p5,p6,p7,p8,p9,p10,p11,p12,p13,p14,p15,p16,p17,p18,p19,p20,p21,j1,j2,y1,y2,y3,eb,hw⟩:=F.body
  rw [eb]
  refine ⟨_,pss_cons (ps_asg (pe_tup (pa_cons pe_non (pa_cons pe_non pa_nil))) (pg_tup rfl (pgs_cons (pg_name (i:=1) F.sc.nd rfl (.inl F.caught)) (pgs_cons (pg_name (i:=2) F.sc.nd rfl (.inl F.back)) pgs_nil))) (hw _ _ _).2 (hw _ _ _).1)
   (pss_cons (Zwk (i:=3) (c:=.ref CS) (Wo:=fun _ _ _ _=>False) (tb:=fun W D τ HZ=>τ[0]? = some (some (.ref f)) ∧ HZ c' = some (CodeO c' (lamQ X)) ∧ t (fun cls d H'=>W cls d τ H') σ HZ (fun v H'=>D.nx (τ.set 2 (some v)) H'))
    rfl rfl rfl F.sc.nd rfl F.error ⟨F.glob,by decide,.inl F.cls⟩ takes0 (fun W pn xe tk _=>?_)
    (fun a oe cls d pn _ _=>pss_one (ps_set (i:=1) F.sc.nd rfl (.inl F.caught) (pe_var (i:=3) rfl (.inl F.error) F.edbg F.ecls) (hf:=.inl rfl))))
   (pss_one (ps_ret (pe_tup (pa_cons (pe_var (i:=1) rfl (.inl F.caught)) (pa_cons (pe_var (i:=2) rfl (.inl F.back)) pa_nil)))))),?_⟩
  ·exact ⟨fun pz sz τ HZ D IZ ⟨a1,a2,a3⟩=>(pss_one (ps_set (i:=2) F.sc.nd rfl (.inl F.back) (ZHo (i:=0) (a:= "_law_look") I1 L hf hfn hfr (hbind _ _ _ _ _) hg tk hr' (fun A outer s H E hg' hh hr2=>hbody A outer s H E f c' hg' hh hr2) rfl (.inl F.look)) (hf:=.inl rfl))).run pz sz τ HZ D IZ ⟨a1,a2,a3⟩⟩
  ·refine ⟨by show 2 ≤ sizeLine; rw [sizeLine_eq]; omega,fun p0 hp0=>⟨p0,[.non,.non],rfl,SqT.of upd_same,rfl,.non,[.non],rfl,.non,[],rfl,rfl,rfl,?_,hbs _ _ _ _ _ _ (fun cls d H' q=>?_) (fun v H' q=>?_) (want p0 hp0)⟩⟩
   ·rw [upd_ne (fun z=>by rw [z,hp0] at hco; cases hco)]
    exact hco
   ·obtain ⟨C,rfl,e1,q⟩:=q
    refine ⟨true,e1,fun _=>⟨C,rfl,fun a na=>?_⟩,nofun⟩
    exact ⟨.ref a,rfl,.ref a,rfl,.non,rfl,by show 2 ≤ sizeLine; rw [sizeLine_eq]; omega,fun p hp=>q a p na hp⟩
   ·exact ⟨.non,rfl,v,rfl,by show 2 ≤ sizeLine; rw [sizeLine_eq]; omega,fun p hp=>q p hp⟩
 refine wpAny_call (codeAny_mono rc fun r s2 hq=>?_)
 match r,hq with
 | .error e,hq=>exact (show False from hq).elim
 | .ok (.ret u),hq=>exact I1.after hq
 | .ok .next,hq=>exact hq.elim
 | .ok .brk,hq=>exact hq.elim
 | .ok .cont,hq=>exact hq.elim
end
end Ev
end
section
namespace PL
open PySem PySem.Spec PyProof.Rows L2 Ev NdefX LamX
section
variable {K : PySem.W.Frag} {R : OR} {b : Bs} {G H : Hp} {ρ : List Addr} {σ : L2.St} {s : S}
theorem Cells.keepG {K : PySem.W.Frag} {R : OR} {G H H' : Hp} {ρ : List Addr} {cs : List (List D)} (c : Cells K R G ρ H cs) (ht : Tups G H') (hw : ∀ a,a ∈ ρ → H' a ≠ none ∧ (G a = none → (∀ ps,H a ≠ Option.some (HO.tbl ps)) → H' a = H a ∧ G a = none))
  (hb : ∀ P q,(P,q) ∈ R.tabs → G P = none ∧ TabG G H' P q) : Cells K R G ρ H' cs:=by
 refine ⟨ht,c.nd,c.cl,fun a ha=>(hw a ha).1,fun i a ds h1 h2 hd=>?_,fun i a cc es h1 h2=>?_,hb,fun i a ks us h1 h2=>?_,c.mf_⟩
 ·obtain ⟨q1,xs,q2,q3⟩:=c.at_ i a ds h1 h2 hd
  exact ⟨q1,xs,((hw a (List.mem_of_getElem? h1)).2 q1 (fun _ z=>by rw [q2] at z; cases z)).1.trans q2,q3⟩
 ·obtain ⟨q1,C,nms,dx,vs,q2,q3,q4,q5⟩:=c.ob_ i a cc es h1 h2
  exact ⟨q1,C,nms,dx,vs,q2,((hw a (List.mem_of_getElem? h1)).2 q1 (fun _ z=>by rw [q3] at z; cases z)).1.trans q3,q4,q5⟩
 ·obtain ⟨q1,w,xs,ws,q2,q3,q4⟩:=c.mp_ i a ks us h1 h2
  exact ⟨q1,w,xs,ws,q2,((hw a (List.mem_of_getElem? h1)).2 q1 (fun _ z=>by rw [q3] at z; cases z)).1.trans q3,q4⟩
theorem Rel.retab (r : Rel K R b G ρ σ H s) {P : Addr} {q : Str} {qs : Array Value} (hm : (P,q) ∈ R.tabs) (hu : ∀ q',(P,q') ∈ R.tabs → q' = q) (t1 : TriplesOk qs.toList)
  (t2 : ∀ (pos : Pos) (cv : Value),codeAmong pos qs.toList = some cv → ∃ c,cv = .ref c ∧ G c = some (CodeO c q)) :
  Rel K R b G ρ σ (upd H P (.tbl qs)) s ∧ Fr σ s.env G H ρ s.env G (upd H P (.tbl qs)) ρ:=by
 obtain ⟨w2,ps,eP,_⟩:=r.cells.tab P q hm
 have hno : ∀ c,Own s.env σ c → c ≠ P:=fun c h z=>r.ownT h ps (by rw [z]; exact eP)
 have f : Fr σ s.env G H ρ s.env G (upd H P (.tbl qs)) ρ:=⟨.refl,fun c o h n _ _ nt=>by rw [upd_ne (fun z=>by rw [z,eP] at h; exact nt ps (Option.some.inj h).symm)]; exact h,fun c h=>by
  by_cases z : c = P
  ·subst z; rw [upd_same]; exact nofun
  ·rw [upd_ne z]; exact h,fun c h=>.inl h,⟨[],by simp,fun _ h=>by cases h⟩,fun _ h=>h⟩
 refine ⟨⟨r.leOf f,fun c u h=>?_,r.cells.keepG (fun c u h ht=>?_) (fun c hc=>⟨f.there c (r.cells.th c hc),fun q nt=>⟨upd_ne fun z=>nt ps (by rw [z]; exact eP),q⟩⟩) (fun P' k h1=>?_),r.el,fun j x e=>?_,r.sep⟩,f⟩
 ·rw [upd_ne (fun z=>by rw [z,w2] at h; cases h)]
  exact r.sub c u h
 ·by_cases z : c = P
  ·subst z; rw [upd_same] at h; cases h; cases ht
  ·rw [upd_ne z] at h; exact r.cells.tups c u h ht
 ·obtain ⟨q1,q2⟩:=r.cells.tab P' k h1
  by_cases z : P' = P
  ·subst z
   have ek:=hu k h1
   subst ek
   exact ⟨q1,qs,upd_same,t1,t2⟩
  ·exact ⟨q1,q2.go .refl (upd_ne z)⟩
 ·obtain ⟨v,h1,h2⟩:=r.env j x e
  refine ⟨v,h1,?_⟩
  cases x with
  | d x=>exact h2
  | ol ds=>
   obtain ⟨c,xs,rfl,w⟩:=h2
   exact ⟨c,xs,rfl,w.1,w.2.1,w.2.2.1,by rw [upd_ne (hno c ⟨j,_,e,rfl,h1⟩)]; exact w.2.2.2.1,w.2.2.2.2⟩
  | od ks ds=>
   obtain ⟨c,xs,rfl,w⟩:=h2
   exact ⟨c,xs,rfl,w.1,w.2.1,w.2.2.1,by rw [upd_ne (hno c ⟨j,_,e,rfl,h1⟩)]; exact w.2.2.2.1,w.2.2.2.2⟩
theorem Rel.lam (hR : Znb R) (r : Rel K R b G ρ σ H s) {P c' : Addr} {q : Str} {ps : Array Value} {H1 : Hp} (hm : (P,q) ∈ R.tabs) (hu : ∀ q',(P,q') ∈ R.tabs → q' = q) (hP : H P = some (.tbl ps))
  (l : LamH H P ps q c' H1) : ∃ G1,Rel K R b G1 ρ σ H1 s ∧ Fr σ s.env G H ρ s.env G1 H1 ρ:=by
 rcases l with rfl | ⟨qs,n,ne,t1,t2,rfl⟩
 ·exact ⟨G,r,.refl⟩
 ·obtain ⟨r1,f1⟩:=r.new hR (CodeO c' q) n
  obtain ⟨_,ps',e1,t3,t4⟩:=r.cells.tab P q hm
  rw [hP] at e1
  cases e1
  have gn : G c' = none:=r.sub.free n
  obtain ⟨r2,f2⟩:=r1.retab hm hu t1 (fun pos cv hc=>by
   rcases t2 pos cv hc with z | z
   ·obtain ⟨c,e2,e3⟩:=t4 pos cv z
    exact ⟨c,e2,by rw [upd_ne (fun z=>by rw [z,gn] at e3; cases e3)]; exact e3⟩
   ·exact ⟨c',z,upd_same⟩)
  have e : upd (upd H P (.tbl qs)) c' (CodeO c' q) = upd (upd H c' (CodeO c' q)) P (.tbl qs):=by
   funext a
   by_cases z : a = c'
   ·subst z; rw [upd_same,upd_ne ne,upd_same]
   ·rw [upd_ne z]
    by_cases z2 : a = P
    ·subst z2; rw [upd_same,upd_same]
    ·rw [upd_ne z2,upd_ne z2,upd_ne z]
  rw [e]
  exact ⟨_,r2,f1.trans f2⟩
end
inductive RX where | ok (d : D) | ex (c : Nat) (d : D)
abbrev FE:=S → Option (RX × S)
inductive OutX where | o (x : Out) | ex (c : Nat) (d : D) (s : S)
abbrev FX:=S → Option OutX
section
variable (K : PySem.W.Frag) (R : OR)
def ExAt (G : Hp) (ρ : List Addr) (dx : Addr) (d : D) : Prop:=∃ v,G dx = some (exd dx [(("value" : Str),v)]) ∧ RD K R G ρ v d
def KX (W : WX) (b : Bs) (G : Hp) (ρ : List Addr) (Dd : Ends) : OutX → Prop
 | .o x=>KE K R b G ρ Dd x
 | .ex c d s'=>∀ C dx σ' G' ρ' H',R.exc c = some C → Rel K R b G' ρ' σ' H' s' → ZC G G' → ρ <+: ρ' → ExAt K R G' ρ' dx d → W (.ref C) (some dx) σ' H'
def KRX (W : WX) (b : Bs) (σ : L2.St) (e : Env) (G H : Hp) (ρ : List Addr) (s' : S) (Q : VK) : RX → Prop
 | .ok r=>KD K R b σ e G H ρ s' r Q
 | .ex c d=>∀ C dx G' ρ' H',R.exc c = some C → Rel K R b G' ρ' σ H' s' → Fr σ e G H ρ s'.env G' H' ρ' → ExAt K R G' ρ' dx d → W (.ref C) (some dx) σ H'
def tX (W : WX) (f : FE) : TE:=fun σ H Q=>∃ b G ρ s r s',Rel K R b G ρ σ H s ∧ f s = some (r,s') ∧ KRX K R W b σ s.env G H ρ s' Q r
end
section
variable {X : Cx} {R : OR} {W : WX} {e a c : Expr} {st : Stmt} {sts rest : List Stmt} {es : List Expr} {fa : FD} {fe : FE} {fl : FO} {ft : FT} {F F' : FX} {F0 : FS} {pos pos' : Pos}
theorem KX.later {K : PySem.W.Frag} {b : Bs} {G G1 : Hp} {ρ ρ1 : List Addr} {Dd : Ends} {o : OutX} (k : KX K R W b G ρ Dd o) (gg : ZC G G1) (p : ρ <+: ρ1) : KX K R W b G1 ρ1 Dd o:=by
 cases o with
 | o x=>exact KE.later k gg p
 | ex c d s'=>exact fun C dx σ' G' ρ' H' hc r g q=>k C dx σ' G' ρ' H' hc r (gg.trans g) (p.trans q)
theorem Z8o {k : Nat} {f : Addr} {fd : FuncData} {ps : List Str} {sp : Sp} {pins : List (Addr × Obj)} {σ : L2.St} {H : Hp} {s : Shared} {Q : VK} {us : List Value} {vs : List V} (D : FnX X.prog X.w X.K X.mg X.base k f fd ps sp) (tk : Takes X W) (hg : X.A.guards = some []) (room : Room k X.A)
  (hb : Binds X.K fd ps []) (I : Inv X pins σ H s) (rel : Vals vs us) (want : sp vs H Q (fun cls d H'=>W cls d σ H')) : wpAny (model X.prog X.w) X.A (call (.ref f) us) (EP X pins σ Q) X.xe s:=by
 have same : (us ++ []).length = ps.length:=by rw [List.append_nil,← rel.length]; exact D.count _ _ _ _ want
 have bound:=hb s us I.kIn same
 rw [List.append_nil] at bound
 apply wpAny_call
 refine codeAny_mono (D.does X.A X.stack s H ⟨us,[]⟩ us vs Q _ hg room I.env0 bound rel want) fun r s' got=>?_
 match r,got with
 | .error e,got=>exact tk e s' (XE.of_call I (fun cls d H' z=>z) got)
 | .ok (.ret u),ok=>exact I.after ok
 | .ok .next,bad=>exact bad.elim
 | .ok .brk,bad=>exact bad.elim
 | .ok .cont,bad=>exact bad.elim
theorem KRX.after {K : PySem.W.Frag} {b : Bs} {σ : L2.St} {e e1 : Env} {G H G1 H1 : Hp} {ρ ρ1 : List Addr} {s' : S} {Q : VK} {r : RX} (k : KRX K R W b σ e G H ρ s' Q r) (f : Fr σ e G H ρ e1 G1 H1 ρ1) : KRX K R W b σ e1 G1 H1 ρ1 s' Q r:=by
 cases r with
 | ok z=>exact fun v G2 ρ2 H2 r2 f2 d2=>k v G2 ρ2 H2 r2 (f.trans f2) d2
 | ex c d=>exact fun C dx G2 ρ2 H2 hc r2 f2 x2=>k C dx G2 ρ2 H2 hc r2 (f.trans f2) x2
end
end PL
end
section
namespace PL
open PySem PySem.Spec PyProof.Rows L2 Ev NdefX LamX
def outT : RX → D
 | .ok z=>.tup [.non,z]
 | .ex c d=>.tup [.err c d,.non]
def Zal (fb : FE) : FD:=fun s=>(fb s).map fun p=>(outT p.1,p.2)
section
variable {X : Cx} {R : OR} {e : Expr} {fb : FE} {CS P : Addr} {q : Str}
theorem ZXm {K : PySem.W.Frag} : Z1o (fun E=>tX K R (fun cls d _ H=>E cls d H) fb):=by
 rintro E E' σ H Q Q' hE hQ ⟨b,G,ρ,s,r,s',rl,e,k⟩
 refine ⟨b,G,ρ,s,r,s',rl,e,?_⟩
 cases r with
 | ok z=>exact fun v G2 ρ2 H2 r2 f2 d2=>hQ _ _ (k v G2 ρ2 H2 r2 f2 d2)
 | ex c d=>exact fun C dx G2 ρ2 H2 hc r2 f2 x2=>hE _ _ _ (k C dx G2 ρ2 H2 hc r2 f2 x2)
theorem ZEo (hR : Znb R) (hx : ∀ c C,R.exc c = some C → PySem.W.exmOne X.K (.ref C) (.ref CS) = some true) (hm : (P,q) ∈ R.tabs) (hu : ∀ q',(P,q') ∈ R.tabs → q' = q) (h : PE X e (ZLp X.K CS P q (fun E=>tX X.K R (fun cls d _ H=>E cls d H) fb))) : PE X e (tD X.K R (Zal fb)):=by
 refine pd_w h fun σ H Q ⟨b,G,ρ,s,r,s',rl,e,k⟩=>?_
 ·obtain ⟨⟨z,s1⟩,e1,e⟩:=Zm e
  cases e
  obtain ⟨_,ps,h1,h2,h3⟩:=rl.cells.tab P q hm
  refine ⟨ps,h1,h2,fun pos cv hc=>?_,fun c' H1 p0 l hco hp0=>?_⟩
  ·obtain ⟨c,e2,e3⟩:=h3 pos cv hc
   exact ⟨c,e2,rl.sub _ _ e3⟩
  ·obtain ⟨G1,r1,f1⟩:=rl.lam hR hm hu h1 l
   obtain ⟨r1,f0⟩:=r1.new hR (.tup [.non,.non]) hp0
   have f1:=f1.trans f0
   refine ⟨b,_,ρ,s,z,s1,r1,e1,?_⟩
   cases z with
   | ok z=>
    intro v G2 ρ2 H2 r2 f2 d2 p hp
    obtain ⟨r3,f3⟩:=r2.new hR (.tup [.non,v]) hp
    exact k _ _ _ _ r3 ((f1.trans f2).trans f3) (.tup (SqT.of upd_same) (.cons .non (.cons (d2.mono hR f3.gg (List.prefix_refl _)) .nil)))
   | ex c d=>
    intro C dx G2 ρ2 H2 hc r2 f2 ⟨v,e3,d3⟩
    refine ⟨C,rfl,hx c C hc,fun x p hx hp=>?_⟩
    obtain ⟨r3,f3⟩:=r2.new hR (exq x C (some dx)) hx
    obtain ⟨r4,f4⟩:=r3.new hR (.tup [.ref x,.non]) hp
    have gx : G2 x = none:=r2.sub.free hx
    have ne : dx ≠ x:=fun z=>by rw [z,gx] at e3; cases e3
    have er : Z7h (upd G2 x (exq x C (some dx))) x C v:=⟨dx,.inr upd_same,by rw [upd_ne ne]; exact e3⟩
    have d4 : RD X.K R (upd G2 x (exq x C (some dx))) ρ2 (.ref x) (.err c d):=.err hc er (d3.mono hR f3.gg (List.prefix_refl _))
    exact k _ _ _ _ r4 (((f1.trans f2).trans f3).trans f4) (.tup (SqT.of upd_same) (.cons (d4.mono hR f4.gg (List.prefix_refl _)) (.cons .non .nil)))
theorem Zsn {k : Nat} {x : Str} {st : Stmt} {g c : Addr} {fd : FuncData} {en : Str} {params : Arguments} {body : Expr} {scope : Scope} {p lpos pos : Pos} (hR : Znb R) (hx : ∀ c C,R.exc c = some C → PySem.W.exmOne X.K (.ref C) (.ref CS) = some true) (hmem : (P,lamQ X) ∈ R.tabs) (hu : ∀ q',(P,q') ∈ R.tabs → q' = lamQ X)
  (F : ToldF X.K X.mg x st g fd CS en) (hgl : Gl X x) (hm : X.mg x = some (.ref g)) (hb : L2.Binds X.K fd ["_law_look"] []) (hg : X.A.guards = some []) (hr : Room (k + 2) X.A)
  (TB : TabB X.base X.mg c P) (hcode : X.env.code = .ref c) (L : LamS X.env.scope scope) (hdef : defaultsOf params X.env = ([],[]))
  (hbind : ∀ (q : Str) (cl : List (Str × Addr)) (pm cv ctv : Value),bindArgs (PySem.W.kla_fn "<lambda>" q params body scope cl pm cv ctv) ⟨[],[]⟩ = pure [])
  (hbody : ∀ (A : Around) (outer : List PySem.Env) (s : Shared) (H : Hp) (E : XK) (f c' : Addr),A.guards = some [] → HOk X.prog X.w H s.heap → Room k (A.deeper (lamEnv X scope s.heap.objs.size f c')) →
   PE (lamCx X A outer s H E scope f c') body (tX X.K R (fun cls d _ H=>E cls d H) fb))
  (hdb : (x == ("__debug__" : Str)) = false:=by decide) :
  PE X (.Call (.Name x p) [.Lambda params body scope lpos] [] pos) (tD X.K R (Zal fb)):=
 ZEo hR hx hmem hu (ZKo F ZXm hgl hm hb hg hr TB hcode L hdef hbind hbody hdb)
end
structure FunC (K : PySem.W.Frag) (x qual : Str) (st : Stmt) (f : Addr) (fd : FuncData) (c : Addr) : Prop where
 ex : ∃ (oc : Value) (od : Option Addr) (kV doc pm : Value) (an : Option Addr) (ct : Value) (osl : Array (Option Value)),
  fd = PySem.W.fnOf x qual (defArgs st) (defBody st) (defScope st) .none kV doc pm an (.ref c) ct ∧ K.lookup f = some ⟨oc,od,.func fd,osl⟩ ∧ PySem.W.codeIn K (.ref c) qual = true
 kp : PySem.W.keepIn K (.ref f) = true
section
variable {P : Program} {w : World} {K : PySem.W.Frag} {mg : Str → Option Value} {base : Heap} {R : OR}
theorem Zko {x qual : Str} {st : Stmt} {f c : Addr} {fd : FuncData} {N ps : List Str} {k m n : Nat} {F : FS} (T : FunC K x qual st f fd c) (Sc : FnScope N ps (defScope st)) (hm : ps.length = m) (hn : N.length = n)
  (hbody : ∀ (A : Around) (outer : List PySem.Env) (s : Shared) (H : Hp) (E : XK),A.guards = some [] → Room k (A.deeper (envOfC qual (defScope st) s.heap.objs.size f (.ref c))) → PSs (cxOf CX0 P w K mg base N qual (defScope st) f (.ref c) A outer s H E).nox (defBody st) (sS K R F)) :
  FnG P w K mg base (k + 1) f fd ps (spD K R m (runF m n F)):=by
 obtain ⟨oc,od,kV,doc,pm,an,ct,osl,rfl,lk,hcd⟩:=T.ex
 subst hm hn
 refine ⟨fun vs H Q E ⟨G,ρ,ds,cs,r,cs',h1,_,_,h2,_⟩=>by rw [h2.len,h1],fun A outer s H args us vs Q E hg room en bind rel ⟨G,ρ,ds,cs,r,cs',h0,h1,h2,h3,e,k⟩=>?_⟩
 refine codeAny_mono (run_ofS (CX:=CX0) (N:=N) lk hcd Sc room en bind rel (by rw [h3.len,h0]) fun hr'=>⟨_,(hbody A outer s H E hg hr').nox,?_⟩) fun r s' z=>z
 unfold runF at e
 rw [if_pos h0] at e
 obtain ⟨o,e1,e⟩:=Ze e
 refine ⟨⟨G,H,ρ⟩,G,ρ,_,o,ZAg h1 h2 h3,e1,?_⟩
 cases o with
 | rt z s1=>cases e; exact fun v σ' G' ρ' H' r1 d1=>k v G' ρ' H' r1.le r1.sub r1.cells d1
 | nx s1=>cases e; exact fun σ' G' ρ' H' r1 _ _=>k .non G' ρ' H' r1.le r1.sub r1.cells .non
 | bk s1=>cases e
 | ct s1=>cases e
 | ro z s1=>cases e
end
end PL
end
section
namespace PL
open PySem PySem.Spec PyProof.Rows L2 Ev LamX
theorem ZMm {P : Program} {w : World} {K : PySem.W.Frag} {mg mb : Str → Option Value} {k : Nat} {fa a cT pT : Addr} {fd : FuncData} {x : Str} {sp : Sp} {t : Shared} {vs : List Value} {ns : List Int}
  (inK : K.In t.heap) (main : t.heap.Ns mainGlobals mg) (blt : t.heap.Ns builtinsNs mb) (blts : ∀ x : Str,x ≠ "__name__" → mb x = bootBuiltins x) (noLim : t.heap.NoLimit) (noGens : t.gens = #[])
  (tabT : t.heap.get? pT = some { cls:=.none,data:=.fields #[] }) (tabK : K.lookup pT = none) (codeT : PySem.W.CodeHd t.heap cT pT)
  (bmain : ∃ (bm : Addr) (ob : Obj),mg "__builtins__" = some (.ref bm) ∧ bm ≠ builtinsNs ∧ t.heap.get? bm = some ob ∧ ob.cls = .type "module" ∧ ob.dict = some builtinsNs ∧ ob.data = .plain)
  (at_ : t.heap.get? a = some { cls:=.type "list",data:=.seq vs.toArray }) (inns : IntsAre vs ns) (few : ns.length ≤ sizeLine) (room : Room k callerA)
  (F : ∀ base : Heap,K.In base → base.Ns mainGlobals mg → TabB base mg cT pT → FnG P w K mg base k fa fd [x] sp) (bind : ∀ (s : Shared) (u : Value),BindsTo s fd ⟨[u],[]⟩ [(x,u)])
  (want : ∀ H : Hp,(∀ b,H b = none ∨ H b = some (.tbl #[]) ∨ ∃ o xs,H b = some (.frz o (.lst xs))) → H pT = some (.tbl #[]) → SqL K H a (ns.map V.int) → sp [.ref a] H (fun v _=>v = .bl true) fun _ _ _=>False) :
  codeAny (model P w) callerA (.call (.ref fa) ⟨[.ref a],[]⟩) (fun r s'=>r = .ok (.ret (.bool true)) ∧ OldK t.heap s'.heap ∧ s'.os = t.os ∧ AllBare s'.gens) t:=by
 have rel:=vals_ints inns
 have size:=inns.length
 have neT : a ≠ pT:=fun z=>by
  rw [z,tabT] at at_
  have z' : Data.fields #[] = Data.seq vs.toArray _:=congrArg Obj.data (Option.some.inj at_)
  cases z'
 obtain ⟨H,only,hT,seq,good,own⟩ : ∃ H : Hp,(∀ b,H b = none ∨ (b = pT ∧ H b = some (.tbl #[])) ∨ ∃ o xs,H b = some (.frz o (.lst xs))) ∧ H pT = some (.tbl #[]) ∧ SqL K H a (ns.map V.int) ∧ HOk P w H t.heap ∧ ∀ b,H b ≠ none → b = pT ∨ b = a ∧ K.lookup a = none:=by
  cases q : K.lookup a with
  | some o=>
   have same:=inK a o q
   rw [at_] at same
   cases same
   refine ⟨fun b=>if b = pT then some (.tbl #[]) else none,fun b=>?_,if_pos rfl,.inr ⟨_,vs.toArray,_,q,rfl,rfl,rfl,by rw [List.size_toArray,size]; exact few,by simpa using rel⟩,fun b u z=>?_,fun b z=>?_⟩
   ·by_cases h : b = pT
    ·exact .inr (.inl ⟨h,if_pos h⟩)
    ·exact .inl (if_neg h)
   ·by_cases h : b = pT
    ·cases (if_pos h).symm.trans z
     rw [h]
     exact tabT
    ·cases (if_neg h).symm.trans z
   ·by_cases h : b = pT
    ·exact .inl h
    ·exact absurd (if_neg h) z
  | none=>
   refine ⟨fun b=>if b = pT then some (.tbl #[]) else if b = a then some (.frz { cls:=.type "list",data:=.seq vs.toArray } (.lst (ns.map V.int))) else none,fun b=>?_,if_pos rfl,.inl (.inr ⟨{ cls:=.type "list",data:=.seq vs.toArray },(if_neg neT).trans (if_pos rfl)⟩),fun b u z=>?_,fun b z=>?_⟩
   ·by_cases h : b = pT
    ·exact .inr (.inl ⟨h,if_pos h⟩)
    ·by_cases h2 : b = a
     ·exact .inr (.inr ⟨_,_,(if_neg h).trans (if_pos h2)⟩)
     ·exact .inl ((if_neg h).trans (if_neg h2))
   ·by_cases h : b = pT
    ·cases (if_pos h).symm.trans z
     rw [h]
     exact tabT
    ·have z:=(if_neg h).symm.trans z
     by_cases h2 : b = a
     ·subst h2
      cases (if_pos rfl).symm.trans z
      exact ⟨at_,by rw [List.length_map]; exact few,vs,_,rel,at_⟩
     ·cases (if_neg h2).symm.trans z
   ·by_cases h : b = pT
    ·exact .inl h
    ·by_cases h2 : b = a
     ·exact .inr ⟨h2,rfl⟩
     ·exact absurd ((if_neg h).trans (if_neg h2)) z
 have hidden : ∀ {b : Addr} {o : Obj},t.heap.get? b = some o → (b ≠ a ∨ K.lookup a ≠ none) → b ≠ pT → (hidT t.heap H).get? b = some o:=fun {b o} e h h2=>hidT_get e (by
  cases q : H b with
  | none=>rfl
  | some u=>
   rcases own b (by rw [q]; exact nofun) with z | ⟨e1,e2⟩
   ·exact absurd z h2
   ·rcases h with h | h
    ·exact absurd e1 h
    ·exact absurd e2 h)
 have notSeq : ∀ {b : Addr} {o : Obj},t.heap.get? b = some o → (∀ ws n,o.data ≠ .seq ws n) → b ≠ a:=fun {b o} e h z=>by
  rw [z,at_] at e
  cases e
  exact h _ _ rfl
 have notTab : ∀ {b : Addr} {o : Obj},t.heap.get? b = some o → o.data ≠ .fields #[] → b ≠ pT:=fun {b o} e h z=>by
  rw [z,tabT] at e
  cases e
  exact h rfl
 have space : ∀ {b : Addr} {m : Str → Option Value},t.heap.Ns b m → (hidT t.heap H).Ns b m:=fun {b m} ⟨o,es,ep,e,d,r⟩=>
  ⟨o,es,ep,hidden e (.inl (notSeq e fun ws n z=>by rw [d] at z; cases z)) (notTab e fun z=>by rw [d] at z; cases z),d,r⟩
 have inB : K.In (hidT t.heap H):=fun b o e=>hidden (inK b o e) (by
  by_cases h : b = a
  ·subst h
   exact .inr (by rw [e]; exact nofun)
  ·exact .inl h) fun z=>by rw [z,tabK] at e; cases e
 have modB : Mod K mg (hidT t.heap H):=by
  obtain ⟨mc,h1,h2⟩:=noLim
  exact ⟨inB,space main,⟨mb,space blt,blts⟩,⟨mc,space h1,h2⟩⟩
 have TB : TabB (hidT t.heap H) mg cT pT:=by
  refine ⟨?_,?_,fun z=>?_⟩
  ·obtain ⟨o,us,file,tf,flags,tg,inF,text,tt,e1,r1,r2,r3,r4,r5,r6,r7,r8,hne⟩:=codeT
   refine ⟨o,us,file,tf,flags,tg,inF,text,tt,hidden e1 (.inl (notSeq e1 fun ws n z=>by rw [r2] at z; cases z)) (notTab e1 fun z=>?_),r1,r2,r3,r4,r5,r6,r7,r8,hne⟩
   rw [r2] at z
   cases z
   simp at r3
  ·obtain ⟨bm,ob,b1,b2,b3,b4,b5,b6⟩:=bmain
   have nG : bm ≠ mainGlobals:=fun q=>by
    obtain ⟨o,es,ep,e,hd,_⟩:=main
    rw [q,e] at b3
    cases b3
    rw [hd] at b6
    cases b6
   have nP : bm ≠ pT:=notTab b3 fun z=>by rw [b6] at z; cases z
   exact ⟨bm,ob,b1,b2,nG,nP,hidden b3 (.inl (notSeq b3 fun ws n z=>by rw [b6] at z; cases z)) nP,b4,b5,b6⟩
  ·obtain ⟨o,es,ep,e,hd,_⟩:=main
   rw [z,tabT] at e
   cases e
   cases hd
 have en : Env0 P w K mg (hidT t.heap H) callerA [] t H:=
  ⟨rfl,modB,fun b o e=>of_hidT e,Nat.le_of_eq (hidT_size _ _),trivial,fun b hb=>absurd (show b ∈ ([] : List Addr) from hb) (by simp),good,.of_eq noGens⟩
 refine codeAny_mono ((F _ inB (space main) TB).does callerA [] t H ⟨[.ref a],[]⟩ [.ref a] [.ref a] _ _ rfl room en (bind t (.ref a)) (.cons rfl .nil) (want H (fun b=>(only b).imp id fun h=>h.imp (fun z=>z.2) id) hT seq)) fun r s' got=>?_
 match r,got with
 | .error _,bad=>exact bad.elim
 | .ok .next,bad=>exact bad.elim
 | .ok .brk,bad=>exact bad.elim
 | .ok .cont,bad=>exact bad.elim
 | .ok (.ret u),⟨v,H',os,bare,un,good',r',q⟩=>
  obtain rfl : v = .bl true:=q
  obtain rfl : u = Value.bool true:=r'
  obtain ⟨more,z⟩:=un.tbls pT #[] hT
  have grown : s'.heap.get? pT = some { cls:=.none,data:=.fields (#[] ++ more) }:=good' pT _ z
  rw [Array.empty_append] at grown
  have key : ∀ b o,b ≠ pT → t.heap.get? b = some o → s'.heap.get? b = some o:=fun b o nb e=>by
   rcases only b with z | ⟨z,_⟩ | ⟨ob,xs,z⟩
   ·exact un.keep b o e z (by intro h; cases h) (by intro h; cases h)
   ·exact absurd z nb
   ·obtain ⟨e1,_⟩:=good b _ z
    obtain ⟨e2,_⟩:=good' b _ (un.frzs b ob _ z)
    rw [e] at e1
    cases e1
    exact e2
  refine ⟨rfl,⟨fun b o e=>?_,fun b o e=>?_⟩,os,bare⟩
  ·by_cases hb : b = pT
   ·rw [hb] at e ⊢
    rw [tabT] at e
    cases e
    exact .inr (.inl ⟨(codeT.tab tabT).isCodeTable,rfl,#[],more,rfl,by rw [Array.empty_append]; exact grown⟩)
   ·exact .inl (key b o hb e)
  ·by_cases hb : b = pT
   ·rw [hb]
    exact ⟨_,grown⟩
   ·exact ⟨o,key b o hb e⟩
end PL
end
section
namespace PL
open PySem PySem.Spec PyProof.Rows L2 Ev NdefX
def Z2n {α : Type} (C : Addr) (fs : α → List (Str × V)) (sp : Sp) (W : WX) (ta : TE) (t : TA) : TE:=fun σ H Q=>ta σ H fun x H1=>∃ a o,x = .ref a ∧ AtO C fs H1 a o ∧ t σ H1 fun vs H2=>sp (x :: vs) H2 Q fun cls d H'=>W cls d σ H'
section
variable {X : Cx} {W : WX} {α : Type} {fs : α → List (Str × V)} {k : Nat} {f C : Addr} {fd : FuncData} {ps : List Str} {sp : Sp} {m : Str} {apos pos : Pos} {o a b e : Expr} {es : List Expr} {ta tb : TE} {t : TA}
theorem Zgb {pl : Sem Bool} (hl : ∀ o,(fs o).lookup m = none) (he : PE X o ta) (c : Cls X.K C) (hm : Meth X.K C m f) (D : FnX X.prog X.w X.K X.mg X.base k f fd ps sp) (tk : Takes X W) (hg : X.A.guards = some []) (hr : Room k X.A) (hb : Binds X.K fd ps []) (ha : PA X (e :: es) t)
  (hst : starEach (e :: es) X.env = (false,eval e X.env) :: starEach es X.env:=by rfl) (hpl : (backTo pos (starEach es X.env)).any (·.1) = false:=by rfl)
  (ht : eval (.Call (.Attribute o m apos) (e :: es) [] pos) X.env = (do
   let ov ← eval o X.env
   standAt apos.atName
   let (f,first) ← holding [ov] (getMethod ov m pl)
   callWith pos f first (backTo pos (starEach (e :: es) X.env)) (backToKw pos (keywordEach [] X.env))):=by rfl) :
  PE X (.Call (.Attribute o m apos) (e :: es) [] pos) (Z2n C fs sp W ta t):=by
 refine ⟨fun pins s σ H Q I h=>?_⟩
 refine PySem.W.methodCall_KW (pl:=pl) (thn (he.run pins s σ H _ I h) fun u s1 ⟨x,H1,I1,rx,x0,o0,ex,⟨dx,ea⟩,q⟩=>?_) ht
 subst ex
 obtain rfl : u = Value.ref x0:=rx
 refine getmeth_ok I1 ea c hm (hl o0) ?_
 refine PySem.W.callWith_K (first:=[.ref x0]) (h₀:=X.base) I.ok.mod.kin hm.kp (thn (ha.run pos pins s1 σ H1 _ I1 q) fun us s2 ⟨vs,H2,I2,r,q2⟩=>⟨I2.kIn,?_⟩) hst hpl
 exact Z8o (us:=.ref x0 :: us) (vs:=.ref x0 :: vs) D tk hg hr hb I2 (.cons rfl r) q2
end
end PL
namespace Ev
open PySem PySem.Spec PyProof.Rows L2 NdefX
class OkPr (P : Program) : Prop where
 file : ((P.main.file : Str) == ("/claim/cut.py" : Str)) = true
 top : (P.main.scope.names.lookup ("super" : Str)).isSome = false
structure TxtN (names : List Str) (K : PySem.W.Frag) (mg : Str → Option Value) where
 f : Addr
 D : Addr
 Fi : NF
 doc : Value
 pm : Value
 ctv : Value
 U : ∀ P : Program,OkPr P → InitF P K mg f D Fi doc pm ctv
 b : L2.Binds K (Fi.fd doc pm ctv) iP []
 C : Nat → Addr
 made : ∀ j,j < names.length → MkX K D (C j) f ∧ ExcC K (C j) ∧ XfC K (C j)
 is : ∀ i j,i < names.length → j < names.length → PySem.W.kitOne K (.ref (C i)) (.ref (C j)) = some (i == j || j + 1 == names.length)
 by_ : ∀ i,i < names.length → PySem.W.exmOne K (.ref (C i)) (.ref D) = some true
 tup : ∀ i,i < names.length → PySem.W.kitOne K (.ref (C i)) (.type "tuple") = some false
 g : ∀ (j : Nat) (x : Str),names[j]? = some x → mg x = some (.ref (C j))
 last : ∀ x,names.getLast? = some x → mg x = some (.ref D)
def errsN (K : PySem.W.Frag) (D f : Addr) (Cs : List Addr) : Bool:=Cs.all (fun C=>errB K D C f) && ((List.range Cs.length).all fun i=>(List.range Cs.length).all fun j=>decide (PySem.W.kitOne K (.ref (Cs.getD i 0)) (.ref (Cs.getD j 0)) = some (i == j || j + 1 == Cs.length))) &&
 Cs.all (fun C=>decide (PySem.W.exmOne K (.ref C) (.ref D) = some true)) && Cs.all (fun C=>decide (PySem.W.kitOne K (.ref C) (.type "tuple") = some false))
theorem errsN_ok {K : PySem.W.Frag} {D f : Addr} {Cs : List Addr} (h : errsN K D f Cs = true) : (∀ j,j < Cs.length → MkX K D (Cs.getD j 0) f ∧ ExcC K (Cs.getD j 0) ∧ XfC K (Cs.getD j 0)) ∧
  (∀ i j,i < Cs.length → j < Cs.length → PySem.W.kitOne K (.ref (Cs.getD i 0)) (.ref (Cs.getD j 0)) = some (i == j || j + 1 == Cs.length)) ∧ (∀ i,i < Cs.length → PySem.W.exmOne K (.ref (Cs.getD i 0)) (.ref D) = some true) ∧ ∀ i,i < Cs.length → PySem.W.kitOne K (.ref (Cs.getD i 0)) (.type "tuple") = some false:=by
 unfold errsN at h
 simp only [Bool.and_eq_true,List.all_eq_true,List.mem_range,decide_eq_true_eq] at h
 obtain ⟨⟨⟨h1,h2⟩,h3⟩,h4⟩:=h
 exact ⟨fun j hj=>Zco (h1 _ (ZSi hj)),fun i j hi hj=>h2 i hi j hj,fun i hi=>h3 _ (ZSi hi),fun i hi=>h4 _ (ZSi hi)⟩
end Ev
namespace PL
open PySem PySem.Spec PyProof.Rows L2 Ev NdefX
section
variable {names : List Str} {K : PySem.W.Frag} {mg : Str → Option Value}
def excN (T : TxtN names K mg) : Nat → Option Addr:=fun c=>if c < names.length then some (T.C c) else none
theorem ZMi {T : TxtN names K mg} {c : Nat} {C : Addr} (h : excN T c = some C) : c < names.length ∧ C = T.C c:=by
 unfold excN at h
 split at h
 ·rename_i q
  exact ⟨q,(Option.some.inj h).symm⟩
 ·cases h
theorem Zeo (T : TxtN names K mg) {c : Nat} (h : c < names.length) : excN T c = some (T.C c):=if_pos h
def ZRn (n j c : Nat) : Bool:=c == j || j + 1 == n
theorem isxN (T : TxtN names K mg) {R : OR} (hR : R.exc = excN T) {j : Nat} (hj : j < names.length) : ∀ c C,R.exc c = some C → ExcC K C ∧ PySem.W.kitOne K (.ref C) (.ref (T.C j)) = some (ZRn names.length j c):=fun c C h=>by
 rw [hR] at h
 obtain ⟨h1,rfl⟩:=ZMi h
 exact ⟨(T.made c h1).2.1,T.is c j h1 hj⟩
theorem valN (T : TxtN names K mg) {R : OR} (hR : R.exc = excN T) : ∀ c C,R.exc c = some C → XfC K C ∧ PySem.W.findIn K (.ref C) "value" = some none:=fun c C h=>by
 rw [hR] at h
 obtain ⟨h1,rfl⟩:=ZMi h
 exact ⟨(T.made c h1).2.2,(T.made c h1).1.no⟩
theorem byN (T : TxtN names K mg) {R : OR} (hR : R.exc = excN T) : ∀ c C,R.exc c = some C → PySem.W.exmOne K (.ref C) (.ref T.D) = some true:=fun c C h=>by
 rw [hR] at h
 obtain ⟨h1,rfl⟩:=ZMi h
 exact T.by_ c h1
theorem ZYf {X : Cx} {C : Addr} (h : OexC X.K C) : Raises X (.ref C):=raises_own h.exC h.tyC
end
end PL
end
section
namespace Ev
open PySem PySem.Spec PyProof.Rows L2 NdefX
structure OwnCmp (K : PySem.W.Frag) (C : Addr) (f : Addr) : Prop where
 at_ : PySem.W.findIn K (.ref C) "__eq__" = some (some (.ref f))
 fn : PySem.W.isFn K (.ref f) = true
theorem OwnCmp.of {K : PySem.W.Frag} {C f : Addr} (h : OwnSp K C "__eq__" f) : OwnCmp K C f:=⟨h.at_,by unfold PySem.W.isFn; rw [h.ty]; simp⟩
end Ev
end
section
namespace PL
open PySem PySem.Spec PyProof.Rows L2 Ev
section
variable {e e1 e2 e' : Env} {c c1 c2 c' : List (List D)} {s s1 s2 : S} {fa fb fe fd : FD} {fl fo : FO} {ft fu : FT} {F G : FS} {d x y z r : D} {ds es ds0 : List D} {i j l n : Nat} {o : Option Out}
theorem ZUn {α : Type} {f r : α → D} {keep : α → Bool} {vs : List Nat} {g : D → S → Option S} : ∀ (l : List α),(∀ x ∈ l,∃ s1,g (f x) ⟨ZXg e vs,c⟩ = some s1 ∧ ft s1 = some (keep x,s1) ∧ fe s1 = some (r x,s1) ∧ s1.cs = c ∧ ZSd e s1.env vs = e) →
  lcGo e vs g ft fe (l.map f) ⟨e,c⟩ = some ((l.filter keep).map r,⟨e,c⟩)
 | [],_=>rfl
 | x :: l,h=>by
  obtain ⟨s1,h1,h2,h3,h4,h5⟩:=h x List.mem_cons_self
  have ih:=ZUn l (fun y hy=>h y (List.mem_cons_of_mem _ hy))
  cases k : keep x with
  | true=>
   rw [k] at h2
   rw [List.filter_cons_of_pos k,List.map_cons,List.map_cons]
   exact Zem h1 h2 h3 (by rw [h5,h4]; exact ih)
  | false=>
   rw [k] at h2
   rw [List.filter_cons_of_neg (by rw [k]; exact Bool.false_ne_true),List.map_cons]
   exact Zfm h1 h2 (by rw [h5,h4]; exact ih)
theorem Zlp {α : Type} {f r : α → D} {vs : List Nat} {g : D → S → Option S} (l : List α) (h : ∀ x ∈ l,∃ s1,g (f x) ⟨ZXg e vs,c⟩ = some s1 ∧ fe s1 = some (r x,s1) ∧ s1.cs = c ∧ ZSd e s1.env vs = e) :
  lcGo e vs g fYes fe (l.map f) ⟨e,c⟩ = some (l.map r,⟨e,c⟩):=by
 have q:=ZUn (keep:=fun _=>true) (ft:=fYes) l (fun x hx=>by obtain ⟨s1,h1,h2,h3,h4⟩:=h x hx; exact ⟨s1,h1,rfl,h2,h3,h4⟩)
 rw [List.filter_eq_self.2 (fun _ _=>rfl)] at q
 exact q
end
end PL
end
section
namespace PL
open PySem PySem.Spec PyProof.Rows L2 Ev
section
variable {X : Cx} {R : OR} {e : Expr} {fa : FD} {k : Nat} {p1 p2 p3 pos : Pos}
def Zdn : D → Option D
 | .lst ds=>some (.lst ds.reverse)
 | _=>none
theorem ZDo (hR : Znb R) (he : PE X e (tD X.K R fa)) : PE X (.Subscript e (.Slice none none (some (.UnaryOp .USub (.Constant (.int 1) k p1) p2)) p3) pos) (tD X.K R (fUn Zdn fa)):=by
 refine pd_w (pe_revL he) fun σ H Q ⟨b,G,ρ,s,r,s',rl,e,k⟩=>?_
 obtain ⟨⟨x,s1⟩,e1,e⟩:=Ze e
 obtain ⟨z,e3,e⟩:=Zm e
 cases e
 refine ⟨b,G,ρ,s,x,s1,rl,e1,fun v G1 ρ1 H1 r1 f1 d1=>?_⟩
 have d1 : RD X.K R G1 ρ1 v x:=d1
 have e3 : Zdn x = some r:=e3
 cases d1 with
 | lst h1 t1=>
  cases e3
  refine ⟨_,_,rfl,SqL.of (r1.sub _ _ h1),fun p hp=>?_⟩
  obtain ⟨r2,f2⟩:=r1.new hR (.lst _) hp
  exact k _ _ _ _ r2 (f1.trans f2) (.lst upd_same (t1.rev.mono hR (r1.gnew hp) (List.prefix_refl _)))
 | _=>cases e3
end
end PL
end
section
namespace PL
open PySem PySem.Spec PyProof.Rows L2 Ev
structure OkD (c e : Nat) (d : D) : Prop where
 ex : ∃ q,d.py = some q ∧ ShowD c e q
theorem OkD.more {c c' e e' : Nat} {d : D} (h : OkD c e d) (hc : c ≤ c') (he : e ≤ e') : OkD c' e' d:=by
 obtain ⟨q,h1,h2⟩:=h
 exact ⟨q,h1,h2.more hc he⟩
theorem OkD.parts {c e : Nat} : ∀ {ds : List D},(∀ d ∈ ds,OkD c e d) → ∃ qs,pys ds = some qs ∧ qs.length = ds.length ∧ ∀ q ∈ qs,ShowD c e q
 | [],_=>⟨[],rfl,rfl,nofun⟩
 | d :: r,h=>by
  obtain ⟨q,h1,h2⟩:=h d List.mem_cons_self
  obtain ⟨qs,h3,h4,h5⟩:=OkD.parts fun x hx=>h x (List.mem_cons_of_mem _ hx)
  refine ⟨q :: qs,?_,by rw [List.length_cons,List.length_cons,h4],fun p hp=>?_⟩
  ·show (match d.py,pys r with | some p,some q=>some (p :: q) | _,_=>none) = _
   rw [h1,h3]
  ·rcases List.mem_cons.1 hp with rfl | hp
   ·exact h2
   ·exact h5 p hp
theorem OkD.tup {c e n : Nat} {ds : List D} (h : ∀ d ∈ ds,OkD c e d) (hl : ds.length ≤ n) : OkD ((c + 1) * n) (e + 1) (.tup ds):=by
 obtain ⟨qs,h1,h2,h3⟩:=OkD.parts h
 refine ⟨.tuple qs,?_,ShowD.tup h3 (by omega)⟩
 show (pys ds).map _ = _
 rw [h1]
 rfl
theorem OkD.lst {c e n : Nat} {ds : List D} (h : ∀ d ∈ ds,OkD c e d) (hl : ds.length ≤ n) : OkD ((c + 1) * n) (e + 1) (.lst ds):=by
 obtain ⟨qs,h1,h2,h3⟩:=OkD.parts h
 refine ⟨.list qs,?_,ShowD.list h3 (by omega)⟩
 show (pys ds).map _ = _
 rw [h1]
 rfl
theorem Zjl {ds : List D} {p : PyData} (h : (D.tup ds).py = some p) : ∃ qs,pys ds = some qs ∧ p = .tuple qs:=by
 obtain ⟨qs,e1,rfl⟩:=Option.map_eq_some_iff.mp h
 exact ⟨qs,e1,rfl⟩
theorem OkD.len {c e : Nat} {ds : List D} (h : OkD c e (.tup ds)) : ds.length ≤ c:=by
 obtain ⟨q,h1,h2⟩:=h
 obtain ⟨qs,e1,rfl⟩:=Zjl h1
 have b : ∀ qs : List PyData,qs.length ≤ PyData.bulkAll qs:=fun qs=>by
  induction qs with
  | nil=>exact Nat.zero_le _
  | cons q r ih=>show r.length + 1 ≤ q.bulk + 1 + PyData.bulkAll r; omega
 have l : ∀ (ds : List D) (qs : List PyData),pys ds = some qs → qs.length = ds.length:=by
  intro ds
  induction ds with
  | nil=>intro qs z; cases z; rfl
  | cons d r ih=>
   intro qs z
   have z : (match d.py,pys r with | some p,some q=>some (p :: q) | _,_=>none) = some qs:=z
   split at z
   ·rename_i p q z1 z2
    cases z
    rw [List.length_cons,List.length_cons,ih q z2]
   ·cases z
 have:=b qs
 have:=l ds qs e1
 have:=h2.bulk
 simp only [PyData.bulk] at this
 omega
section
variable {e : Env} {c : List (List D)} {ft : FT} {fe : FD} {vs : List Nat} {g : D → S → Option S}
theorem Zpo {r : D → D} (l : List D) (h : ∀ x ∈ l,∃ s1,g x ⟨ZXg e vs,c⟩ = some s1 ∧ fe s1 = some (r x,s1) ∧ s1.cs = c ∧ ZSd e s1.env vs = e) : lcGo e vs g fYes fe l ⟨e,c⟩ = some (l.map r,⟨e,c⟩):=by
 have q:=Zlp (f:=fun x : D=>x) l h
 rw [List.map_id'] at q
 exact q
end
end PL
end
section
namespace PL
open PySem PySem.Spec PyProof.Rows L2 Ev NdefX
section
variable {X : Cx} {W : WX} {α : Type} {fs : α → List (Str × V)} {k : Nat} {f C : Addr} {fd : FuncData} {ps : List Str} {sp : Sp} {m : Str} {apos pos : Pos} {o : Expr} {ta : TE}
theorem Zxm {pl : Sem Bool} (hl : ∀ o,(fs o).lookup m = none) (he : PE X o ta) (c : Cls X.K C) (hm : Meth X.K C m f) (D : FnX X.prog X.w X.K X.mg X.base k f fd ps sp) (tk : Takes X W) (hg : X.A.guards = some []) (hr : Room k X.A) (hb : Binds X.K fd ps [])
  (ht : eval (.Call (.Attribute o m apos) [] [] pos) X.env = (do
   let ov ← eval o X.env
   standAt apos.atName
   let (f,first) ← holding [ov] (getMethod ov m pl)
   callWith pos f first (backTo pos (starEach [] X.env)) (backToKw pos (keywordEach [] X.env))):=by rfl) :
  PE X (.Call (.Attribute o m apos) [] [] pos) (Z2n C fs sp W ta tNil):=by
 refine ⟨fun pins s σ H Q I h=>PySem.W.methodCall_KW (pl:=pl) (thn (he.run pins s σ H _ I h) fun u s1 ⟨x,H1,I1,rx,x0,o0,ex,⟨dx,ea⟩,q⟩=>?_) ht⟩
 subst ex
 obtain rfl : u = Value.ref x0:=rx
 refine getmeth_ok I1 ea c hm (hl o0) ?_
 exact PySem.W.callWith_K0 I1.kIn hm.kp (Z8o (us:=[.ref x0]) (vs:=[.ref x0]) D tk hg hr hb I1 (.cons rfl .nil) q)
end
end PL
end
section
namespace PL
open PySem PySem.Spec PyProof.Rows L2 Ev NdefX
def ZHh : D → D → Option D
 | .lst ds,.str w=>(ZIf D.isStr ds).bind fun ss=>(ss.findIdx? fun x=>decide (x = w)).map fun j=>.int (j : Nat)
 | _,_=>none
section
variable {X : Cx} {R : OR} {e : Expr} {fa fb : FD} {st h0 : Stmt} {body : List Stmt} {hs : List Handler} {F : FS} {pos : Pos}
theorem Zum (h : PE X e (tBM X.K "list" (rIndex X.K) (tD X.K R fa) (tCons (tD X.K R fb) tNil))) (hR : Znb R) : PE X e (tD X.K R (fBin ZHh fa fb)):=by
 refine pd_w h fun σ H Q ⟨b,G,ρ,s,r,s',rl,e,k⟩=>?_
 obtain ⟨⟨x,s1⟩,e1,e⟩:=Ze e
 obtain ⟨⟨y,s2⟩,e2,e⟩:=Ze e
 obtain ⟨z,e3,e⟩:=Zm e
 cases e
 dsimp only at e3
 refine ⟨b,G,ρ,s,x,s1,rl,e1,fun v G1 ρ1 H1 r1 f1 d1=>?_⟩
 unfold ZHh at e3
 split at e3
 ·rename_i w _ _
  obtain ⟨ss,e4,e5⟩:=Ze e3
  obtain ⟨j,e6,e7⟩:=Zm e5
  cases e7
  have e4:=Zyd e4
  subst e4
  obtain ⟨jl,j1,j2⟩:=List.findIdx?_eq_some_iff_getElem.mp e6
  have d1':=d1
  cases d1 with
  | lst h1 t1=>
   refine ⟨.inl ⟨rfl,_,SqL.of (r1.sub _ _ h1)⟩,b,G1,ρ1,s1,_,s2,r1,e2,fun u G2 ρ2 H2 r2 f2 d2=>?_⟩
   have d3:=d1'.mono hR f2.gg f2.prf
   cases d2
   cases d3 with
   | lst h3 t3=>
    have q:=t3.allStr
    subst q
    refine ⟨_,_,.str w,j,.str w,rfl,rfl,SqL.of (r2.sub _ _ h3),rfl,?_,?_,?_,fun m z' hm hz'=>?_,k _ G2 ρ2 H2 r2 (f1.trans f2) (.int j)⟩
    ·rw [List.all_map]
     exact List.all_eq_true.2 fun _ _=>rfl
    ·rw [List.getElem?_map,List.getElem?_eq_getElem jl,of_decide_eq_true j1]
     rfl
    ·show (w == w) = true
     exact beq_self_eq_true w
    ·rw [List.getElem?_map] at hz'
     have ml : m < ss.length:=by omega
     rw [List.getElem?_eq_getElem ml] at hz'
     cases hz'
     show (ss[m] == w) = false
     have ne:=j2 m hm
     exact beq_eq_false_iff_ne.2 fun q=>ne (decide_eq_true q)
 ·cases e3
end
end PL
end
section
namespace PL
open PySem PySem.Spec PyProof.Rows L2 Ev
section
variable (K : PySem.W.Frag) (H : Hp)
mutual
inductive KeyV : V → NestedKey → Prop
 | non : KeyV .non .none
 | bl (b : Bool) : KeyV (.bl b) (.num (if b = true then 1 else 0))
 | int (i : Int) : KeyV (.int i) (.num i)
 | str (x : Str) : KeyV (.str x) (.text x)
 | tup {a : Addr} {xs : List V} {ks : List NestedKey} : SqT K H a xs → KeyVs xs ks → KeyV (.ref a) (.tup ks)
inductive KeyVs : List V → List NestedKey → Prop
 | nil : KeyVs [] []
 | cons {v : V} {k : NestedKey} {vs : List V} {ks : List NestedKey} : KeyV v k → KeyVs vs ks → KeyVs (v :: vs) (k :: ks)
end
end
section
variable {X : Cx} {pins : List (Addr × Obj)} {σ : L2.St} {H : Hp} {s : Shared}
mutual
theorem KeyV.is (I : Inv X pins σ H s) : ∀ {v : V} {k : NestedKey},KeyV X.K H v k → ∀ {u : Value},RelV v u → NestedIs s.heap k u
 | _,_,.non,u,r=>by obtain rfl : u = Value.none:=r; exact .none
 | _,_,.bl b,u,r=>by obtain rfl : u = Value.bool b:=r; exact .bool rfl
 | _,_,.int i,u,r=>by obtain ⟨t,rfl⟩ : ∃ t,u = Value.int i t:=r; exact .int i t
 | _,_,.str x,u,r=>by obtain ⟨t,rfl⟩ : ∃ t,u = Value.str x t:=r; exact .text x t
 | _,_,.tup h t,u,r=>by
  obtain rfl : u = Value.ref _:=r
  obtain ⟨its,rv,⟨o,ho,hc,n,hd⟩,_⟩:=I.tuple h
  exact .tup ho hc hd (by simpa using KeyVs.all I t rv)
theorem KeyVs.all (I : Inv X pins σ H s) : ∀ {vs : List V} {ks : List NestedKey},KeyVs X.K H vs ks → ∀ {us : List Value},Vals vs us → NestedAll s.heap ks us
 | _,_,.nil,us,r=>by cases r; exact .nil
 | _,_,.cons h t,us,r=>by
  cases r with
  | cons r1 r2=>exact .cons (KeyV.is I h r1) (KeyVs.all I t r2)
end
mutual
theorem KeyV.same {K : PySem.W.Frag} {H H' : Hp} (hs : Same H H') : ∀ {v : V} {k : NestedKey},KeyV K H v k → KeyV K H' v k
 | _,_,.non=>.non
 | _,_,.bl b=>.bl b
 | _,_,.int i=>.int i
 | _,_,.str x=>.str x
 | _,_,.tup h t=>.tup (hs.sqt h) (KeyVs.same hs t)
theorem KeyVs.same {K : PySem.W.Frag} {H H' : Hp} (hs : Same H H') : ∀ {vs : List V} {ks : List NestedKey},KeyVs K H vs ks → KeyVs K H' vs ks
 | _,_,.nil=>.nil
 | _,_,.cons h t=>.cons (KeyV.same hs h) (KeyVs.same hs t)
end
mutual
theorem RD.key {K : PySem.W.Frag} {R : OR} {G : Hp} {ρ : List Addr} : ∀ {v : V} {d : D},RD K R G ρ v d → ∀ {k : NestedKey},d.nk = some k → KeyV K G v k
 | _,_,.non,k,e=>by cases e; exact .non
 | _,_,.bl b,k,e=>by cases e; exact .bl b
 | _,_,.int i,k,e=>by cases e; exact .int i
 | _,_,.str x,k,e=>by cases e; exact .str x
 | _,_,.tup h t,k,e=>by
  obtain ⟨ks,e1,rfl⟩:=Option.map_eq_some_iff.mp e
  exact .tup h (RDs.keys t e1)
 | _,_,.lst _ _,_,e=>by cases e
 | _,_,.dic _ _ _,_,e=>by cases e
 | _,_,.brd _,_,e=>by cases e
 | _,_,.cell _,_,e=>by cases e
 | _,_,.scr _,_,e=>by cases e
 | _,_,.obj _ _ _ _,_,e=>by cases e
 | _,_,.err _ _ _,_,e=>by cases e
theorem RDs.keys {K : PySem.W.Frag} {R : OR} {G : Hp} {ρ : List Addr} : ∀ {vs : List V} {ds : List D},RDs K R G ρ vs ds → ∀ {ks : List NestedKey},nks ds = some ks → KeyVs K G vs ks
 | _,_,.nil,ks,e=>by cases e; exact .nil
 | _,_,.cons (d:=d) (ds:=ds) h t,ks,e=>by
  have e : (match d.nk,nks ds with | some p,some q=>some (p :: q) | _,_=>none) = some ks:=e
  cases e1 : d.nk with
  | none=>rw [e1] at e; cases e
  | some p=>
   cases e2 : nks ds with
   | none=>rw [e1,e2] at e; cases e
   | some q=>
    rw [e1,e2] at e
    cases e
    exact .cons (RD.key h e1) (RDs.keys t e2)
end
end
structure MapV (K : PySem.W.Frag) (w : World) (H : Hp) (a : Addr) (xs : List (NestedKey × Addr × Value)) (ws : List V) : Prop where
 there : H a = some (.ext (MapB w a xs)) ∨ ∃ od,H a = some (.frz od (.ext (MapB w a xs)))
 keys : ∀ x ∈ xs,KeyV K H (.ref x.2.1) x.1
 vals : Vals ws (xs.map fun x=>x.2.2)
section
variable {X : Cx} {pins : List (Addr × Obj)} {σ : L2.St} {H : Hp} {s : Shared} {a : Addr} {xs : List (NestedKey × Addr × Value)} {ws : List V}
theorem MapV.obj (I : Inv X pins σ H s) (m : MapV X.K X.w H a xs ws) : ObjOk X.prog X.w H s.heap a (.ext (MapB X.w a xs)):=by
 rcases m.there with h | ⟨od,h⟩
 ·exact I.hok a _ h
 ·exact (I.hok a _ h).2
theorem MapV.dict (I : Inv X pins σ H s) (m : MapV X.K X.w H a xs ws) : (a == sysModules) = false ∧ xs.length ≤ 100000 ∧ s.heap.DictOfH (nestedKind X.prog X.w) a xs:=by
 obtain ⟨⟨h1,h2,o,es,ep,h3,h4,h5,h6,h7,h8⟩,_⟩:=m.obj I
 exact ⟨h1,h2,o,es,ep,h3,h4,h5,h6,fun x hx=>⟨(m.keys x hx).is I rfl,h8 x hx⟩,h7⟩
end
end PL
end
section
namespace PL
open PySem PySem.Spec PyProof.Rows L2 Ev
def Zro (cs : List (List D)) (i : Nat) : Option (List D × List D):=match cs[i]? with
 | some [.dic [] [.dic [] [.lst ks,.lst us]]]=>some (ks,us)
 | some [.dic [] [.dic [] [.lst ks,.lst us,.non]]]=>some (ks,us)
 | _=>none
theorem Zpn {cs : List (List D)} {i : Nat} {ks us : List D} (h : Zro cs i = some (ks,us)) : cs[i]? = some (mapL ks us) ∨ cs[i]? = some (mapF ks us):=by
 unfold Zro at h
 split at h
 ·rename_i e
  cases h
  exact .inl e
 ·rename_i e
  cases h
  exact .inr e
 ·cases h
section
variable {K : PySem.W.Frag} {R : OR} {b : Bs} {G H : Hp} {ρ : List Addr} {σ : L2.St} {s : S}
theorem Z3i (gh : Same G H) : ∀ {ks : List D} {xs : List (NestedKey × Addr × Value)},RDs K R G ρ (xs.map fun x=>V.ref x.2.1) ks → ks.map D.nk = (xs.map fun x=>some x.1) → ∀ x ∈ xs,KeyV K H (.ref x.2.1) x.1
 | _,[],_,_,_,h=>by cases h
 | [],x :: xs,_,h,_,_=>by cases h
 | d :: ks,x :: xs,r,h,y,hy=>by
  rw [List.map_cons,List.map_cons] at h
  injection h with h1 h2
  rw [List.map_cons] at r
  cases r with
  | cons r1 r2=>
   rcases List.mem_cons.1 hy with rfl | hy
   ·exact (r1.key h1).same gh
   ·exact Z3i gh r2 h2 y hy
theorem Rel.map (r : Rel K R b G ρ σ H s) {i : Nat} {a : Addr} {ks us : List D} {w : World} (hw : R.wld = some w) (ea : ρ[i]? = some a) (em : Zro s.cs i = some (ks,us)) :
  ∃ xs ws,MapV K w H a xs ws ∧ RDs K R G ρ (xs.map fun x=>V.ref x.2.1) ks ∧ RDs K R G ρ ws us ∧ ks.map D.nk = xs.map fun x=>some x.1:=by
 rcases Zpn em with em | em
 ·obtain ⟨_,w',xs,ws,h1,h2,h3,h4,h5,h6⟩:=r.cells.mp_ i a ks us ea em
  rw [hw] at h1
  cases h1
  exact ⟨xs,ws,⟨.inl h2,Z3i r.sub h3 h6,h5⟩,h3,h4,h6⟩
 ·obtain ⟨od,w',xs,ws,h1,h2,h3,h4,h5,h6⟩:=r.cells.mf_ i a ks us ea em
  rw [hw] at h1
  cases h1
  exact ⟨xs,ws,⟨.inr ⟨od,r.sub _ _ h2⟩,Z3i r.sub h3 h6,h5⟩,h3,h4,h6⟩
theorem RDs.snoc {v : V} {d : D} : ∀ {vs : List V} {ds : List D},RDs K R G ρ vs ds → RD K R G ρ v d → RDs K R G ρ (vs ++ [v]) (ds ++ [d])
 | _,_,.nil,h=>.cons h .nil
 | _,_,.cons a t,h=>.cons a (RDs.snoc t h)
end
end PL
end
section
namespace PL
open PySem PySem.Spec PyProof.Rows L2 Ev NdefX LamX
def ZIp (C : Addr) (sp : Sp) (W : WX) (t : TA) : TE:=fun σ H Q=>t σ H fun vs H1=>∀ y dy,H1 y = none → H1 dy = none → dy ≠ y → sp (.ref y :: vs) (upd (upd H1 dy (.own y)) y (.ins C dy [])) (fun v H2=>v = .non ∧ Q (.ref y) H2) fun cls d H'=>W cls d σ H'
section
variable {X : Cx} {R : OR} {W : WX} {e : Expr} {es : List Expr} {fl : FO} {C f : Addr} {nms : List Str} {k c : Nat} {fd : FuncData} {ps : List Str} {sp : Sp}
theorem ZYp {pins : List (Addr × Obj)} {σ : L2.St} {H : Hp} {s : Shared} {Q : VK} {us : List Value} {vs : List V} (M : Mk X.K C f) (D : FnX X.prog X.w X.K X.mg X.base k f fd ps sp) (tk : Takes X W) (hg : X.A.guards = some []) (room : Room (k + 1) X.A)
  (hb : Binds X.K fd ps []) (I : Inv X pins σ H s) (rel : Vals vs us)
  (want : ∀ y dy,H y = none → H dy = none → dy ≠ y → sp (.ref y :: vs) (upd (upd H dy (.own y)) y (.ins C dy [])) (fun v H2=>v = .non ∧ Q (.ref y) H2) fun cls d H'=>W cls d σ H') :
  wpAny (model X.prog X.w) X.A (call (.ref C) us) (EP X pins σ Q) X.xe s:=by
 have w0:=want (s.heap.objs.size + 1) s.heap.objs.size (I.hok.fresh (Nat.le_succ _)) (I.hok.fresh (Nat.le_refl _)) (Nat.ne_of_lt (Nat.lt_succ_self _))
 have I2:=Inv.made (C:=C) I
 have r2 : Vals (V.ref (s.heap.objs.size + 1) :: vs) (Value.ref (s.heap.objs.size + 1) :: us):=.cons rfl rel
 have hl : ((Value.ref (s.heap.objs.size + 1) :: us) ++ []).length = ps.length:=by
  rw [List.append_nil,← r2.length]
  exact D.count _ _ _ _ w0
 have bound:=hb _ (Value.ref (s.heap.objs.size + 1) :: us) I2.kIn hl
 rw [List.append_nil] at bound
 refine wpAny_call (make_map (f:=f) I.kIn M.makes M.init (beq_iff_eq.mp M.fn) (codeAny_mono (D.does _ X.stack _ _ ⟨Value.ref (s.heap.objs.size + 1) :: us,[]⟩ (Value.ref (s.heap.objs.size + 1) :: us) _ _ _ hg (room.make C us [])
  (I2.env0.make C us []) bound r2 w0) fun r s' got=>?_))
 match r,got with
 | .error e,got=>exact tk e s' (XE.of_call I2 (fun cls d H' z=>z) got)
 | .ok (.ret u),ok=>
  obtain ⟨v,H',I3,rv,ev,q3⟩:=I2.after ok
  subst ev
  exact ⟨rv,⟨V.ref (s.heap.objs.size + 1),H',I3,rfl,q3⟩⟩
 | .ok .next,bad=>exact bad.elim
 | .ok .brk,bad=>exact bad.elim
 | .ok .cont,bad=>exact bad.elim
theorem Zvn {x : Str} {p pos : Pos} {t : TA} (M : Mk X.K C f) (D : FnX X.prog X.w X.K X.mg X.base k f fd ps sp) (tk : Takes X W) (hg : X.A.guards = some []) (room : Room (k + 1) X.A) (gl : Gl X x) (hm : X.mg x = some (.ref C)) (hb : Binds X.K fd ps [])
  (ha : PA X (e :: es) t) (hdb : (x == ("__debug__" : Str)) = false:=by decide) (he : starEach (e :: es) X.env = (false,eval e X.env) :: starEach es X.env:=by rfl) (hpl : (backTo pos (starEach es X.env)).any (·.1) = false:=by rfl) :
  PE X (.Call (.Name x p) (e :: es) [] pos) (ZIp C sp W t):=
 ⟨fun pins s σ H Q I h=>wpAny_Call_Name_kw (ld_glob I gl hm (PySem.W.callWith_K (h₀:=X.base) I.ok.mod.kin M.kp (thn (ha.run pos pins s σ H _ I h) fun us s1 ⟨vs,H1,I1,r,q⟩=>⟨I1.kIn,ZYp M D tk hg room hb I1 r q⟩) he hpl) hdb)⟩
end
end PL
end
section
namespace PLH
open PySem PySem.Spec PyProof.Rows L2 Ev LamX NdefX
theorem Zmn {x : Str} {K : PySem.W.Frag} (h : Zgp x K = true) : PySem.W.findIn K (.ref (He.ga K x)) "__init__" = some (some (.ref (He.ma K (He.ga K x) "__init__"))):=He.eqO_ok h
theorem ZFj {x : Str} {K : PySem.W.Frag} (h : (He.Fa.glo x).ok K = true) : PySem.W.nsIn K mainGlobals x = some (some (.ref (He.ga K x))):=He.eqO_ok h
theorem Z7l {x : Str} {K : PySem.W.Frag} (h : (He.Fa.free x).ok K = true) : PySem.W.nsIn K mainGlobals x = some none:=He.eqO_ok h
theorem Zoo {p : He.Defn} {K : PySem.W.Frag} (h : lamB p K = true) : PySem.W.tabIn K p.1 = some ((He.cT K p).1,(He.cT K p).2) ∧ K.lookup (He.cT K p).2 = none:=by
 obtain ⟨h1,h⟩:=Bool.and_eq_true_iff.mp h
 obtain ⟨h2,h3⟩:=Bool.and_eq_true_iff.mp h
 exact ⟨of_decide_eq_true h1,Option.isNone_iff_eq_none.mp h2⟩
theorem Zon {p : He.Defn} {K : PySem.W.Frag} (h : lamB p K = true) {x qual : Str} {st : Stmt} {fd : FuncData} (F : Fun K x qual st (He.fAd K p) fd) : PL.FunC K x qual st (He.fAd K p) fd (He.cT K p).1:=by
 obtain ⟨h1,h⟩:=Bool.and_eq_true_iff.mp h
 obtain ⟨h2,h3⟩:=Bool.and_eq_true_iff.mp h
 obtain ⟨oc,od,kV,doc,pm,an,cdv,ct,osl,e,l,c⟩:=F.ex
 subst e
 rw [l] at h3
 have h3 : Zip cdv = true:=h3
 cases cdv with
 | ref cc=>
  have q : (He.cT K p).1 = cc:=He.codeOf_eq l rfl
  rw [q]
  exact ⟨⟨oc,od,kV,doc,pm,an,ct,osl,rfl,l,c⟩,F.kp⟩
 | _=>cases h3
open PL in
theorem walkGTE {l : PySem.W.OpenLaw} {n k : Nat} {q : Program} {loose : List Str} {XP : (Str → Option Value) → Heap → Prop} {YP : World → Heap → Prop} {d : DefRec} {x nm : Str}
  (most : l.most = some n) (few : n ≤ sizeLine) (plain : d.params.defaults = []) (room : Room k callerA) (hrec : ((recsOf q).any fun e=>e.name == nm) = true)
  (F : ∀ (w : World) (mg : Str → Option Value) (fa : Addr) (h : Heap),YP w h → h.Ns mainGlobals mg → mg d.name = some (.ref fa) →
   ∃ (K : PySem.W.Frag) (cT pT : Addr) (fd : FuncData) (sp : Sp),K.In h ∧ PySem.W.tabIn K nm = some (cT,pT) ∧ K.lookup pT = none ∧ (∀ (s : Shared) (u : Value),BindsTo s fd ⟨[u],[]⟩ [(x,u)]) ∧
    (∀ base : Heap,K.In base → base.Ns mainGlobals mg → LamX.TabB base mg cT pT → FnG l.prog w K mg base k fa fd [x] sp) ∧
    ∀ (H : Hp) (a : Addr) (ns : List Int),ns.length ≤ n → (∀ b,H b = none ∨ H b = some (.tbl #[]) ∨ ∃ o xs,H b = some (.frz o (.lst xs))) → H pT = some (.tbl #[]) → SqL K H a (ns.map V.int) → sp [.ref a] H (fun v _=>v = .bl true) fun _ _ _=>False) :
  PySem.W.WalkO q loose XP YP l.row.toRowW d [] (fun f vs=>PySem.call f vs):=
 Att.attach_call most plain fun w s₀ s₁ mg mb fa o pm cd doc a vs ns Gr Y ho hd hcd hmg hobj inns len noGens=>
  let ⟨K,cT,pT,fd,sp,KX,h1,h2,bind,hF,want⟩:=F w mg fa _ Y Gr.T.g hmg
  let ⟨_,hr⟩ : ∃ dM,(recsOf q).find? (fun e=>e.name == nm) = some dM:=by
   cases z : (recsOf q).find? (fun e=>e.name == nm) with
   | some dM=>exact ⟨dM,rfl⟩
   | none=>
    obtain ⟨e,he,hq⟩:=List.any_eq_true.mp hrec
    exact absurd hq (List.find?_eq_none.mp z e he)
  let ⟨h3,h4⟩:=PySem.W.tab_of Gr.T KX hr h1
  ZMm KX Gr.T.g Gr.T.b Gr.T.builtins Gr.T.nolimit noGens h4 h2 h3 Gr.T.bmain hobj inns (Nat.le_trans len few) room hF bind fun H hO hT hS=>want H a ns len hO hT hS
end PLH
end
section
namespace Ev
open PySem PySem.Spec PyProof.Rows L2 NdefX PL
def BadS (C : Addr) (n : Int) (S : List Addr) (H : Hp) (E : XK) : Prop:=∀ dx H',Keep S H H' → H dx = none → H' dx = some (exd dx [(("value" : Str),V.int n)]) → E (.ref C) (some dx) H'
theorem BadS.later {C : Addr} {n : Int} {S S' : List Addr} {H H1 : Hp} {E : XK} (h : BadS C n S H E) (k : Keep S H H1) (hd : ∀ x ∈ S,H1 x ≠ none) (hs : ∀ x ∈ S',x ∈ S ∨ H x = none) : BadS C n S' H1 E:=fun dx H' k' nd e=>h dx H' (k.transN k' hs) (k.free nd fun z=>hd _ z nd) e
theorem BadS.same {C : Addr} {n : Int} {S S' : List Addr} {H H1 : Hp} {E : XK} (h : BadS C n S H E) (s : Same H H1) (hs : ∀ x ∈ S',x ∈ S ∨ H x = none) : BadS C n S' H1 E:=fun dx H' k' nd e=>h dx H' ((Keep.of _ s).transN k' hs) (s.fresh nd) e
theorem BadS.at_ {C : Addr} {n : Int} {S : List Addr} {H H1 : Hp} {E : XK} (h : BadS C n S H E) (s : Same H H1) : BadS C n [] H1 E:=h.same s (fun x hx=>by cases hx)
theorem BadS.num {C : Addr} {n m : Int} {S : List Addr} {H : Hp} {E : XK} (h : BadS C n S H E) (e : n = m) : BadS C m S H E:=e ▸ h
theorem ZIc {H : Hp} {a : Addr} (h : ∃ u,H a = some u) : H a ≠ none:=fun z=>by
 obtain ⟨u,e⟩:=h
 rw [e] at z
 cases z
theorem ne2 {H : Hp} {a b : Addr} (h1 : ∃ u,H a = some u) (h2 : ∃ u,H b = some u) : ∀ z ∈ [a,b],H z ≠ none:=fun z hz=>by
 simp at hz
 rcases hz with rfl | rfl
 ·exact ZIc h1
 ·exact ZIc h2
theorem ne3 {H : Hp} {a b c : Addr} (h1 : ∃ u,H a = some u) (h2 : ∃ u,H b = some u) (h3 : ∃ u,H c = some u) : ∀ z ∈ [a,b,c],H z ≠ none:=fun z hz=>by
 simp at hz
 rcases hz with rfl | rfl | rfl
 ·exact ZIc h1
 ·exact ZIc h2
 ·exact ZIc h3
theorem ne4 {H : Hp} {a b c d : Addr} (h1 : ∃ u,H a = some u) (h2 : ∃ u,H b = some u) (h3 : ∃ u,H c = some u) (h4 : ∃ u,H d = some u) : ∀ z ∈ [a,b,c,d],H z ≠ none:=fun z hz=>by
 simp at hz
 rcases hz with rfl | rfl | rfl | rfl
 ·exact ZIc h1
 ·exact ZIc h2
 ·exact ZIc h3
 ·exact ZIc h4
theorem ZVk {i : Int} (h0 : 0 ≤ i) (h1 : i ≤ 1000000) : ZTf (.int i) = true:=by
 have e : (PyData.shown (.int i)).length ≤ 12:=toString_length_le (v:=i) (k:=12) (by omega) (by decide) (by omega)
 show (Zpm (.int i) && (PyData.showable (.int i) && (decide (PyData.depth (.int i) ≤ 50) && decide ((PyData.shown (.int i)).length ≤ sizeLine)))) = true
 rw [decide_eq_true (show (PyData.shown (.int i)).length ≤ sizeLine from Nat.le_trans e (by rw [sizeLine_eq]; decide))]
 have hs : PyData.showable (.int i) = true:=by
  simp only [PyData.showable,decide_eq_true_eq]
  have : (i.natAbs).log2 < 200:=PySem.Flt.log2_lt_of (by decide) (Nat.lt_of_lt_of_le (m:=10 ^ 12) (show i.natAbs < 10 ^ 12 by omega) (by decide))
  omega
 rw [hs]
 rfl
theorem Z9l {K : PySem.W.Frag} (H : Hp) {i : Int} (h0 : 0 ≤ i) (h1 : i ≤ 1000000) : Z8h K H (.int i):=
 Zyn (R:=⟨fun _ _ _ _=>False,fun _=>none,fun _=>none,[],none⟩) (G:=H) (ρ:=[]) (d:=.int i) (fun _ _ _ _ _ _ h=>h.elim) (.int i) (ZVk h0 h1)
theorem Z0h {X : Cx} {W : WX} {k : Nat} {f D' C : Addr} {Fi : NF} {doc pm ctv : Value} {x : Str} {e : Expr} {te : TE} {p pos pos2 : Pos} (tk : Takes X W) (hcalm : X.calm = true) (U : InitF X.prog X.K X.mg f D' Fi doc pm ctv) (T : MkX X.K D' C f)
  (hb : Binds X.K (Fi.fd doc pm ctv) iP []) (hg : X.A.guards = some []) (hr : Room (k + 2) X.A) (hgl : Gl X x) (hm : X.mg x = some (.ref C)) (hx0 : X.ex = []) (hh : HOk X.prog X.w X.H_0 X.s_0.heap) (hrs : Raises X (.ref C)) (he : PE X e te)
  (hs : starEach [e] X.env = (false,eval e X.env) :: starEach [] X.env:=by rfl) (hdb : (x == ("__debug__" : Str)) = false:=by decide) :
  PS X (.Raise (some (.Call (.Name x p) [e] [] pos)) none pos2) (fun _ σ H=>te σ H fun v H1=>∃ n,v = .int n ∧ 0 ≤ n ∧ n ≤ 1000000 ∧ ∀ dx H3,Same H1 H3 → H1 dx = none → H3 dx = some (exd dx [(("value" : Str),V.int n)]) → W (.ref C) (some dx) σ H3):=by
 refine ps_w (ps_raise hcalm tk (Zxn U T hb hg hr hgl hm (Ztb he) hx0 hh hrs hs hdb)) fun Dd σ H h=>?_
 refine ⟨_,h,fun v H1 ⟨n,e,n0,n1,q⟩=>?_⟩
 subst e
 exact ⟨Z9l H1 n0 n1,fun dx H3 s nd e3=>q dx H3 s nd e3⟩
inductive LaterQ (H : Hp) : List V → List (Int × Addr × Str) → Prop
 | nil : LaterQ H [] []
 | cons {tp t : Addr} {n : Int} {nm : Str} {xs : List V} {qs : List (Int × Addr × Str)} : H tp = some (.tup [.int n,.ref t,.str nm]) → LaterQ H xs qs → LaterQ H (.ref tp :: xs) ((n,t,nm) :: qs)
theorem LaterQ.keep {S : List Addr} {H H' : Hp} {xs : List V} {qs : List (Int × Addr × Str)} (h : LaterQ H xs qs) (k : Keep S H H') (nt : NT S H) : LaterQ H' xs qs:=by
 induction h with
 | nil=>exact .nil
 | cons e _ ih=>exact .cons (k _ _ e (fun q=>nomatch (nt _ q _ e))) ih
theorem LaterQ.same {H H' : Hp} {xs : List V} {qs : List (Int × Addr × Str)} (h : LaterQ H xs qs) (s : Same H H') : LaterQ H' xs qs:=by
 induction h with
 | nil=>exact .nil
 | cons e _ ih=>exact .cons (s _ _ e) ih
theorem LaterQ.snoc {H : Hp} {xs : List V} {qs : List (Int × Addr × Str)} {tp t : Addr} {n : Int} {nm : Str} (h : LaterQ H xs qs) (e : H tp = some (.tup [.int n,.ref t,.str nm])) : LaterQ H (xs ++ [.ref tp]) (qs ++ [(n,t,nm)]):=by
 induction h with
 | nil=>exact .cons e .nil
 | cons e' _ ih=>exact .cons e' ih
theorem LaterQ.len {H : Hp} {xs : List V} {qs : List (Int × Addr × Str)} (h : LaterQ H xs qs) : xs.length = qs.length:=by
 induction h with
 | nil=>rfl
 | cons _ _ ih=>rw [List.length_cons,List.length_cons,ih]
theorem LaterQ.at_ {H : Hp} {xs : List V} {qs : List (Int × Addr × Str)} (h : LaterQ H xs qs) : ∀ {i : Nat} {v : V},xs[i]? = some v → ∃ tp n t nm,v = .ref tp ∧ qs[i]? = some (n,t,nm) ∧ H tp = some (.tup [.int n,.ref t,.str nm]):=by
 induction h with
 | nil=>exact fun e=>by cases e
 | cons e' _ ih=>
  intro i v e
  cases i with
  | zero=>cases e; exact ⟨_,_,_,_,rfl,rfl,e'⟩
  | succ i=>exact ih e
end Ev
end
section
namespace PL
open PySem PySem.Spec PyProof.Rows L2 Ev
def ZGp (x : Str) : List D:=x.cps.toList.map fun c=>.str ⟨#[c]⟩
def ZNk : List D → Option (List D)
 | [.str x]=>if x.length ≤ 100000 then some (ZGp x) else none
 | _=>none
section
variable {X : Cx} {R : OR}
theorem ZBl {cs : List Nat} : ∀ {us : List Value},us.length = cs.length → (∀ (i : Nat) (v : Value),us[i]? = some v → ∃ c u,cs[i]? = some c ∧ v = .str ⟨#[c]⟩ u) → Vals (cs.map fun c=>V.str ⟨#[c]⟩) us:=by
 induction cs with
 | nil=>
  intro us h _
  cases us with
  | nil=>exact .nil
  | cons _ _=>cases h
 | cons c r ih=>
  intro us h q
  cases us with
  | nil=>cases h
  | cons v t=>
   obtain ⟨c',u,e1,e2⟩:=q 0 v rfl
   cases e1
   exact .cons ⟨u,e2⟩ (ih (Nat.succ.inj h) fun i v e=>q (i + 1) v e)
theorem ZVj {K : PySem.W.Frag} {G : Hp} {ρ : List Addr} : ∀ cs : List Nat,RDs K R G ρ (cs.map fun c=>V.str ⟨#[c]⟩) (cs.map fun c=>D.str ⟨#[c]⟩)
 | []=>.nil
 | _ :: r=>.cons (.str _) (ZVj r)
theorem Z7k (hc : X.calm = true) : CallR X (.type "list") (fun xs H Q=>∃ x,xs = [.str x] ∧ x.length ≤ 100000 ∧ ∀ l,H l = none → Q (.ref l) (upd H l (.lst (x.cps.toList.map fun c=>V.str ⟨#[c]⟩)))):=by
 intro pins s σ H xs us Q I r h
 obtain ⟨x,rfl,hx,q⟩:=h
 obtain ⟨u,rfl,rx⟩:=vals1 r
 obtain ⟨t,rfl⟩:=rx
 have hx' : x.cps.size ≤ 100000:=hx
 have hsz : x.cps.size ≤ sizeLine:=by rw [sizeLine_eq]; omega
 refine call_list_str (I.ok.hd hc) x t (fun h' tk acc c' kp e hacc=>?_) hsz
 have hv : Vals (x.cps.toList.map fun c=>V.str ⟨#[c]⟩) acc.toList:=by
  refine ZBl (by rw [Array.length_toList,Array.length_toList]; exact hacc.1) fun i v ev=>?_
  rw [Array.getElem?_toList] at ev
  obtain ⟨c,u,e1,e2⟩:=hacc.2 i v ev
  exact ⟨c,u,by rw [Array.getElem?_toList]; exact e1,e2⟩
 exact ⟨.ref s.heap.objs.size,_,I.laid (t':=tk) kp (Nat.le_refl _) (show ObjOk X.prog X.w _ h' _ (.lst _) from ⟨by rw [List.length_map,Array.length_toList]; exact hsz,acc.toList,c',hv,e⟩),rfl,q _ (I.hok.fresh (Nat.le_refl _))⟩
theorem Z6m (hR : Znb R) (hc : X.calm = true) : CallR X (.type "list") (rOL X.K R ZNk):=by
 intro pins s σ H xs us Q I r ⟨b,G,ρ,σ',st,ds,z,rl,hd,e,k⟩
 unfold ZNk at e
 split at e
 ·split at e
  ·rename_i hx
   cases e
   cases hd with
   | cons h t=>
    cases t
    cases h
    exact Z7k hc pins s σ H _ us Q I r ⟨_,rfl,hx,fun p hp=>k.new hR rl hp (ZVj _)⟩
  ·cases e
 ·cases e
end
end PL
end
section
namespace PL
open PySem PySem.Spec PyProof.Rows L2 Ev
theorem Zwn (x y : Value) (r : List Value) : slicePick (x :: y :: r).toArray (some 1) none (some (-1)) = [y,x].toArray:=by
 have hb : sliceBounds (some 1) none (some (-1)) (x :: y :: r).toArray.size = (1,-1,-1):=by
  have hn : (x :: y :: r).toArray.size = r.length + 2:=by simp
  rw [hn]
  unfold sliceBounds
  show (max (-1 : Int) (min (if (1 : Int) < 0 then _ else 1) (((r.length + 2 : Nat) : Int) - 1)),(-1 : Int),(-1 : Int)) = _
  rw [if_neg (by decide)]
  have : max (-1 : Int) (min 1 (((r.length + 2 : Nat) : Int) - 1)) = 1:=by omega
  rw [this]
 unfold slicePick
 rw [hb]
 have hr : sliceRange 1 (-1) (-1) = [1,0]:=by decide +kernel
 show ((sliceRange 1 (-1) (-1)).filterMap _).toArray = _
 rw [hr]
 rfl
def Zcq (K : PySem.W.Frag) (te : TE) : TE:=fun σ H Q=>te σ H fun x H1=>∃ a v w xs,x = .ref a ∧ SqL K H1 a (v :: w :: xs) ∧ ∀ p,H1 p = none → Q (.ref p) (upd H1 p (.lst [w,v]))
section
variable {X : Cx} {R : OR} {e : Expr} {te : TE} {fa : FD} {k k' : Nat} {p0 p1 p2 p3 pos : Pos}
theorem ZJo (he : PE X e te) : PE X (.Subscript e (.Slice (some (.Constant (.int 1) k' p0)) none (some (.UnaryOp .USub (.Constant (.int 1) k p1) p2)) p3) pos) (Zcq X.K te):=by
 refine ⟨fun pins s σ H Q I h=>?_⟩
 refine Subscript_ (thn (he.run pins s σ H _ I h) fun v s1 ⟨x,H1,I1,r1,q1⟩=>?_)
 obtain ⟨a,v0,w0,xs,ex,hx,q⟩:=q1
 subst ex
 cases r1
 have hlo : PO X (some (.Constant (.int 1) k' p0)) (tPart (tC (.int 1))):=po_some pe_int
 have hst : PO X (some (.UnaryOp .USub (.Constant (.int 1) k p1) p2)) (tPart (tUn (rU fun i=>.int (-i)) (tC (.int 1)))):=po_some (pe_un un_neg pe_int)
 refine wpAny_Slice (thn (hlo.run pins s1 σ H1 (fun o H2=>o = some 1 ∧ H2 = H1) I1 ⟨1,rfl,rfl,rfl⟩) fun vl s2 ⟨l,H2,I2,pl,el,e2⟩=>?_)
 subst el e2
 refine thn (po_none.run pins s2 σ H2 (fun o H3=>o = none ∧ H3 = H2) I2 ⟨rfl,rfl⟩) fun vu s3 ⟨u,H3,I3,pu,eu,e3⟩=>?_
 subst eu e3
 refine thn (hst.run pins s3 σ H3 (fun o H4=>o = some (-1) ∧ H4 = H3) I3 ⟨1,rfl,-1,rfl,rfl,rfl⟩) fun vs s4 ⟨o,H4,I4,ps,eo,e4⟩=>?_
 subst eo e4
 have I5 : Inv X pins σ H4 { s4 with heap:=s4.heap.push { cls:=.type "slice",data:=.fields #[vl,vu,vs] } }:=I4.kept (t':=s4.toks) fun b ob q=>Heap.get?_push_of_some _ q
 obtain ⟨its,r,ht,hz⟩:=I5.list hx
 have hlen:=r.length
 cases r with
 | @cons _ u1 _ t1 r1 r2=>
  cases r2 with
  | @cons _ u2 _ t2 r3 r4=>
   show wpAny (model X.prog X.w) X.A (subscriptTail e (.Slice (some (.Constant (.int 1) k' p0)) none (some (.UnaryOp .USub (.Constant (.int 1) k p1) p2)) p3) (.ref a) (.ref s4.heap.objs.size)) (EP X pins σ Q) X.xe { s4 with heap:=s4.heap.push { cls:=.type "slice",data:=.fields #[vl,vu,vs] } }
   refine tail_any (ops:=[.ref a,.ref s4.heap.objs.size]) ht.isList.typeIs (PySem.slot_list_getitem.lookup) ?_ (by with_unfolding_all rfl)
   refine wpAny_getItem_list_slice ht.isList (Heap.IsSliceOf.new _ vl vu vs) pl pu ps (by decide) ?_ (by rw [List.size_toArray]; omega)
   rw [Zwn]
   refine ⟨.ref _,_,I5.laid (t':=s4.toks) (o:=.lst [w0,v0]) (fun b ob q=>Heap.get?_push_of_some _ q) (Nat.le_refl _) ?_,rfl,q _ (I5.hok.fresh (Nat.le_refl _))⟩
   exact ⟨by show 2 ≤ sizeLine; rw [sizeLine_eq]; omega,_,0,.cons r3 (.cons r1 .nil),Heap.get?_push_size _ rfl⟩
def Zcn : D → Option D
 | .lst (x :: y :: _)=>some (.lst [y,x])
 | _=>none
theorem ZCo (hR : Znb R) (he : PE X e (tD X.K R fa)) : PE X (.Subscript e (.Slice (some (.Constant (.int 1) k' p0)) none (some (.UnaryOp .USub (.Constant (.int 1) k p1) p2)) p3) pos) (tD X.K R (fUn Zcn fa)):=by
 refine pd_w (ZJo he) fun σ H Q ⟨b,G,ρ,s,r,s',rl,e,k⟩=>?_
 obtain ⟨⟨x,s1⟩,e1,e⟩:=Ze e
 obtain ⟨z,e3,e⟩:=Zm e
 cases e
 refine ⟨b,G,ρ,s,x,s1,rl,e1,fun v G1 ρ1 H1 r1 f1 d1=>?_⟩
 have d1 : RD X.K R G1 ρ1 v x:=d1
 have e3 : Zcn x = some r:=e3
 unfold Zcn at e3
 split at e3
 ·cases e3
  cases d1 with
  | lst h1 t1=>
   cases t1 with
   | cons t1 t2=>
    cases t2 with
    | cons t2 t3=>
     refine ⟨_,_,_,_,rfl,SqL.of (r1.sub _ _ h1),fun p hp=>?_⟩
     obtain ⟨r2,f2⟩:=r1.new hR (.lst _) hp
     exact k _ _ _ _ r2 (f1.trans f2) (.lst upd_same ((RDs.cons t2 (.cons t1 .nil)).mono hR (r1.gnew hp) (List.prefix_refl _)))
 ·cases e3
end
end PL
end
section
namespace Ev
open PySem PySem.Spec PyProof.Rows L2
def top (i : Nat) : Stmt:=PySem.Challenge.pw_everypress_k03_bounds_of_boards.main.body.getD i (.Pass ⟨0,0,0,0⟩)
structure DefF (K : PySem.W.Frag) (x qual : Str) (st : Stmt) (ps : List Str) where
 f : Addr
 fd : FuncData
 F : Fun K x qual st f fd
 b : Binds K fd ps []
def Zu (K : PySem.W.Frag) (C : Addr) (l : List Str) : Prop:=∀ (i : Nat) (x : Str),l[i]? = some x → NoAttr K C x
abbrev Z5c : Stmt:=top 12
theorem ZVg : FnScope ["value", "letter"] ["value"] (defScope Z5c):=⟨rfl,rfl,rfl,by decide +kernel,rfl,by decide +kernel,by decide +kernel⟩
abbrev ZSb : Stmt:=top 13
theorem Znd : FnScope ["values", "one", "other"] ["values"] (defScope ZSb):=⟨rfl,rfl,rfl,by decide +kernel,rfl,by decide +kernel,by decide +kernel⟩
abbrev ZTb : Stmt:=top 14
theorem ZWe : FnScope ["word", "figure"] ["word"] (defScope ZTb):=⟨rfl,rfl,rfl,by decide +kernel,rfl,by decide +kernel,by decide +kernel⟩
abbrev ZT : Stmt:=top 15
theorem Z5b : FnScope ["one", "other", "found", "rest"] ["one", "other"] (defScope ZT):=⟨rfl,rfl,rfl,by decide +kernel,rfl,by decide +kernel,by decide +kernel⟩
abbrev Z2b : Stmt:=inClass (top 37) 0
theorem Zni : FnScope ["self", "name", "length", "span", "then"] ["self", "name", "length", "span", "then"] (defScope Z2b):=⟨rfl,rfl,rfl,by decide +kernel,rfl,by decide +kernel,by decide +kernel⟩
abbrev ZNb : Stmt:=inClass (top 38) 0
theorem Z2h : FnScope ["self", "name"] ["self", "name"] (defScope ZNb):=⟨rfl,rfl,rfl,by decide +kernel,rfl,by decide +kernel,by decide +kernel⟩
abbrev ZCb : Stmt:=inClass (top 39) 0
theorem Zph : FnScope ["self", "name", "quantum"] ["self", "name", "quantum"] (defScope ZCb):=⟨rfl,rfl,rfl,by decide +kernel,rfl,by decide +kernel,by decide +kernel⟩
abbrev ZNc : Stmt:=top 40
theorem Z6f : FnScope ["line", "depth", "ahead", "words"] ["line", "depth"] (defScope ZNc):=⟨rfl,rfl,rfl,by decide +kernel,rfl,by decide +kernel,by decide +kernel⟩
abbrev ZDb : Stmt:=inClass (top 41) 0
theorem Zqh : FnScope ["self", "lines"] ["self", "lines"] (defScope ZDb):=⟨rfl,rfl,rfl,by decide +kernel,rfl,by decide +kernel,by decide +kernel⟩
abbrev Z4b : Stmt:=inClass (top 41) 1
theorem Zoi : FnScope ["self", "is_right"] ["self", "is_right"] (defScope Z4b):=⟨rfl,rfl,rfl,by decide +kernel,rfl,by decide +kernel,by decide +kernel⟩
abbrev Zqc : Stmt:=inClass (top 41) 2
theorem Zij : FnScope ["self", "depth"] ["self", "depth"] (defScope Zqc):=⟨rfl,rfl,rfl,by decide +kernel,rfl,by decide +kernel,by decide +kernel⟩
abbrev ZEb : Stmt:=inClass (top 41) 3
theorem Z8d : FnScope ["self", "depth", "head", "row"] ["self", "depth", "head"] (defScope ZEb):=⟨rfl,rfl,rfl,by decide +kernel,rfl,by decide +kernel,by decide +kernel⟩
abbrev Zrb : Stmt:=inClass (top 41) 9
theorem ZUg : FnScope ["self", "row"] ["self", "row"] (defScope Zrb):=⟨rfl,rfl,rfl,by decide +kernel,rfl,by decide +kernel,by decide +kernel⟩
abbrev Zsb : Stmt:=inClass (top 41) 6
theorem ZGb : FnScope ["self", "row", "many", "length", "rounds", "then"] ["self", "row"] (defScope Zsb):=⟨rfl,rfl,rfl,by decide +kernel,rfl,by decide +kernel,by decide +kernel⟩
abbrev ZN : Stmt:=inClass (top 41) 7
theorem Zw : FnScope ["self", "row", "track", "loop", "last", "place", "sounds", "sound"] ["self", "row", "track"] (defScope ZN):=⟨rfl,rfl,rfl,by decide +kernel,rfl,by decide +kernel,by decide +kernel⟩
abbrev ZX : Stmt:=inClass (top 41) 5
theorem ZAc : FnScope ["self", "row", "track"] ["self", "row"] (defScope ZX):=⟨rfl,rfl,rfl,by decide +kernel,rfl,by decide +kernel,by decide +kernel⟩
abbrev ZQ : Stmt:=inClass (top 41) 8
theorem ZD : FnScope ["self", "row", "quantum", "button", "left"] ["self", "row"] (defScope ZQ):=⟨rfl,rfl,rfl,by decide +kernel,rfl,by decide +kernel,by decide +kernel⟩
abbrev Z3b : Stmt:=inClass (top 41) 4
theorem Zic : FnScope ["self", "number", "track", "name"] ["self"] (defScope Z3b):=⟨rfl,rfl,rfl,by decide +kernel,rfl,by decide +kernel,by decide +kernel⟩
abbrev ZMb : Stmt:=inClass (top 48) 0
theorem ZVe : FnScope ["self", "text", "reader"] ["self", "text"] (defScope ZMb):=⟨rfl,rfl,rfl,by decide +kernel,rfl,by decide +kernel,by decide +kernel⟩
abbrev ZMc : Stmt:=top 50
theorem Z2d : FnScope ["_law_script", "_law_place", "_law_cell", "_law_own", "_law_small"] ["_law_script", "_law_place"] (defScope ZMc):=⟨rfl,rfl,rfl,by decide +kernel,rfl,by decide +kernel,by decide +kernel⟩
abbrev Zec : Stmt:=top 51
theorem Zrc : FnScope ["_law_pot_here", "_law_upto", "_law_digit", "_law_prime", "_law_mixed"] ["_law_pot_here", "_law_upto"] (defScope Zec):=⟨rfl,rfl,rfl,by decide +kernel,rfl,by decide +kernel,by decide +kernel⟩
abbrev ZWb : Stmt:=top 52
theorem Zjj : FnScope ["_law_script", "_law_limit"] ["_law_script", "_law_limit"] (defScope ZWb):=⟨rfl,rfl,rfl,by decide +kernel,rfl,by decide +kernel,by decide +kernel⟩
abbrev ZRb : Stmt:=top 53
abbrev Zab : Stmt:=top 54
theorem ZFb : FnScope ["_law_pot_here", "_law_small", "_law_first", "_law_lap"] ["_law_pot_here"] (defScope Zab):=⟨rfl,rfl,rfl,by decide +kernel,rfl,by decide +kernel,by decide +kernel⟩
abbrev ZI : Stmt:=top 55
theorem Zfc : FnScope ["_law_lines", "_law_bad", "_law_caught", "_law_due"] ["_law_lines", "_law_bad"] (defScope ZI):=⟨rfl,rfl,rfl,by decide +kernel,rfl,by decide +kernel,by decide +kernel⟩
abbrev Zz : Stmt:=top 56
theorem Zk : FnScope ["_law_n", "_law_one", "_law_button", "_law_tracks", "_law_name", "_law_four", "_law_rows", "_law_found", "_law_loops", "_law_length", "_law_is_fine", "_law_line", "_law_rounds", "_law_way"] ["_law_n"] (defScope Zz):=⟨rfl,rfl,rfl,by decide +kernel,rfl,by decide +kernel,by decide +kernel⟩
abbrev ZF : Stmt:=top 57
theorem Zn : FnScope ["_law_n", "_law_one", "_law_button", "_law_rows", "_law_place", "_law_found", "_law_some", "_law_line", "_law_fair", "_law_good", "_law_bad"] ["_law_n"] (defScope ZF):=⟨rfl,rfl,rfl,by decide +kernel,rfl,by decide +kernel,by decide +kernel⟩
abbrev Zv : Stmt:=top 58
theorem Zj : FnScope ["_law_n", "_law_head", "_law_buttons", "_law_name", "_law_found", "_law_pairs", "_law_first", "_law_second", "_law_is_fine", "_law_rows", "_law_quantum", "_law_line", "_law_deed", "_law_some", "_law_word"] ["_law_n"] (defScope Zv):=⟨rfl,rfl,rfl,by decide +kernel,rfl,by decide +kernel,by decide +kernel⟩
abbrev ZAk : Stmt:=top 59
theorem Z3h : FnScope ["_law_script", "_law_place", "_law_n", "_law_rows", "_law_lines", "_law_bad"] ["_law_script"] (defScope ZAk):=⟨rfl,rfl,rfl,by decide +kernel,rfl,by decide +kernel,by decide +kernel⟩
structure OLoop where
 name : V
 length : V
 span : V
 then_ : V
 places : V
def OLoop.fs (o : OLoop) : List (Str × V):=[("name",o.name),("length",o.length),("span",o.span),("then",o.then_),("places",o.places)]
theorem Zeg : ((("length" : Str) == "name") = false):=by decide +kernel
theorem Zyc : ((("length" : Str) = "places") = False):=eq_false (by decide +kernel)
theorem Ztg : ((("length" : Str) = "span") = False):=eq_false (by decide +kernel)
theorem Zgd : ((("length" : Str) = "then") = False):=eq_false (by decide +kernel)
theorem Zhd : ((("name" : Str) = "length") = False):=eq_false (by decide +kernel)
theorem Zid : ((("name" : Str) = "places") = False):=eq_false (by decide +kernel)
theorem Zgh : ((("name" : Str) = "span") = False):=eq_false (by decide +kernel)
theorem Z6d : ((("name" : Str) = "then") = False):=eq_false (by decide +kernel)
theorem Zof : ((("places" : Str) == "length") = false):=by decide +kernel
theorem Zfg : ((("places" : Str) == "name") = false):=by decide +kernel
theorem Zgg : ((("places" : Str) == "span") = false):=by decide +kernel
theorem Zhg : ((("places" : Str) == "then") = false):=by decide +kernel
theorem Zjd : ((("span" : Str) = "places") = False):=eq_false (by decide +kernel)
theorem Z7d : ((("span" : Str) = "then") = False):=eq_false (by decide +kernel)
theorem Zig : ((("then" : Str) == "length") = false):=by decide +kernel
theorem Z5g : ((("then" : Str) == "name") = false):=by decide +kernel
theorem Zkd : ((("then" : Str) = "places") = False):=eq_false (by decide +kernel)
theorem Z6g : ((("then" : Str) == "span") = false):=by decide +kernel
theorem Zgk (o : OLoop) : o.fs.lookup ("name" : Str) = some o.name:=by
 simp only [OLoop.fs,List.lookup,beq_self_eq_true]
theorem Zxk (o : OLoop) (v : V) : putF "name" v o.fs = ({ o with name:=v } : OLoop).fs:=by
 simp only [OLoop.fs,putF,if_true,if_false]
theorem Zsk (v0 : V) : putF "name" v0 ([] : List (Str × V)) = ([("name",v0)] : List (Str × V)):=by
 simp only [putF,if_false]
theorem Z0i (o : OLoop) : o.fs.lookup ("length" : Str) = some o.length:=by
 simp only [OLoop.fs,List.lookup,beq_self_eq_true,Zeg]
theorem Zfj (o : OLoop) (v : V) : putF "length" v o.fs = ({ o with length:=v } : OLoop).fs:=by
 simp only [OLoop.fs,putF,if_true,if_false,Zhd]
theorem Zcj (v0 v1 : V) : putF "length" v1 ([("name",v0)] : List (Str × V)) = ([("name",v0),("length",v1)] : List (Str × V)):=by
 simp only [putF,if_false,Zhd]
theorem Ztk (v0 v1 v2 : V) : putF "span" v2 ([("name",v0),("length",v1)] : List (Str × V)) = ([("name",v0),("length",v1),("span",v2)] : List (Str × V)):=by
 simp only [putF,if_false,Zgh,Ztg]
theorem Zhk (o : OLoop) : o.fs.lookup ("then" : Str) = some o.then_:=by
 simp only [OLoop.fs,List.lookup,beq_self_eq_true,Z5g,Zig,Z6g]
theorem Zyk (o : OLoop) (v : V) : putF "then" v o.fs = ({ o with then_:=v } : OLoop).fs:=by
 simp only [OLoop.fs,putF,if_true,if_false,Z6d,Zgd,Z7d]
theorem Zuk (v0 v1 v2 v3 : V) : putF "then" v3 ([("name",v0),("length",v1),("span",v2)] : List (Str × V)) = ([("name",v0),("length",v1),("span",v2),("then",v3)] : List (Str × V)):=by
 simp only [putF,if_false,Z6d,Zgd,Z7d]
theorem Z1i (o : OLoop) : o.fs.lookup ("places" : Str) = some o.places:=by
 simp only [OLoop.fs,List.lookup,beq_self_eq_true,Zfg,Zof,Zgg,Zhg]
theorem Zgj (o : OLoop) (v : V) : putF "places" v o.fs = ({ o with places:=v } : OLoop).fs:=by
 simp only [OLoop.fs,putF,if_true,if_false,Zid,Zyc,Zjd,Zkd]
theorem Zdj (v0 v1 v2 v3 v4 : V) : putF "places" v4 ([("name",v0),("length",v1),("span",v2),("then",v3)] : List (Str × V)) = ([("name",v0),("length",v1),("span",v2),("then",v3),("places",v4)] : List (Str × V)):=by
 simp only [putF,if_false,Zid,Zyc,Zjd,Zkd]
structure OTrack where
 name : V
 own_loops : V
def OTrack.fs (o : OTrack) : List (Str × V):=[("name",o.name),("own_loops",o.own_loops)]
theorem Zac : ((("name" : Str) = "own_loops") = False):=eq_false (by decide +kernel)
theorem Zle : ((("own_loops" : Str) == "name") = false):=by decide +kernel
theorem ZKj (o : OTrack) : o.fs.lookup ("name" : Str) = some o.name:=by
 simp only [OTrack.fs,List.lookup,beq_self_eq_true]
theorem ZTj (o : OTrack) (v : V) : putF "name" v o.fs = ({ o with name:=v } : OTrack).fs:=by
 simp only [OTrack.fs,putF,if_true,if_false]
theorem ZSj (v0 : V) : putF "name" v0 ([] : List (Str × V)) = ([("name",v0)] : List (Str × V)):=by
 simp only [putF,if_false]
theorem ZKg (o : OTrack) : o.fs.lookup ("own_loops" : Str) = some o.own_loops:=by
 simp only [OTrack.fs,List.lookup,beq_self_eq_true,Zle]
theorem ZSg (o : OTrack) (v : V) : putF "own_loops" v o.fs = ({ o with own_loops:=v } : OTrack).fs:=by
 simp only [OTrack.fs,putF,if_true,if_false,Zac]
theorem ZQg (v0 v1 : V) : putF "own_loops" v1 ([("name",v0)] : List (Str × V)) = ([("name",v0),("own_loops",v1)] : List (Str × V)):=by
 simp only [putF,if_false,Zac]
structure OButton where
 name : V
 quantum : V
 deeds : V
def OButton.fs (o : OButton) : List (Str × V):=[("name",o.name),("quantum",o.quantum),("deeds",o.deeds)]
theorem ZJf : ((("deeds" : Str) == "name") = false):=by decide +kernel
theorem Zee : ((("deeds" : Str) == "quantum") = false):=by decide +kernel
theorem Z0c : ((("name" : Str) = "deeds") = False):=eq_false (by decide +kernel)
theorem ZRe : ((("name" : Str) = "quantum") = False):=eq_false (by decide +kernel)
theorem Z7b : ((("quantum" : Str) = "deeds") = False):=eq_false (by decide +kernel)
theorem ZZi (o : OButton) : o.fs.lookup ("name" : Str) = some o.name:=by
 simp only [OButton.fs,List.lookup,beq_self_eq_true]
theorem Zej (o : OButton) (v : V) : putF "name" v o.fs = ({ o with name:=v } : OButton).fs:=by
 simp only [OButton.fs,putF,if_true,if_false]
theorem Zbj (v0 : V) : putF "name" v0 ([] : List (Str × V)) = ([("name",v0)] : List (Str × V)):=by
 simp only [putF,if_false]
theorem Zmh (v0 v1 : V) : putF "quantum" v1 ([("name",v0)] : List (Str × V)) = ([("name",v0),("quantum",v1)] : List (Str × V)):=by
 simp only [putF,if_false,ZRe]
theorem Zei (o : OButton) : o.fs.lookup ("deeds" : Str) = some o.deeds:=by
 simp only [OButton.fs,List.lookup,beq_self_eq_true,ZJf,Zee]
theorem Zli (o : OButton) (v : V) : putF "deeds" v o.fs = ({ o with deeds:=v } : OButton).fs:=by
 simp only [OButton.fs,putF,if_true,if_false,Z0c,Z7b]
theorem Zji (v0 v1 v2 : V) : putF "deeds" v2 ([("name",v0),("quantum",v1)] : List (Str × V)) = ([("name",v0),("quantum",v1),("deeds",v2)] : List (Str × V)):=by
 simp only [putF,if_false,Z0c,Z7b]
structure OReader where
 own_lines : V
 at_ : V
 own_tracks : V
 own_buttons : V
 own_bar : V
 later : V
def OReader.fs (o : OReader) : List (Str × V):=[("own_lines",o.own_lines),("at",o.at_),("own_tracks",o.own_tracks),("own_buttons",o.own_buttons),("own_bar",o.own_bar),("later",o.later)]
theorem ZHd : ((("at" : Str) = "later") = False):=eq_false (by decide +kernel)
theorem Z1c : ((("at" : Str) = "own_bar") = False):=eq_false (by decide +kernel)
theorem Z0b : ((("at" : Str) = "own_buttons") = False):=eq_false (by decide +kernel)
theorem ZEe : ((("at" : Str) == "own_lines") = false):=by decide +kernel
theorem Z8b : ((("at" : Str) = "own_tracks") = False):=eq_false (by decide +kernel)
theorem Zjg : ((("headed" : Str) == "at") = false):=by decide +kernel
theorem ZFe : ((("headed" : Str) == "later") = false):=by decide +kernel
theorem ZTd : ((("headed" : Str) == "own_bar") = false):=by decide +kernel
theorem ZQc : ((("headed" : Str) == "own_buttons") = false):=by decide +kernel
theorem Zqd : ((("headed" : Str) == "own_lines") = false):=by decide +kernel
theorem Z6c : ((("headed" : Str) == "own_tracks") = false):=by decide +kernel
theorem ZKf : ((("is_deed" : Str) == "at") = false):=by decide +kernel
theorem Zfe : ((("is_deed" : Str) == "later") = false):=by decide +kernel
theorem Zzd : ((("is_deed" : Str) == "own_bar") = false):=by decide +kernel
theorem ZBc : ((("is_deed" : Str) == "own_buttons") = false):=by decide +kernel
theorem Z7c : ((("is_deed" : Str) == "own_lines") = false):=by decide +kernel
theorem ZRc : ((("is_deed" : Str) == "own_tracks") = false):=by decide +kernel
theorem ZDg : ((("later" : Str) == "at") = false):=by decide +kernel
theorem Zge : ((("later" : Str) == "own_bar") = false):=by decide +kernel
theorem Z8c : ((("later" : Str) == "own_buttons") = false):=by decide +kernel
theorem ZAd : ((("later" : Str) == "own_lines") = false):=by decide +kernel
theorem Zrd : ((("later" : Str) == "own_tracks") = false):=by decide +kernel
theorem ZLf : ((("loop_in" : Str) == "at") = false):=by decide +kernel
theorem Zhe : ((("loop_in" : Str) == "later") = false):=by decide +kernel
theorem ZBd : ((("loop_in" : Str) == "own_bar") = false):=by decide +kernel
theorem ZCc : ((("loop_in" : Str) == "own_buttons") = false):=by decide +kernel
theorem Z9c : ((("loop_in" : Str) == "own_lines") = false):=by decide +kernel
theorem ZSc : ((("loop_in" : Str) == "own_tracks") = false):=by decide +kernel
theorem ZMf : ((("own_bar" : Str) == "at") = false):=by decide +kernel
theorem Z9b : ((("own_bar" : Str) = "later") = False):=eq_false (by decide +kernel)
theorem ZDc : ((("own_bar" : Str) == "own_buttons") = false):=by decide +kernel
theorem Zad : ((("own_bar" : Str) == "own_lines") = false):=by decide +kernel
theorem ZTc : ((("own_bar" : Str) == "own_tracks") = false):=by decide +kernel
theorem ZUd : ((("own_buttons" : Str) == "at") = false):=by decide +kernel
theorem ZIb : ((("own_buttons" : Str) = "later") = False):=eq_false (by decide +kernel)
theorem Zvb : ((("own_buttons" : Str) = "own_bar") = False):=eq_false (by decide +kernel)
theorem Zjc : ((("own_buttons" : Str) == "own_lines") = false):=by decide +kernel
theorem Zbc : ((("own_buttons" : Str) == "own_tracks") = false):=by decide +kernel
theorem Zpc : ((("own_lines" : Str) = "at") = False):=eq_false (by decide +kernel)
theorem ZVb : ((("own_lines" : Str) = "later") = False):=eq_false (by decide +kernel)
theorem ZJb : ((("own_lines" : Str) = "own_bar") = False):=eq_false (by decide +kernel)
theorem Zjb : ((("own_lines" : Str) = "own_buttons") = False):=eq_false (by decide +kernel)
theorem Zpb : ((("own_lines" : Str) = "own_tracks") = False):=eq_false (by decide +kernel)
theorem Zie : ((("own_tracks" : Str) == "at") = false):=by decide +kernel
theorem ZLb : ((("own_tracks" : Str) = "later") = False):=eq_false (by decide +kernel)
theorem Zzb : ((("own_tracks" : Str) = "own_bar") = False):=eq_false (by decide +kernel)
theorem Zhb : ((("own_tracks" : Str) = "own_buttons") = False):=eq_false (by decide +kernel)
theorem Zsc : ((("own_tracks" : Str) == "own_lines") = false):=by decide +kernel
theorem Z7g : ((("read" : Str) == "at") = false):=by decide +kernel
theorem ZNf : ((("read" : Str) == "later") = false):=by decide +kernel
theorem ZHe : ((("read" : Str) == "own_bar") = false):=by decide +kernel
theorem Zsd : ((("read" : Str) == "own_buttons") = false):=by decide +kernel
theorem ZWd : ((("read" : Str) == "own_lines") = false):=by decide +kernel
theorem ZDd : ((("read" : Str) == "own_tracks") = false):=by decide +kernel
theorem ZVd : ((("read_button" : Str) == "at") = false):=by decide +kernel
theorem Zbd : ((("read_button" : Str) == "later") = false):=by decide +kernel
theorem ZEc : ((("read_button" : Str) == "own_bar") = false):=by decide +kernel
theorem Z6b : ((("read_button" : Str) == "own_buttons") = false):=by decide +kernel
theorem Zkc : ((("read_button" : Str) == "own_lines") = false):=by decide +kernel
theorem Zcc : ((("read_button" : Str) == "own_tracks") = false):=by decide +kernel
theorem ZGe : ((("read_loop" : Str) == "at") = false):=by decide +kernel
theorem ZCd : ((("read_loop" : Str) == "later") = false):=by decide +kernel
theorem Zcd : ((("read_loop" : Str) == "own_bar") = false):=by decide +kernel
theorem Zlc : ((("read_loop" : Str) == "own_buttons") = false):=by decide +kernel
theorem ZFc : ((("read_loop" : Str) == "own_lines") = false):=by decide +kernel
theorem Ztc : ((("read_loop" : Str) == "own_tracks") = false):=by decide +kernel
theorem Zje : ((("read_track" : Str) == "at") = false):=by decide +kernel
theorem Ztd : ((("read_track" : Str) == "later") = false):=by decide +kernel
theorem ZUc : ((("read_track" : Str) == "own_bar") = false):=by decide +kernel
theorem Zdc : ((("read_track" : Str) == "own_buttons") = false):=by decide +kernel
theorem Zuc : ((("read_track" : Str) == "own_lines") = false):=by decide +kernel
theorem Zmc : ((("read_track" : Str) == "own_tracks") = false):=by decide +kernel
theorem ZAh : ((("row" : Str) == "at") = false):=by decide +kernel
theorem Zkg : ((("row" : Str) == "later") = false):=by decide +kernel
theorem Zpf : ((("row" : Str) == "own_bar") = false):=by decide +kernel
theorem ZEd : ((("row" : Str) == "own_buttons") = false):=by decide +kernel
theorem Zke : ((("row" : Str) == "own_lines") = false):=by decide +kernel
theorem ZXd : ((("row" : Str) == "own_tracks") = false):=by decide +kernel
theorem Z8g : ((("want" : Str) == "at") = false):=by decide +kernel
theorem ZOf : ((("want" : Str) == "later") = false):=by decide +kernel
theorem ZIe : ((("want" : Str) == "own_bar") = false):=by decide +kernel
theorem Zud : ((("want" : Str) == "own_buttons") = false):=by decide +kernel
theorem ZYd : ((("want" : Str) == "own_lines") = false):=by decide +kernel
theorem ZFd : ((("want" : Str) == "own_tracks") = false):=by decide +kernel
theorem Zsg (o : OReader) : o.fs.lookup ("own_lines" : Str) = some o.own_lines:=by
 simp only [OReader.fs,List.lookup,beq_self_eq_true]
theorem Zzg (o : OReader) (v : V) : putF "own_lines" v o.fs = ({ o with own_lines:=v } : OReader).fs:=by
 simp only [OReader.fs,putF,if_true,if_false]
theorem Zyg (v0 : V) : putF "own_lines" v0 ([] : List (Str × V)) = ([("own_lines",v0)] : List (Str × V)):=by
 simp only [putF,if_false]
theorem Zik (o : OReader) : o.fs.lookup ("at" : Str) = some o.at_:=by
 simp only [OReader.fs,List.lookup,beq_self_eq_true,ZEe]
theorem Zzk (o : OReader) (v : V) : putF "at" v o.fs = ({ o with at_:=v } : OReader).fs:=by
 simp only [OReader.fs,putF,if_true,if_false,Zpc]
theorem Zvk (v0 v1 : V) : putF "at" v1 ([("own_lines",v0)] : List (Str × V)) = ([("own_lines",v0),("at",v1)] : List (Str × V)):=by
 simp only [putF,if_false,Zpc]
theorem ZWf (o : OReader) : o.fs.lookup ("own_tracks" : Str) = some o.own_tracks:=by
 simp only [OReader.fs,List.lookup,beq_self_eq_true,Zsc,Zie]
theorem Z5f (o : OReader) (v : V) : putF "own_tracks" v o.fs = ({ o with own_tracks:=v } : OReader).fs:=by
 simp only [OReader.fs,putF,if_true,if_false,Zpb,Z8b]
theorem Z3f (v0 v1 v2 : V) : putF "own_tracks" v2 ([("own_lines",v0),("at",v1)] : List (Str × V)) = ([("own_lines",v0),("at",v1),("own_tracks",v2)] : List (Str × V)):=by
 simp only [putF,if_false,Zpb,Z8b]
theorem Zuf (o : OReader) : o.fs.lookup ("own_buttons" : Str) = some o.own_buttons:=by
 simp only [OReader.fs,List.lookup,beq_self_eq_true,Zjc,ZUd,Zbc]
theorem ZAf (o : OReader) (v : V) : putF "own_buttons" v o.fs = ({ o with own_buttons:=v } : OReader).fs:=by
 simp only [OReader.fs,putF,if_true,if_false,Zjb,Z0b,Zhb]
theorem Zzc (v0 v1 v2 v3 : V) : putF "own_buttons" v3 ([("own_lines",v0),("at",v1),("own_tracks",v2)] : List (Str × V)) = ([("own_lines",v0),("at",v1),("own_tracks",v2),("own_buttons",v3)] : List (Str × V)):=by
 simp only [putF,if_false,Zjb,Z0b,Zhb]
theorem Zeh (o : OReader) : o.fs.lookup ("own_bar" : Str) = some o.own_bar:=by
 simp only [OReader.fs,List.lookup,beq_self_eq_true,Zad,ZMf,ZTc,ZDc]
theorem Zoh (o : OReader) (v : V) : putF "own_bar" v o.fs = ({ o with own_bar:=v } : OReader).fs:=by
 simp only [OReader.fs,putF,if_true,if_false,ZJb,Z1c,Zzb,Zvb]
theorem Znh (v0 v1 v2 v3 v4 : V) : putF "own_bar" v4 ([("own_lines",v0),("at",v1),("own_tracks",v2),("own_buttons",v3)] : List (Str × V)) = ([("own_lines",v0),("at",v1),("own_tracks",v2),("own_buttons",v3),("own_bar",v4)] : List (Str × V)):=by
 simp only [putF,if_false,ZJb,Z1c,Zzb,Zvb]
theorem Zfi (o : OReader) : o.fs.lookup ("later" : Str) = some o.later:=by
 simp only [OReader.fs,List.lookup,beq_self_eq_true,ZAd,ZDg,Zrd,Z8c,Zge]
theorem Zmi (o : OReader) (v : V) : putF "later" v o.fs = ({ o with later:=v } : OReader).fs:=by
 simp only [OReader.fs,putF,if_true,if_false,ZVb,ZHd,ZLb,ZIb,Z9b]
theorem Zki (v0 v1 v2 v3 v4 v5 : V) : putF "later" v5 ([("own_lines",v0),("at",v1),("own_tracks",v2),("own_buttons",v3),("own_bar",v4)] : List (Str × V)) = ([("own_lines",v0),("at",v1),("own_tracks",v2),("own_buttons",v3),("own_bar",v4),("later",v5)] : List (Str × V)):=by
 simp only [putF,if_false,ZVb,ZHd,ZLb,ZIb,Z9b]
theorem Zx (o : OReader) : o.fs.lookup ("want" : Str) = none:=by
 simp only [OReader.fs,List.lookup,ZYd,Z8g,ZFd,Zud,ZIe,ZOf]
theorem Zkb (o : OReader) : o.fs.lookup ("row" : Str) = none:=by
 simp only [OReader.fs,List.lookup,Zke,ZAh,ZXd,ZEd,Zpf,Zkg]
theorem ZAb (o : OReader) : o.fs.lookup ("headed" : Str) = none:=by
 simp only [OReader.fs,List.lookup,Zqd,Zjg,Z6c,ZQc,ZTd,ZFe]
theorem Zhh (o : OReader) : o.fs.lookup ("is_deed" : Str) = none:=by
 simp only [OReader.fs,List.lookup,Z7c,ZKf,ZRc,ZBc,Zzd,Zfe]
theorem Zih (o : OReader) : o.fs.lookup ("loop_in" : Str) = none:=by
 simp only [OReader.fs,List.lookup,Z9c,ZLf,ZSc,ZCc,ZBd,Zhe]
theorem Zug (o : OReader) : o.fs.lookup ("read_loop" : Str) = none:=by
 simp only [OReader.fs,List.lookup,ZFc,ZGe,Ztc,Zlc,Zcd,ZCd]
theorem ZXf (o : OReader) : o.fs.lookup ("read_track" : Str) = none:=by
 simp only [OReader.fs,List.lookup,Zuc,Zje,Zmc,Zdc,ZUc,Ztd]
theorem Zvf (o : OReader) : o.fs.lookup ("read_button" : Str) = none:=by
 simp only [OReader.fs,List.lookup,Zkc,ZVd,Zcc,Z6b,ZEc,Zbd]
theorem Z4i (o : OReader) : o.fs.lookup ("read" : Str) = none:=by
 simp only [OReader.fs,List.lookup,ZWd,Z7g,ZDd,Zsd,ZHe,ZNf]
structure OBoard where
 own_text : V
 own_tracks : V
 own_buttons : V
 own_bar : V
def OBoard.fs (o : OBoard) : List (Str × V):=[("own_text",o.own_text),("own_tracks",o.own_tracks),("own_buttons",o.own_buttons),("own_bar",o.own_bar)]
theorem ZYc : ((("own_buttons" : Str) = "own_bar") = False):=eq_false (by decide +kernel)
theorem ZGd : ((("own_text" : Str) = "own_bar") = False):=eq_false (by decide +kernel)
theorem ZGc : ((("own_text" : Str) = "own_buttons") = False):=eq_false (by decide +kernel)
theorem ZZc : ((("own_text" : Str) = "own_tracks") = False):=eq_false (by decide +kernel)
theorem Zdd : ((("own_tracks" : Str) = "own_bar") = False):=eq_false (by decide +kernel)
theorem Zoc : ((("own_tracks" : Str) = "own_buttons") = False):=eq_false (by decide +kernel)
theorem Zlh (v0 : V) : putF "own_text" v0 ([] : List (Str × V)) = ([("own_text",v0)] : List (Str × V)):=by
 simp only [putF,if_false]
theorem Zxg (v0 v1 : V) : putF "own_tracks" v1 ([("own_text",v0)] : List (Str × V)) = ([("own_text",v0),("own_tracks",v1)] : List (Str × V)):=by
 simp only [putF,if_false,ZZc]
theorem Z2f (v0 v1 v2 : V) : putF "own_buttons" v2 ([("own_text",v0),("own_tracks",v1)] : List (Str × V)) = ([("own_text",v0),("own_tracks",v1),("own_buttons",v2)] : List (Str × V)):=by
 simp only [putF,if_false,ZGc,Zoc]
theorem ZYh (v0 v1 v2 v3 : V) : putF "own_bar" v3 ([("own_text",v0),("own_tracks",v1),("own_buttons",v2)] : List (Str × V)) = ([("own_text",v0),("own_tracks",v1),("own_buttons",v2),("own_bar",v3)] : List (Str × V)):=by
 simp only [putF,if_false,ZGd,Zdd,ZYc]
structure TxtLoop (K : PySem.W.Frag) (mg : Str → Option Value) where
 C : Addr
 gC : mg "Loop" = some (.ref C)
 cl : Cls K C
 init : DefF K "__init__" "Loop.__init__" Z2b ["self", "name", "length", "span", "then"]
 made : Mk K C init.f
 na : Zu K C ["name", "length", "span", "then", "places"]
structure TxtTrack (K : PySem.W.Frag) (mg : Str → Option Value) where
 C : Addr
 gC : mg "Track" = some (.ref C)
 cl : Cls K C
 init : DefF K "__init__" "Track.__init__" ZNb ["self", "name"]
 made : Mk K C init.f
 na : Zu K C ["name", "own_loops"]
structure TxtButton (K : PySem.W.Frag) (mg : Str → Option Value) where
 C : Addr
 gC : mg "Button" = some (.ref C)
 cl : Cls K C
 init : DefF K "__init__" "Button.__init__" ZCb ["self", "name", "quantum"]
 made : Mk K C init.f
 na : Zu K C ["name", "quantum", "deeds"]
structure TxtReader (K : PySem.W.Frag) (mg : Str → Option Value) where
 C : Addr
 gC : mg "Reader" = some (.ref C)
 cl : Cls K C
 init : DefF K "__init__" "Reader.__init__" ZDb ["self", "lines"]
 made : Mk K C init.f
 na : Zu K C ["own_lines", "at", "own_tracks", "own_buttons", "own_bar", "later"]
 d_Reader_want : DefF K "want" "Reader.want" Z4b ["self", "is_right"]
 m_Reader_want : Meth K C "want" d_Reader_want.f
 d_Reader_row : DefF K "row" "Reader.row" Zqc ["self", "depth"]
 m_Reader_row : Meth K C "row" d_Reader_row.f
 d_Reader_headed : DefF K "headed" "Reader.headed" ZEb ["self", "depth", "head"]
 m_Reader_headed : Meth K C "headed" d_Reader_headed.f
 d_Reader_is_deed : DefF K "is_deed" "Reader.is_deed" Zrb ["self", "row"]
 m_Reader_is_deed : Meth K C "is_deed" d_Reader_is_deed.f
 d_Reader_loop_in : DefF K "loop_in" "Reader.loop_in" Zsb ["self", "row"]
 m_Reader_loop_in : Meth K C "loop_in" d_Reader_loop_in.f
 d_Reader_read_loop : DefF K "read_loop" "Reader.read_loop" ZN ["self", "row", "track"]
 m_Reader_read_loop : Meth K C "read_loop" d_Reader_read_loop.f
 d_Reader_read_track : DefF K "read_track" "Reader.read_track" ZX ["self", "row"]
 m_Reader_read_track : Meth K C "read_track" d_Reader_read_track.f
 d_Reader_read_button : DefF K "read_button" "Reader.read_button" ZQ ["self", "row"]
 m_Reader_read_button : Meth K C "read_button" d_Reader_read_button.f
 d_Reader_read : DefF K "read" "Reader.read" Z3b ["self"]
 m_Reader_read : Meth K C "read" d_Reader_read.f
structure TxtBoard (K : PySem.W.Frag) (mg : Str → Option Value) where
 C : Addr
 gC : mg "Board" = some (.ref C)
 cl : Cls K C
 init : DefF K "__init__" "Board.__init__" ZMb ["self", "text"]
 made : Mk K C init.f
 na : Zu K C ["own_text", "own_tracks", "own_buttons", "own_bar"]
structure TxtC (mg : Str → Option Value) : Prop where
 g_LETTERS : ∃ u,mg "LETTERS" = some u ∧ RelV (.str "abcdefghijklmnopqrstuvwxyz") u
 g_FIGURES : ∃ u,mg "FIGURES" = some u ∧ RelV (.str "0123456789") u
 g_MOST_LETTERS : ∃ u,mg "MOST_LETTERS" = some u ∧ RelV (.int 8) u
 g_MOST_FIGURES : ∃ u,mg "MOST_FIGURES" = some u ∧ RelV (.int 9) u
 g_BLANK : ∃ u,mg "BLANK" = some u ∧ RelV (.str " ") u
 g_FEED : ∃ u,mg "FEED" = some u ∧ RelV (.str "\n") u
 g_TRACK : ∃ u,mg "TRACK" = some u ∧ RelV (.str "track") u
 g_LOOP : ∃ u,mg "LOOP" = some u ∧ RelV (.str "loop") u
 g_BUTTON : ∃ u,mg "BUTTON" = some u ∧ RelV (.str "button") u
 g_EVERY : ∃ u,mg "EVERY" = some u ∧ RelV (.str "every") u
 g_LASTS : ∃ u,mg "LASTS" = some u ∧ RelV (.str "lasts") u
 g_ENDS : ∃ u,mg "ENDS" = some u ∧ RelV (.str "ends") u
 g_GOES : ∃ u,mg "GOES" = some u ∧ RelV (.str "goes") u
 g_PLAYS : ∃ u,mg "PLAYS" = some u ∧ RelV (.str "plays") u
 g_KEEPS : ∃ u,mg "KEEPS" = some u ∧ RelV (.str "keeps") u
 g_STOPS : ∃ u,mg "STOPS" = some u ∧ RelV (.str "stops") u
 g_DEEP : ∃ u,mg "DEEP" = some u ∧ RelV (.int 2) u
 g_MOST_TRACKS : ∃ u,mg "MOST_TRACKS" = some u ∧ RelV (.int 4) u
 g_MOST_LOOPS : ∃ u,mg "MOST_LOOPS" = some u ∧ RelV (.int 3) u
 g_MOST_BUTTONS : ∃ u,mg "MOST_BUTTONS" = some u ∧ RelV (.int 5) u
 g_MOST_LENGTH : ∃ u,mg "MOST_LENGTH" = some u ∧ RelV (.int 6) u
 g_MOST_ROUNDS : ∃ u,mg "MOST_ROUNDS" = some u ∧ RelV (.int 3) u
 g_MOST_SOUNDS : ∃ u,mg "MOST_SOUNDS" = some u ∧ RelV (.int 3) u
 g_MOST_BAR : ∃ u,mg "MOST_BAR" = some u ∧ RelV (.int 12) u
 z_len : mg "len" = none
 z_isinstance : mg "isinstance" = none
 z_int : mg "int" = none
 z_bool : mg "bool" = none
 z_str : mg "str" = none
 z_tuple : mg "tuple" = none
 z_list : mg "list" = none
 z_all : mg "all" = none
 z_any : mg "any" = none
 z_range : mg "range" = none
 z_zip : mg "zip" = none
 z_enumerate : mg "enumerate" = none
 z_sorted : mg "sorted" = none
 z_dict : mg "dict" = none
 z_abs : mg "abs" = none
 z_max : mg "max" = none
 z_min : mg "min" = none
 z_repr : mg "repr" = none
abbrev ZQk : List Str:=["BadBoard", "NoTrack", "NoButton", "LastButton", "PressError"]
structure Txt (K : PySem.W.Frag) (mg : Str → Option Value) where
 c : TxtC mg
 e : TxtN ZQk K mg
 Loop : TxtLoop K mg
 Track : TxtTrack K mg
 Button : TxtButton K mg
 Reader : TxtReader K mg
 Board : TxtBoard K mg
 d_is_name : DefF K "is_name" "is_name" Z5c ["value"]
 d_do_ascend : DefF K "do_ascend" "do_ascend" ZSb ["values"]
 d_number_in : DefF K "number_in" "number_in" ZTb ["word"]
 d_common_multiple : DefF K "common_multiple" "common_multiple" ZT ["one", "other"]
 d_words_in : DefF K "words_in" "words_in" ZNc ["line", "depth"]
 d__law_pot : DefF K "_law_pot" "_law_pot" ZMc ["_law_script", "_law_place"]
 d__law_take : DefF K "_law_take" "_law_take" Zec ["_law_pot_here", "_law_upto"]
 d__law_cells : DefF K "_law_cells" "_law_cells" ZWb ["_law_script", "_law_limit"]
 d__law_told : DefF K "_law_told" "_law_told" ZRb ["_law_look"]
 d__law_letters : DefF K "_law_letters" "_law_letters" Zab ["_law_pot_here"]
 d__law_is_judged : DefF K "_law_is_judged" "_law_is_judged" ZI ["_law_lines", "_law_bad"]
 d__law_track_cases : DefF K "_law_track_cases" "_law_track_cases" Zz ["_law_n"]
 d__law_place_cases : DefF K "_law_place_cases" "_law_place_cases" ZF ["_law_n"]
 d__law_button_cases : DefF K "_law_button_cases" "_law_button_cases" Zv ["_law_n"]
 d_law : DefF K "law" "law" ZAk ["_law_script"]
 c__law_is_judged : Addr
 p__law_is_judged : Addr
 fc__law_is_judged : PL.FunC K "_law_is_judged" "_law_is_judged" ZI d__law_is_judged.f d__law_is_judged.fd c__law_is_judged
 g : mg "is_name" = some (.ref d_is_name.f) ∧ mg "do_ascend" = some (.ref d_do_ascend.f) ∧ mg "number_in" = some (.ref d_number_in.f) ∧ mg "common_multiple" = some (.ref d_common_multiple.f) ∧ mg "words_in" = some (.ref d_words_in.f) ∧ mg "_law_pot" = some (.ref d__law_pot.f) ∧ mg "_law_take" = some (.ref d__law_take.f) ∧ mg "_law_cells" = some (.ref d__law_cells.f) ∧ mg "_law_told" = some (.ref d__law_told.f) ∧ mg "_law_letters" = some (.ref d__law_letters.f) ∧ mg "_law_is_judged" = some (.ref d__law_is_judged.f) ∧ mg "_law_track_cases" = some (.ref d__law_track_cases.f) ∧ mg "_law_place_cases" = some (.ref d__law_place_cases.f) ∧ mg "_law_button_cases" = some (.ref d__law_button_cases.f) ∧ mg "law" = some (.ref d_law.f)
theorem Txt.g_is_name {K : PySem.W.Frag} {mg : Str → Option Value} (T : Txt K mg) : mg "is_name" = some (.ref T.d_is_name.f):=T.g.1
theorem Txt.g_do_ascend {K : PySem.W.Frag} {mg : Str → Option Value} (T : Txt K mg) : mg "do_ascend" = some (.ref T.d_do_ascend.f):=T.g.2.1
theorem Txt.g_number_in {K : PySem.W.Frag} {mg : Str → Option Value} (T : Txt K mg) : mg "number_in" = some (.ref T.d_number_in.f):=T.g.2.2.1
theorem Txt.g_common_multiple {K : PySem.W.Frag} {mg : Str → Option Value} (T : Txt K mg) : mg "common_multiple" = some (.ref T.d_common_multiple.f):=T.g.2.2.2.1
theorem Txt.g_words_in {K : PySem.W.Frag} {mg : Str → Option Value} (T : Txt K mg) : mg "words_in" = some (.ref T.d_words_in.f):=T.g.2.2.2.2.1
theorem Txt.g__law_pot {K : PySem.W.Frag} {mg : Str → Option Value} (T : Txt K mg) : mg "_law_pot" = some (.ref T.d__law_pot.f):=T.g.2.2.2.2.2.1
theorem Txt.g__law_take {K : PySem.W.Frag} {mg : Str → Option Value} (T : Txt K mg) : mg "_law_take" = some (.ref T.d__law_take.f):=T.g.2.2.2.2.2.2.1
theorem Txt.g__law_cells {K : PySem.W.Frag} {mg : Str → Option Value} (T : Txt K mg) : mg "_law_cells" = some (.ref T.d__law_cells.f):=T.g.2.2.2.2.2.2.2.1
theorem Txt.g__law_told {K : PySem.W.Frag} {mg : Str → Option Value} (T : Txt K mg) : mg "_law_told" = some (.ref T.d__law_told.f):=T.g.2.2.2.2.2.2.2.2.1
theorem Txt.g__law_letters {K : PySem.W.Frag} {mg : Str → Option Value} (T : Txt K mg) : mg "_law_letters" = some (.ref T.d__law_letters.f):=T.g.2.2.2.2.2.2.2.2.2.1
theorem Txt.g__law_is_judged {K : PySem.W.Frag} {mg : Str → Option Value} (T : Txt K mg) : mg "_law_is_judged" = some (.ref T.d__law_is_judged.f):=T.g.2.2.2.2.2.2.2.2.2.2.1
theorem Txt.g__law_track_cases {K : PySem.W.Frag} {mg : Str → Option Value} (T : Txt K mg) : mg "_law_track_cases" = some (.ref T.d__law_track_cases.f):=T.g.2.2.2.2.2.2.2.2.2.2.2.1
theorem Txt.g__law_place_cases {K : PySem.W.Frag} {mg : Str → Option Value} (T : Txt K mg) : mg "_law_place_cases" = some (.ref T.d__law_place_cases.f):=T.g.2.2.2.2.2.2.2.2.2.2.2.2.1
theorem Txt.g__law_button_cases {K : PySem.W.Frag} {mg : Str → Option Value} (T : Txt K mg) : mg "_law_button_cases" = some (.ref T.d__law_button_cases.f):=T.g.2.2.2.2.2.2.2.2.2.2.2.2.2.1
abbrev ZPn {K : PySem.W.Frag} {mg : Str → Option Value} (T : Txt K mg) (H : Hp) (a : Addr) (o : OLoop) : Prop:=AtO T.Loop.C OLoop.fs H a o
theorem ZMh {K : PySem.W.Frag} {mg : Str → Option Value} (T : Txt K mg) : FldR K T.Loop.C OLoop.fs "name" OLoop.name (fun o v=>{ o with name:=v }):=⟨T.Loop.cl,T.Loop.na 0 _ rfl,Zgk,Zxk,fun _=>by show 5 < 1000; decide⟩
theorem ZQi {K : PySem.W.Frag} {mg : Str → Option Value} (T : Txt K mg) : FldR K T.Loop.C OLoop.fs "length" OLoop.length (fun o v=>{ o with length:=v }):=⟨T.Loop.cl,T.Loop.na 1 _ rfl,Z0i,Zfj,fun _=>by show 5 < 1000; decide⟩
theorem ZNh {K : PySem.W.Frag} {mg : Str → Option Value} (T : Txt K mg) : FldR K T.Loop.C OLoop.fs "then" OLoop.then_ (fun o v=>{ o with then_:=v }):=⟨T.Loop.cl,T.Loop.na 3 _ rfl,Zhk,Zyk,fun _=>by show 5 < 1000; decide⟩
theorem ZRi {K : PySem.W.Frag} {mg : Str → Option Value} (T : Txt K mg) : FldR K T.Loop.C OLoop.fs "places" OLoop.places (fun o v=>{ o with places:=v }):=⟨T.Loop.cl,T.Loop.na 4 _ rfl,Z1i,Zgj,fun _=>by show 5 < 1000; decide⟩
abbrev Z4j {K : PySem.W.Frag} {mg : Str → Option Value} (T : Txt K mg) (H : Hp) (a : Addr) (o : OTrack) : Prop:=AtO T.Track.C OTrack.fs H a o
theorem ZEj {K : PySem.W.Frag} {mg : Str → Option Value} (T : Txt K mg) : FldR K T.Track.C OTrack.fs "name" OTrack.name (fun o v=>{ o with name:=v }):=⟨T.Track.cl,T.Track.na 0 _ rfl,ZKj,ZTj,fun _=>by show 2 < 1000; decide⟩
theorem ZS {K : PySem.W.Frag} {mg : Str → Option Value} (T : Txt K mg) : FldR K T.Track.C OTrack.fs "own_loops" OTrack.own_loops (fun o v=>{ o with own_loops:=v }):=⟨T.Track.cl,T.Track.na 1 _ rfl,ZKg,ZSg,fun _=>by show 2 < 1000; decide⟩
abbrev ZFi {K : PySem.W.Frag} {mg : Str → Option Value} (T : Txt K mg) (H : Hp) (a : Addr) (o : OButton) : Prop:=AtO T.Button.C OButton.fs H a o
theorem ZPi {K : PySem.W.Frag} {mg : Str → Option Value} (T : Txt K mg) : FldR K T.Button.C OButton.fs "name" OButton.name (fun o v=>{ o with name:=v }):=⟨T.Button.cl,T.Button.na 0 _ rfl,ZZi,Zej,fun _=>by show 3 < 1000; decide⟩
theorem Zci {K : PySem.W.Frag} {mg : Str → Option Value} (T : Txt K mg) : FldR K T.Button.C OButton.fs "deeds" OButton.deeds (fun o v=>{ o with deeds:=v }):=⟨T.Button.cl,T.Button.na 2 _ rfl,Zei,Zli,fun _=>by show 3 < 1000; decide⟩
abbrev Zlb {K : PySem.W.Frag} {mg : Str → Option Value} (T : Txt K mg) (H : Hp) (a : Addr) (o : OReader) : Prop:=AtO T.Reader.C OReader.fs H a o
theorem ZYb {K : PySem.W.Frag} {mg : Str → Option Value} (T : Txt K mg) : FldR K T.Reader.C OReader.fs "own_lines" OReader.own_lines (fun o v=>{ o with own_lines:=v }):=⟨T.Reader.cl,T.Reader.na 0 _ rfl,Zsg,Zzg,fun _=>by show 6 < 1000; decide⟩
theorem Z9 {K : PySem.W.Frag} {mg : Str → Option Value} (T : Txt K mg) : FldR K T.Reader.C OReader.fs "at" OReader.at_ (fun o v=>{ o with at_:=v }):=⟨T.Reader.cl,T.Reader.na 1 _ rfl,Zik,Zzk,fun _=>by show 6 < 1000; decide⟩
theorem ZJ {K : PySem.W.Frag} {mg : Str → Option Value} (T : Txt K mg) : FldR K T.Reader.C OReader.fs "own_tracks" OReader.own_tracks (fun o v=>{ o with own_tracks:=v }):=⟨T.Reader.cl,T.Reader.na 2 _ rfl,ZWf,Z5f,fun _=>by show 6 < 1000; decide⟩
theorem Zeb {K : PySem.W.Frag} {mg : Str → Option Value} (T : Txt K mg) : FldR K T.Reader.C OReader.fs "own_buttons" OReader.own_buttons (fun o v=>{ o with own_buttons:=v }):=⟨T.Reader.cl,T.Reader.na 3 _ rfl,Zuf,ZAf,fun _=>by show 6 < 1000; decide⟩
theorem ZOb {K : PySem.W.Frag} {mg : Str → Option Value} (T : Txt K mg) : FldR K T.Reader.C OReader.fs "own_bar" OReader.own_bar (fun o v=>{ o with own_bar:=v }):=⟨T.Reader.cl,T.Reader.na 4 _ rfl,Zeh,Zoh,fun _=>by show 6 < 1000; decide⟩
theorem ZBf {K : PySem.W.Frag} {mg : Str → Option Value} (T : Txt K mg) : FldR K T.Reader.C OReader.fs "later" OReader.later (fun o v=>{ o with later:=v }):=⟨T.Reader.cl,T.Reader.na 5 _ rfl,Zfi,Zmi,fun _=>by show 6 < 1000; decide⟩
abbrev Z4n {K : PySem.W.Frag} {mg : Str → Option Value} (T : Txt K mg) (H : Hp) (a : Addr) (o : OBoard) : Prop:=AtO T.Board.C OBoard.fs H a o
end Ev
end
section
namespace Ev
open PySem PySem.Spec PyProof.Rows L2
def Znp : PyData → Bool
 | .str s=>Zq s
 | _=>false
theorem Zcl : Zog = [48,49,50,51,52,53,54,55,56,57]:=by decide +kernel
theorem ZUf {s : Str} (h : figW s = true) : PySem.NumText.AllDigits s.cps.toList ∧ s.cps.toList ≠ [] ∧ s.length ≤ 9:=by
 unfold figW at h
 rw [Bool.and_eq_true,Bool.and_eq_true,decide_eq_true_iff,decide_eq_true_iff,List.all_eq_true] at h
 obtain ⟨⟨h1,h2⟩,h3⟩:=h
 refine ⟨fun c hc=>?_,fun e=>?_,h2⟩
 ·have:=h3 c hc
  rw [decide_eq_true_iff,Zcl] at this
  simp at this
  omega
 ·have h0 : s.cps.toList.length = 0:=by rw [e]; rfl
  have h4 : s.cps.toList.length = s.length:=by simp [Str.length]
  omega
def ZCn (K : PySem.W.Frag) : Sp:=fun vs H Q _=>∃ (f : Bool) (a : Addr) (xs : List V),vs = [.ref a] ∧ SqX K f H a xs ∧ xs.length ≤ 100000 ∧
 ((∃ ns : List Int,xs = ns.map V.int ∧ ∀ H',Same H H' → Q (.bl (ascB ltI ns)) H') ∨ ∃ ss : List Str,xs = ss.map V.str ∧ ∀ H',Same H H' → Q (.bl (ascB ltS ss)) H')
def ZDl (K : PySem.W.Frag) : Sp:=fun vs H Q _=>∃ s : Str,vs = [.str s] ∧ ZUj s ∧ ∀ H',Same H H' → Q (.int (Zs s)) H'
def Z8p : Sp:=fun vs H Q _=>∃ a b : Nat,vs = [.int (a : Int),.int (b : Int)] ∧ 0 < a ∧ 0 < b ∧ a ≤ 100000 ∧ b ≤ 100000 ∧ Q (.int (Nat.lcm a b : Nat)) H
theorem cut1 (xs : List V) : cutV xs (some 1) none = xs.drop 1:=by
 unfold cutV
 have e : HT.sIx xs.length 0 (some 1) = min 1 xs.length:=HT.sIx_nat xs.length 0 1
 rw [e,HT.sIx_none]
 cases xs with
 | nil=>rfl
 | cons a r=>simp
theorem Zqi {α : Type} (lt : α → α → Bool) (d : α) (l : List α) : ascB lt l = (((List.range (min l.length (l.drop 1).length)).map fun i=>lt (l.getD i d) (l.getD (i + 1) d)).all id):=by
 have h : (l.zip (l.drop 1)).map (fun p=>lt p.1 p.2) = (List.range (min l.length (l.drop 1).length)).map fun i=>lt (l.getD i d) (l.getD (i + 1) d):=by
  refine List.ext_getElem (by simp) fun i h1 h2=>?_
  have hi : i + 1 < l.length:=by simp at h2; omega
  simp [List.getD_eq_getElem?_getD,hi,show i < l.length by omega,Nat.add_comm 1 i]
 unfold ascB
 rw [← h,List.all_map]
 rfl
def ZEn (K : PySem.W.Frag) : Sp:=fun vs H Q _=>∃ x d,vs = [x] ∧ Dp K H x d ∧ (∀ s,d = .str s → ZUj s) ∧ ∀ H',Same H H' → Q (.bl (Znp d)) H'
theorem Zkj {s : Str} (h : ZUj s) : s.length ≤ sizeLine:=Zyb h
section
variable {P : Program} {w : World} {K : PySem.W.Frag} {mg : Str → Option Value} {base : Heap}
theorem ZKd (T : Txt K mg) : FnOk P w K mg base CX0 1 T.d_is_name.f T.d_is_name.fd ["value"] (ZEn K):=by
 refine T.d_is_name.F.ok ZVg (fun vs H Q E h=>?_) (fun cdv A outer s H vs Q E hr h=>?_)
 ·obtain ⟨x,d,rfl,_⟩:=h
  rfl
 ·obtain ⟨x,d,rfl,hd,hsh,k⟩:=h
  refine ⟨_,(pss_cons (ps_if (PW.pt (pw_or (pt_not (pt_val (pe_callB call_isi (by rfl) T.c.z_isinstance (by decide +kernel) (pa_cons (pv 0) (pa_cons (pe_bltn (v:=.ty "str") rfl T.c.z_str (by decide +kernel) rfl) pa_nil))))) (pw_or1 (pt_not (pt_chain op_le op_le pe_int (pe_callB call_len (by rfl) T.c.z_len (by decide +kernel) (pa_cons (pv 0) pa_nil)) (ZQb rfl T.c.g_MOST_LETTERS)))))) (pss_one (ps_ret pe_bl)) pss_nil) (pss_one (ps_ret (pe_callB (cr_all rfl) (by rfl) T.c.z_all (by decide +kernel) (pa_cons (pe_lc (own:=[("letter",1)]) (g:=(gName 1)) rfl ZVg.nd (pi_str (pv 0)) (blkOk_by (own:=[("letter",1)]) (N:=["value", "letter"]) (sc:=defScope Z5c) (by decide +kernel)) (fun _ _ _ _ _=>(pg_name (i:=1) ZVg.nd rfl (Or.inl rfl))) (fun _ _ _ _ _=>pts_nil) (fun _ _ _ _ _=>(pe_cmpR op_in_sign (pv 1) (ZQb rfl T.c.g_LETTERS) rfl))) pa_nil))))),?_⟩
  refine ⟨_,rfl,_,_,_,_,_,rfl,.ty _,ZSm hd,Zno d,_,rfl,?_⟩
  have k' : ∀ b H',Znp d = b → Same H H' → Q (.bl b) H':=fun b H' e s=>e ▸ k H' s
  cases hd with
  | str z=>
   have hz:=hsh z rfl
   have lz : z.cps.toList.length = z.length:=by simp [Str.length]
   refine iteF ⟨_,rfl,_,_,rfl,⟨Zkj hz,rfl⟩,_,_,rfl,rfl,_,rfl,?_⟩
   by_cases h1 : (1 : Int) ≤ (z.length : Int)
   ·refine ifT (dT h1) ?_
    refine ⟨_,_,rfl,rfl,_,rfl,?_⟩
    by_cases h2 : (z.length : Int) ≤ 8
    ·refine ifF (nT h2) ?_
     refine ⟨_,rfl,z,rfl,fun D hD=>?_⟩
     refine ZVi walk_str (fun i y _=>y = .bl (decide ((z.cps.toList.getD i 0) ∈ Zth))) (ZBg _) (by rw [show z.cps.size = z.length from rfl]; exact ZXc hz) hD (fun _ _=>trivial) ?_ ?_
     ·rintro i x H1 H2 Z F hi s ⟨rfl,c,hc,rfl⟩ hZ
      refine ⟨rfl,?_⟩
      refine ⟨_,rfl,_,_,rfl,rfl,hZ _ _ (Same.refl _) ?_⟩
      have : z.cps.toList.getD i 0 = c:=by rw [List.getD_eq_getElem?_getD,Array.getElem?_toList,hc]; rfl
      rw [this]
     ·intro H1 ys s e l r
      have eb:=Zmg (f:=fun i=>decide ((z.cps.toList.getD i 0) ∈ Zth)) l r
      refine ⟨D,_,rfl,.inl (.inl (by rw [e,eb])),k' _ _ ?_ s⟩
      show (decide (1 ≤ z.length) && decide (z.length ≤ 8) && z.cps.toList.all fun c=>decide (c ∈ Zth)) = _
      rw [decide_eq_true (p:=1 ≤ z.length) (by omega),decide_eq_true (p:=z.length ≤ 8) (by omega),Bool.true_and,Bool.true_and,Zrj]
      rfl
    ·refine ifT (nF h2) ?_
     refine k' _ _ ?_ (Same.refl _)
     show (decide (1 ≤ z.length) && decide (z.length ≤ 8) && _) = _
     rw [decide_eq_false (p:=z.length ≤ 8) (by omega),Bool.and_false,Bool.false_and]
   ·refine ifF (dF h1) ⟨_,rfl,?_⟩
    refine ifT rfl (k' _ _ ?_ (Same.refl _))
    show (decide (1 ≤ z.length) && decide (z.length ≤ 8) && _) = _
    rw [decide_eq_false (p:=1 ≤ z.length) (by omega),Bool.false_and,Bool.false_and]
  | non=>exact iteT (k' _ _ rfl (Same.refl _))
  | bl _=>exact iteT (k' _ _ rfl (Same.refl _))
  | int _=>exact iteT (k' _ _ rfl (Same.refl _))
  | lst _ _=>exact iteT (k' _ _ rfl (Same.refl _))
  | tup _ _=>exact iteT (k' _ _ rfl (Same.refl _))
theorem ZQj (T : Txt K mg) : FnOk P w K mg base CX0 1 T.d_do_ascend.f T.d_do_ascend.fd ["values"] (ZCn K):=by
 refine T.d_do_ascend.F.ok Znd (fun vs H Q E h=>?_) (fun cdv A outer s H vs Q E hr h=>?_)
 ·obtain ⟨f,a,xs,rfl,_⟩:=h
  rfl
 ·obtain ⟨f,a,xs,rfl,hx,hl,k⟩:=h
  refine ⟨_,(pss_one (ps_ret (pe_callB (cr_all rfl) (by rfl) T.c.z_all (by decide +kernel) (pa_cons (pe_lc (own:=[("one",1),("other",2)]) (g:=(gTup K 2 (gCons (gName 1) (gCons (gName 2) gNil)))) rfl Znd.nd (ZMo rfl T.c.z_zip (pa_cons (pv 0) (pa_cons (pe_slice (SlR.or sl_list sl_tupA) (pv 0) (po_some pe_int) po_none) pa_nil))) (blkOk_by (own:=[("one",1),("other",2)]) (N:=["values", "one", "other"]) (sc:=defScope ZSb) (by decide +kernel)) (fun _ _ _ _ _=>(pg_tup rfl (pgs_cons (pg_name (i:=1) Znd.nd rfl (Or.inl rfl)) (pgs_cons (pg_name (i:=2) Znd.nd rfl (Or.inl rfl)) pgs_nil)))) (fun _ _ _ _ _=>pts_nil) (fun _ _ _ _ _=>(pe_cmpR (OpR.or op_lt op_lt_str) (pv 1) (pv 2) (nomark _)))) pa_nil)))),?_⟩
  refine ⟨_,rfl,_,rfl,?_⟩
  have go : ∀ (g : Bool) (b : Addr) (H1 : Hp) (Qe : VK),Same H H1 → SqX K g H1 b (xs.drop 1) → (∀ D H2 ys,Same H H2 → H2 D = some (.lst ys) → ys.length = min xs.length (xs.drop 1).length →
    (∀ (i : Nat) (y : V),ys[i]? = some y → ∃ x1 x2,xs[i]? = some x1 ∧ xs[i + 1]? = some x2 ∧ ((∃ m n : Int,x1 = .int m ∧ x2 = .int n ∧ y = .bl (ltI m n)) ∨ ∃ m n : Str,x1 = .str m ∧ x2 = .str n ∧ y = .bl (ltS m n))) → Qe (.ref D) H2) →
    tLc (Zep K (tCons (tC (.ref a)) (tCons (tC (.ref b)) tNil))) (gTup K 2 (gCons (gName 1) (gCons (gName 2) gNil))) tYes (tOp (fun x y H Q=>(rI0 fun i j=>.bl (decide (i < j))) x y H Q ∨ (∃ i j,x = .str i ∧ y = .str j ∧ Q (.bl (decide (i.cps.toList < j.cps.toList))) H)) (tVar 1) (tVar 2)) [1,2] (L2.start ["values", "one", "other"] [.ref a]) H1 Qe:=by
   intro g b H1 Qe s1 hb hQ
   refine ⟨a,b,xs,xs.drop 1,f,g,rfl,s1.sqx hx,hb,fun D hD=>?_⟩
   refine ZVi (ZUm rfl) (fun i y _=>∃ x1 x2,xs[i]? = some x1 ∧ xs[i + 1]? = some x2 ∧ ((∃ m n : Int,x1 = .int m ∧ x2 = .int n ∧ y = .bl (ltI m n)) ∨ ∃ m n : Str,x1 = .str m ∧ x2 = .str n ∧ y = .bl (ltS m n))) (ZBg _) (Nat.lt_of_le_of_lt (Nat.min_le_left _ _) (ZXc hl)) hD (fun H' s'=>⟨s'.sqx (s1.sqx hx),s'.sqx hb⟩) ?_ fun H' ys s' e l r=>hQ D H' ys (s1.trans s') e l r
   rintro i v H2 H3 Z F hi s2 ⟨Tt,x,y,rfl,hT,rfl,e1,e2⟩ hZ
   have e1 : xs[i]? = some x:=e1
   have e2 : (xs.drop 1)[i]? = some y:=e2
   have e2' : xs[i + 1]? = some y:=by rw [List.getElem?_drop,Nat.add_comm] at e2; exact e2
   refine ⟨Tt,[x,y],rfl,.inl (.inl upd_same),rfl,_,_,rfl,_,_,rfl,rfl,?_⟩
   refine ⟨rfl,?_⟩
   rcases k with ⟨ns,rfl,_⟩ | ⟨ss,rfl,_⟩
   ·obtain ⟨m,rfl⟩ : ∃ m,x = .int m:=by
     rw [List.getElem?_map] at e1
     cases q : ns[i]? with
     | none=>rw [q] at e1; cases e1
     | some m=>rw [q] at e1; cases e1; exact ⟨m,rfl⟩
    obtain ⟨n,rfl⟩ : ∃ n,y = .int n:=by
     rw [List.getElem?_map] at e2'
     cases q : ns[i + 1]? with
     | none=>rw [q] at e2'; cases e2'
     | some m=>rw [q] at e2'; cases e2'; exact ⟨m,rfl⟩
    exact ⟨_,rfl,_,rfl,.inl ⟨m,n,rfl,rfl,hZ _ _ (ZA hT) ⟨_,_,e1,e2',.inl ⟨m,n,rfl,rfl,rfl⟩⟩⟩⟩
   ·obtain ⟨m,rfl⟩ : ∃ m,x = .str m:=by
     rw [List.getElem?_map] at e1
     cases q : ss[i]? with
     | none=>rw [q] at e1; cases e1
     | some m=>rw [q] at e1; cases e1; exact ⟨m,rfl⟩
    obtain ⟨n,rfl⟩ : ∃ n,y = .str n:=by
     rw [List.getElem?_map] at e2'
     cases q : ss[i + 1]? with
     | none=>rw [q] at e2'; cases e2'
     | some m=>rw [q] at e2'; cases e2'; exact ⟨m,rfl⟩
    exact ⟨_,rfl,_,rfl,.inr ⟨m,n,rfl,rfl,hZ _ _ (ZA hT) ⟨_,_,e1,e2',.inr ⟨m,n,rfl,rfl,rfl⟩⟩⟩⟩
  have fin : ∀ (D : Addr) (H2 : Hp) (ys : List V),Same H H2 → H2 D = some (.lst ys) → ys.length = min xs.length (xs.drop 1).length →
    (∀ (i : Nat) (y : V),ys[i]? = some y → ∃ x1 x2,xs[i]? = some x1 ∧ xs[i + 1]? = some x2 ∧ ((∃ m n : Int,x1 = .int m ∧ x2 = .int n ∧ y = .bl (ltI m n)) ∨ ∃ m n : Str,x1 = .str m ∧ x2 = .str n ∧ y = .bl (ltS m n))) →
    ∃ (q : Addr) (bs : List Bool),[V.ref D] = [V.ref q] ∧ SqL K H2 q (bs.map V.bl) ∧ Q (.bl (bs.all id)) H2:=by
   intro D H2 ys s2 e l r
   rcases k with ⟨ns,rfl,k⟩ | ⟨ss,rfl,k⟩
   ·have eb:=Zmg (f:=fun i=>ltI (ns.getD i 0) (ns.getD (i + 1) 0)) l fun i y hy=>by
     obtain ⟨x1,x2,h1,h2,h3⟩:=r i y hy
     rw [List.getElem?_map] at h1 h2
     cases q1 : ns[i]? with
     | none=>rw [q1] at h1; cases h1
     | some m=>
      cases q2 : ns[i + 1]? with
      | none=>rw [q2] at h2; cases h2
      | some n=>
       rw [q1] at h1
       rw [q2] at h2
       cases h1
       cases h2
       rcases h3 with ⟨m',n',em,en,rfl⟩ | ⟨m',n',em,en,rfl⟩
       ·cases em
        cases en
        rw [List.getD_eq_getElem?_getD,List.getD_eq_getElem?_getD,q1,q2]
        rfl
       ·cases em
    refine ⟨D,_,rfl,.inl (.inl (by rw [e,eb])),?_⟩
    have ea:=Zqi ltI 0 ns
    simp only [List.length_map,List.length_drop] at ea ⊢
    rw [← ea]
    exact k _ s2
   ·have eb:=Zmg (f:=fun i=>ltS (ss.getD i "") (ss.getD (i + 1) "")) l fun i y hy=>by
     obtain ⟨x1,x2,h1,h2,h3⟩:=r i y hy
     rw [List.getElem?_map] at h1 h2
     cases q1 : ss[i]? with
     | none=>rw [q1] at h1; cases h1
     | some m=>
      cases q2 : ss[i + 1]? with
      | none=>rw [q2] at h2; cases h2
      | some n=>
       rw [q1] at h1
       rw [q2] at h2
       cases h1
       cases h2
       rcases h3 with ⟨m',n',em,en,rfl⟩ | ⟨m',n',em,en,rfl⟩
       ·cases em
       ·cases em
        cases en
        rw [List.getD_eq_getElem?_getD,List.getD_eq_getElem?_getD,q1,q2]
        rfl
    refine ⟨D,_,rfl,.inl (.inl (by rw [e,eb])),?_⟩
    have ea:=Zqi ltS "" ss
    simp only [List.length_map,List.length_drop] at ea ⊢
    rw [← ea]
    exact k _ s2
  refine ⟨_,rfl,?_⟩
  cases f with
  | false=>
   refine .inl ⟨a,xs,rfl,hx,fun p hp=>?_⟩
   rw [cut1]
   exact go false p _ (fun v H2=>rAll K [v] H2 Q) (ZA hp) (.inl (.inl upd_same)) fin
  | true=>
   refine .inr ⟨a,xs,rfl,hx,fun h=>?_,fun h p hp=>?_⟩
   ·have e0 : xs.drop 1 = xs:=by
     have h1:=h.1
     rw [show HT.sIx xs.length 0 (some 1) = min 1 xs.length from HT.sIx_nat xs.length 0 1] at h1
     cases xs with
     | nil=>rfl
     | cons x r=>simp at h1
    exact go true a _ (fun v H2=>rAll K [v] H2 Q) (Same.refl _) (by rw [e0]; exact hx) fin
   ·rw [cut1]
    exact go true p _ (fun v H2=>rAll K [v] H2 Q) (ZA hp) (.inl (.inl upd_same)) fin
theorem Zld (T : Txt K mg) : FnOk P w K mg base CX0 1 T.d_common_multiple.f T.d_common_multiple.fd ["one", "other"] Z8p:=by
 refine T.d_common_multiple.F.ok Z5b (fun vs H Q E h=>?_) (fun cdv A outer s H vs Q E hr h=>?_)
 ·obtain ⟨a,b,rfl,_⟩:=h
  rfl
 ·obtain ⟨a,b,rfl,ha,hb,la,lb,k⟩:=h
  refine ⟨_,(pss_cons (ps_par (i:=2) (j:=3) (by rfl) Z5b.nd rfl rfl (by decide) rfl rfl (pa_cons (pv 0) (pa_cons (pv 1) pa_nil)) (by rfl)) (pss_cons (ps_while PassesOwn.never (ZRg (pt_cmpR op_gt (pv 3) pe_int (nomark _))) (pss_one (ps_par (i:=2) (j:=3) (by rfl) Z5b.nd rfl rfl (by decide) rfl rfl (pa_cons (pv 3) (pa_cons (pe_op op_mod (pv 2) (pv 3)) pa_nil)) (by rfl)))) (pss_one (ps_ret (pe_op op_mul (pe_op op_fdiv (pv 0) (pv 2)) (pv 1)))))),?_⟩
  refine ⟨_,rfl,_,rfl,_,_,rfl,?_⟩
  refine Z4e (fun m σ H'=>∃ x : Nat,σ = [some (.int (a : Int)),some (.int (b : Int)),some (.int (x : Int)),some (.int (m : Int))] ∧ H' = H ∧ Nat.gcd x m = Nat.gcd a b ∧ x ≤ 100000 ∧ m ≤ 100000 ∧ 0 < x) b ⟨a,rfl,rfl,rfl,la,lb,ha⟩ ?_
  rintro m σ H' ⟨x,rfl,rfl,hg,lx,ly,hx⟩
  refine ⟨_,rfl,_,_,rfl,rfl,_,rfl,?_⟩
  by_cases h0 : (0 : Int) < (m : Int)
  ·refine ifT (dT h0) ⟨_,rfl,_,rfl,_,rfl,_,_,rfl,rfl,h0,_,_,rfl,x % m,?_,m,?_,rfl,?_,ly,?_,by omega⟩
   ·exact Nat.mod_lt _ (by omega)
   ·show [some (V.int a),some (V.int b),some (V.int m),some (V.int ((x : Int) % (m : Int)))] = _
    rw [Int.natCast_emod]
   ·rw [← hg,Nat.gcd_comm x m,Nat.gcd_rec m x,Nat.gcd_comm]
   ·exact Nat.le_trans (Nat.mod_le _ _) lx
  ·refine ifF (dF h0) ?_
   have m0 : m = 0:=by omega
   subst m0
   rw [Nat.gcd_zero_right] at hg
   subst hg
   refine ⟨_,rfl,_,rfl,_,_,rfl,rfl,⟨by omega,by omega⟩,_,rfl,_,_,rfl,rfl,.inr ⟨by omega,by omega⟩,?_⟩
   have e : ((a : Int) / ((Nat.gcd a b : Nat) : Int) * (b : Int)) = ((Nat.lcm a b : Nat) : Int):=by
    rw [← Int.natCast_ediv,← Int.natCast_mul,Nat.lcm,Nat.div_mul_right_comm (Nat.gcd_dvd_left a b)]
   show Q (.int ((a : Int) / ((Nat.gcd a b : Nat) : Int) * (b : Int))) H'
   rw [e]
   exact k
theorem Zmd (T : Txt K mg) : FnOk P w K mg base CX0 1 T.d_number_in.f T.d_number_in.fd ["word"] (ZDl K):=by
 refine T.d_number_in.F.ok ZWe (fun vs H Q E h=>?_) (fun cdv A outer s H vs Q E hr h=>?_)
 ·obtain ⟨x,rfl,_⟩:=h
  rfl
 ·obtain ⟨z,rfl,hz,k⟩:=h
  refine ⟨_,(pss_cons (ps_if (PW.pt (pw_or (pt_not (pt_chain op_le op_le pe_int (pe_callB call_len (by rfl) T.c.z_len (by decide +kernel) (pa_cons (pv 0) pa_nil)) (ZQb rfl T.c.g_MOST_FIGURES))) (pw_or1 (pt_not (pt_val (pe_callB (cr_all rfl) (by rfl) T.c.z_all (by decide +kernel) (pa_cons (pe_lc (own:=[("figure",1)]) (g:=(gName 1)) rfl ZWe.nd (pi_str (pv 0)) (blkOk_by (own:=[("figure",1)]) (N:=["word", "figure"]) (sc:=defScope ZTb) (by decide +kernel)) (fun _ _ _ _ _=>(pg_name (i:=1) ZWe.nd rfl (Or.inl rfl))) (fun _ _ _ _ _=>pts_nil) (fun _ _ _ _ _=>(pe_cmpR op_in_sign (pv 1) (ZQb rfl T.c.g_FIGURES) rfl))) pa_nil))))))) (pss_one (ps_ret (pe_un un_neg pe_int))) pss_nil) (pss_one (ps_ret (pe_ifExp (PW.pt (pw_or (pt_cmpR op_eq (pv 0) pe_str (nomark _)) (pw_or1 (pt_cmpR op_ne (pe_ix ix_str (pv 0) pe_int (fun _ _=>rfl)) pe_str (nomark _))))) (pe_callTy call_int_str (by rfl) T.c.z_int (by decide +kernel) (pa_cons (pv 0) pa_nil)) (pe_un un_neg pe_int))))),?_⟩
  have lz : z.cps.toList.length = z.length:=by simp [Str.length]
  have k0 : ∀ H',¬ figW z = true → Same H H' → Q (.int (-1)) H':=fun H' e s=>by
   have:=k H' s
   rw [Zs,if_neg (fun q=>e q.1)] at this
   exact this
  refine ⟨_,rfl,_,_,rfl,⟨Zkj hz,rfl⟩,_,_,rfl,rfl,_,rfl,?_⟩
  by_cases h1 : (1 : Int) ≤ (z.length : Int)
  ·refine ifT (dT h1) ?_
   refine ⟨_,_,rfl,rfl,_,rfl,?_⟩
   by_cases h2 : (z.length : Int) ≤ 9
   ·refine ifF (nT h2) ?_
    refine ⟨_,rfl,z,rfl,fun D hD=>?_⟩
    refine ZVi walk_str (fun i y _=>y = .bl (decide ((z.cps.toList.getD i 0) ∈ Zog))) (ZBg _) (by rw [show z.cps.size = z.length from rfl]; exact ZXc hz) hD (fun _ _=>trivial) ?_ ?_
    ·rintro i x H1 H2 Z F hi s ⟨rfl,c,hc,rfl⟩ hZ
     refine ⟨rfl,?_⟩
     refine ⟨_,rfl,_,_,rfl,rfl,hZ _ _ (Same.refl _) ?_⟩
     have : z.cps.toList.getD i 0 = c:=by rw [List.getD_eq_getElem?_getD,Array.getElem?_toList,hc]; rfl
     rw [this]
    ·intro H1 ys s e l r
     have eb:=Zmg (f:=fun i=>decide ((z.cps.toList.getD i 0) ∈ Zog)) l r
     refine ⟨D,_,rfl,.inl (.inl (by rw [e,eb])),_,rfl,?_⟩
     have ef : figW z = (((List.range z.cps.size).map fun i=>decide ((z.cps.toList.getD i 0) ∈ Zog)).all id):=by
      unfold figW
      rw [decide_eq_true (p:=1 ≤ z.length) (by omega),decide_eq_true (p:=z.length ≤ 9) (by omega),Bool.true_and,Bool.true_and,Zrj]
      rfl
     rw [← ef]
     by_cases hf : figW z = true
     ·refine ifF (by rw [hf]; rfl) ?_
      obtain ⟨hd,hn,h9⟩:=ZUf hf
      obtain ⟨c0,r0,ec⟩ : ∃ c r,z.cps.toList = c :: r:=by
       cases q : z.cps.toList with
       | nil=>exact absurd q hn
       | cons c r=>exact ⟨c,r,rfl⟩
      have ez : ∀ l : Nat,(z = ⟨#[l]⟩) ↔ z.cps.toList = [l]:=fun l=>by
       constructor
       ·intro e
        rw [e]
       ·intro e
        obtain ⟨cs⟩:=z
        obtain ⟨cl⟩:=cs
        exact congrArg (fun q=>(⟨⟨q⟩⟩ : Str)) e
      have yes : (z.cps.toList = [48] ∨ z.cps.toList.head? ≠ some 48) → ∃ n : Int,PySem.intText? z = some n ∧ z.length ≤ 640 ∧ Q (.int n) H1:=fun q=>by
       refine ⟨_,PySem.intText_digits hd hn (by omega),by omega,?_⟩
       have:=k _ s
       rw [Zs,if_pos ⟨hf,q⟩] at this
       exact this
      refine ⟨_,rfl,rfl,_,rfl,?_⟩
      by_cases hz0 : z.cps.toList = [48]
      ·refine ifT (decide_eq_true (congrArg V.str ((ez 48).mpr hz0))) ?_
       obtain ⟨n,a1,a2,a3⟩:=yes (.inl hz0)
       exact ⟨_,rfl,_,n,rfl,a1,a2,a3⟩
      ·refine ifF (decide_eq_false fun q=>hz0 ((ez 48).mp (V.str.inj q))) ?_
       refine ⟨_,rfl,z,0,c0,rfl,rfl,Zkj hz,by rw [ec]; exact atI_nat (by rfl),rfl,_,rfl,?_⟩
       by_cases hc : c0 = 48
       ·refine ifF (by rw [hc]; rfl) ?_
        refine ⟨_,rfl,?_⟩
        have:=k _ s
        rw [Zs,if_neg (fun q=>by rcases q.2 with q | q; exact hz0 q; exact q (by rw [ec,hc]; rfl))] at this
        exact this
       ·refine ifT ?_ ?_
        ·refine congrArg (! ·) (decide_eq_false fun q=>hc ?_)
         have q1:=V.str.inj q
         have q2 : (⟨#[c0]⟩ : Str).cps.toList = [48]:=by rw [q1]; rfl
         exact (List.cons.inj q2).1
        ·obtain ⟨n,a1,a2,a3⟩:=yes (.inr (by rw [ec]; intro q; exact hc (Option.some.inj q)))
         exact ⟨_,rfl,_,n,rfl,a1,a2,a3⟩
     ·refine ifT (by rw [Bool.not_eq_true] at hf; rw [hf]; rfl) ?_
      exact ⟨_,rfl,k0 _ hf s⟩
   ·refine ifT (nF h2) ?_
    refine ⟨_,rfl,k0 _ (fun q=>h2 ?_) (Same.refl _)⟩
    have:=(ZUf q).2.2
    omega
  ·refine ifF (dF h1) ⟨_,rfl,?_⟩
   refine ifT rfl ⟨_,rfl,k0 _ (fun q=>h1 ?_) (Same.refl _)⟩
   have h3:=(ZUf q).2.1
   have : z.cps.toList.length ≠ 0:=fun e=>h3 (List.length_eq_zero_iff.mp e)
   omega
end
end Ev
end
section
namespace Ev
open PySem PySem.Spec PyProof.Rows L2
section
variable {K : PySem.W.Frag} {mg : Str → Option Value}
def Z5j (T : Txt K mg) (H : Hp) (a pl : Addr) (L : LoopM) : Prop:=
 ∃ ts,ZPn T H a ⟨.str L.name,.int (L.length : Int),.int (L.span : Int),.str L.then_,.ref pl⟩ ∧ H pl = some (.lst ts) ∧ DpAll K H ts (L.places.map Zzi)
def ZXb (T : Txt K mg) (H0 H : Hp) (a : Addr) (L : LoopM) : Prop:=∃ pl,H0 a = none ∧ H0 pl = none ∧ Z5j T H a pl L
theorem Z5j.same {T : Txt K mg} {H H' : Hp} {a pl : Addr} {L : LoopM} (h : Z5j T H a pl L) (s : Same H H') : Z5j T H' a pl L:=by
 obtain ⟨ts,h1,h2,h3⟩:=h
 exact ⟨ts,h1.same s,s _ _ h2,s.dpAll h3⟩
theorem ZXb.same {T : Txt K mg} {H0 H H' : Hp} {a : Addr} {L : LoopM} (h : ZXb T H0 H a L) (s : Same H H') : ZXb T H0 H' a L:=by
 obtain ⟨pl,n1,n2,h⟩:=h
 exact ⟨pl,n1,n2,h.same s⟩
theorem ZXb.back {T : Txt K mg} {H0 H1 H : Hp} {a : Addr} {L : LoopM} (h : ZXb T H1 H a L) (s : ∀ b,H1 b = none → H0 b = none) : ZXb T H0 H a L:=by
 obtain ⟨pl,n1,n2,h⟩:=h
 exact ⟨pl,s _ n1,s _ n2,h⟩
theorem ZXb.keep {T : Txt K mg} {H0 H H' : Hp} {S : List Addr} {a : Addr} {L : LoopM} (h : ZXb T H0 H a L) (k : Keep S H H') (nt : NT S H) (hS : ∀ s ∈ S,(∃ u,H0 s = some u) ∨ ∃ kvs,H s = some (.dK kvs)) : ZXb T H0 H' a L:=by
 obtain ⟨pl,n1,n2,ts,⟨dx,h1⟩,h2,h3⟩:=h
 refine ⟨pl,n1,n2,ts,⟨dx,k _ _ h1 fun q=>?_⟩,k _ _ h2 fun q=>?_,dpAll_keep k nt h3 (ZHc Z2c _)⟩
 ·rcases hS _ q with ⟨u,q⟩ | ⟨kvs,q⟩
  ·rw [n1] at q; cases q
  ·rw [h1] at q; cases q
 ·rcases hS _ q with ⟨u,q⟩ | ⟨kvs,q⟩
  ·rw [n2] at q; cases q
  ·rw [h2] at q; cases q
structure RC where
 a : Addr
 al : Addr
 dt : Addr
 db : Addr
 lr : Addr
 lines : List Str
def RdS (T : Txt K mg) (H : Hp) (c : RC) (rest : List Str) (bar : Nat) : Prop:=
 ∃ pre,c.lines = pre ++ rest ∧ Zlb T H c.a ⟨.ref c.al,.int (pre.length : Int),.ref c.dt,.ref c.db,.int (bar : Int),.ref c.lr⟩ ∧ H c.al = some (.lst (c.lines.map V.str)) ∧ ZIk c.lines
theorem RdS.same {T : Txt K mg} {H H' : Hp} {c : RC} {rest : List Str} {bar : Nat} (h : RdS T H c rest bar) (s : Same H H') : RdS T H' c rest bar:=by
 obtain ⟨pre,e,h1,h2,h3⟩:=h
 exact ⟨pre,e,h1.same s,s _ _ h2,h3⟩
end
def tabM : List (Key × V):=[(.inr "lasts",.int 4),(.inr "ends",.int 5),(.inr "goes",.int 6)]
theorem ZVo : mergeK [] tabM = tabM:=by decide +kernel
theorem ZOp : valV tabM (Sum.inr "lasts") = some (.int 4):=by decide +kernel
theorem ZMp : valV tabM (Sum.inr "ends") = some (.int 5):=by decide +kernel
theorem ZNp : valV tabM (Sum.inr "goes") = some (.int 6):=by decide +kernel
theorem Zmm {s : Str} (h : Zq s = true) : (!decide (V.str s = V.str "")) = true:=by
 rw [decide_eq_false]
 ·rfl
 ·intro q
  rw [V.str.inj q] at h
  exact absurd h (by decide +kernel)
def ZQm : Sp:=fun vs H Q _=>∃ (l : Str) (d : Nat),vs = [.str l,.int (d : Int)] ∧ l.length ≤ 50000 ∧ d ≤ 100 ∧ rowQ (Zp l (2 * d)) H Q
def Z9p {K : PySem.W.Frag} {mg : Str → Option Value} (T : Txt K mg) : Sp:=fun vs H Q _=>∃ (c : RC) (rest : List Str) (bar d : Nat),vs = [.ref c.a,.int (d : Int)] ∧ RdS T H c rest bar ∧ d ≤ 100 ∧ rowQ (rowW rest (2 * d)) H Q
def ZDn {K : PySem.W.Frag} {mg : Str → Option Value} (T : Txt K mg) : Sp:=fun vs H Q _=>∃ (c : RC) (rest : List Str) (bar d : Nat) (hd : Str),vs = [.ref c.a,.int (d : Int),.str hd] ∧ RdS T H c rest bar ∧ d ≤ 100 ∧ rowQ (Zdb rest (2 * d) hd) H Q
def ZCl {K : PySem.W.Frag} {mg : Str → Option Value} (T : Txt K mg) : Sp:=fun vs H Q _=>∃ (x dx : Addr) (nm th : Str) (n sp : Nat),vs = [.ref x,.str nm,.int (n : Int),.int (sp : Int),.str th] ∧ H x = some (.ins T.Loop.C dx []) ∧ n ≤ 1000 ∧
 ∀ H' pl,Keep [x] H H' → H pl = none → Z5j T H' x pl ⟨nm,n,sp,th,List.replicate n []⟩ → Q .non H'
section
variable {P : Program} {w : World} {K : PySem.W.Frag} {mg : Str → Option Value} {base : Heap}
theorem Znk (T : Txt K mg) : FnOk P w K mg base CX0 1 T.d_words_in.f T.d_words_in.fd ["line", "depth"] ZQm:=by
 refine T.d_words_in.F.ok Z6f (fun vs H Q E h=>?_) (fun cdv A outer s H vs Q E hr h=>?_)
 ·obtain ⟨l,d,rfl,_⟩:=h
  rfl
 ·obtain ⟨l,d,rfl,hl,hd,k⟩:=h
  refine ⟨_,(pss_cons (ps_set (i:=2) Z6f.nd rfl (Or.inl rfl) (pe_op Zqm (ZQb rfl T.c.g_BLANK) (pe_op op_mul (ZQb rfl T.c.g_DEEP) (pv 1)))) (pss_cons (ps_set (i:=3) Z6f.nd rfl (Or.inl rfl) (pe_split (pe_slice sl_str (pv 0) (po_some (pe_callB call_len (by rfl) T.c.z_len (by decide +kernel) (pa_cons (pv 2) pa_nil))) po_none) (ZQb rfl T.c.g_BLANK))) (pss_one (ps_ret (pe_ifExp (PW.pt (pw_and (pt_cmpR op_eq (pe_slice sl_str (pv 0) po_none (po_some (pe_callB call_len (by rfl) T.c.z_len (by decide +kernel) (pa_cons (pv 2) pa_nil)))) (pv 2) (nomark _)) (pw_and1 (pt_cmpR op_notIn_seq pe_str (pv 3) rfl)))) (pv 3) pe_non))))),?_⟩
  refine ⟨_,rfl,_,_,rfl,rfl,.inl ⟨by omega,by omega⟩,sB,2 * d,rfl,by rw [Int.natCast_mul]; rfl,by omega,by decide,?_⟩
  rw [Zkl]
  have bl : (Z3g (2 * d)).length ≤ sizeLine:=by rw [Zsi]; exact Zyb (by omega)
  have el : (((Z3g (2 * d)).length : Nat) : Int) = ((2 * d : Nat) : Int):=by rw [Zsi]
  have c1:=ZPl l (some ((2 * d : Nat) : Int)) none
  refine ⟨_,rfl,_,rfl,_,_,rfl,⟨bl,rfl⟩,_,rfl,l,rfl,Zyb (by omega),⟨_,rfl⟩,_,_,rfl,rfl,rfl,?_,fun p hp=>?_⟩
  ·rw [el,sizeLine_eq]
   omega
  rw [el]
  refine ⟨_,rfl,_,rfl,_,_,rfl,⟨bl,rfl⟩,_,rfl,l,rfl,Zyb (by omega),_,rfl,rfl,_,rfl,?_⟩
  rw [el]
  unfold Zp at k
  by_cases h1 : cutS l none (some ((2 * d : Nat) : Int)) = Z3g (2 * d)
  ·refine ifT (dT (congrArg V.str h1)) ?_
   refine ⟨_,rfl,p,_,rfl,.inl (.inl (.inl upd_same)),rfl,Zpg _,_,rfl,?_⟩
   have iv:=ZTi "" (Txt.split (cutS l (some ((2 * d : Nat) : Int)) none) sB)
   by_cases h2 : ("" : Str) ∈ Txt.split (cutS l (some ((2 * d : Nat) : Int)) none) sB
   ·refine ifF (by show (!inV _ _) = false; erw [iv]; rw [dT h2]; rfl) ?_
    rw [if_neg (fun q=>q.2 h2)] at k
    exact k _ (ZA hp)
   ·refine ifT (by show (!inV _ _) = true; erw [iv]; rw [dF h2]; rfl) ?_
    rw [if_pos ⟨h1,h2⟩] at k
    exact ⟨_,rfl,k _ p (ZA hp) hp upd_same⟩
  ·refine ifF (dF fun q=>h1 (V.str.inj q)) ?_
   rw [if_neg (fun q=>h1 q.1)] at k
   exact ifF rfl (k _ (ZA hp))
theorem Z6 (T : Txt K mg) : FnOk P w K mg base CX0 2 T.Reader.d_Reader_row.f T.Reader.d_Reader_row.fd ["self", "depth"] (Z9p T):=by
 refine T.Reader.d_Reader_row.F.ok Zij (fun vs H Q E h=>?_) (fun cdv A outer s H vs Q E hr h=>?_)
 ·obtain ⟨c,rest,bar,d,rfl,_⟩:=h
  rfl
 ·obtain ⟨c,rest,bar,d,rfl,⟨pre,e,ha,hal,sl⟩,hd,k⟩:=h
  refine ⟨_,(pss_one (ps_ret (pe_ifExp (pt_cmpR op_lt (ZH (Z9 T) (pv 0)) (pe_callB call_len (by rfl) T.c.z_len (by decide +kernel) (pa_cons (ZH (ZYb T) (pv 0)) pa_nil)) (nomark _)) (pe_call (Znk T) (hr.mono (by decide)) rfl T.g_words_in T.d_words_in.F.kp T.d_words_in.b .nil pass0 (pa_cons (pe_ix ix_list (ZH (ZYb T) (pv 0)) (ZH (Z9 T) (pv 0)) (fun _ _=>rfl)) (pa_cons (pv 1) pa_nil))) pe_non))),?_⟩
  refine ⟨_,rfl,c.a,_,rfl,ha,_,rfl,c.a,_,rfl,ha,_,_,rfl,.inl ⟨_,.inl (.inl hal),rfl⟩,_,_,rfl,rfl,_,rfl,?_⟩
  have el : ((c.lines.map V.str).length : Int) = (c.lines.length : Int):=by rw [List.length_map]
  have ln : c.lines.length = pre.length + rest.length:=by rw [e,List.length_append]
  rw [el]
  cases rest with
  | nil=>
   refine ifF (dF (by rw [ln]; simp)) ?_
   exact k _ (Same.refl _)
  | cons l r=>
   refine ifT (dT (by rw [ln,List.length_cons]; omega)) ?_
   have hi : (c.lines.map V.str)[pre.length]? = some (V.str l):=by
    rw [List.getElem?_map,e,List.getElem?_append_right (Nat.le_refl _),Nat.sub_self]
    rfl
   refine ⟨_,rfl,c.a,_,rfl,ha,_,rfl,c.a,_,rfl,ha,c.al,_,_,V.str l,rfl,rfl,.inl (.inl hal),atI_nat hi,_,rfl,l,d,rfl,sl.2 l (by rw [e]; simp),hd,k⟩
theorem Zqb (T : Txt K mg) : FnOk P w K mg base CX0 3 T.Reader.d_Reader_headed.f T.Reader.d_Reader_headed.fd ["self", "depth", "head"] (ZDn T):=by
 refine T.Reader.d_Reader_headed.F.ok Z8d (fun vs H Q E h=>?_) (fun cdv A outer s H vs Q E hr h=>?_)
 ·obtain ⟨c,rest,bar,d,hd,rfl,_⟩:=h
  rfl
 ·obtain ⟨c,rest,bar,d,hd,rfl,hc,ld,k⟩:=h
  have hc':=hc
  obtain ⟨pre,e,ha,hal,sl⟩:=hc
  refine ⟨_,(pss_cons (ps_set (i:=3) Z8d.nd rfl (Or.inl rfl) (Zob Zkb (pe_meth (Ztb (pv 0)) T.Reader.cl T.Reader.m_Reader_row (Z6 T) (hr.mono (by decide)) T.Reader.d_Reader_row.b .nil pass0 (pa_cons (pv 1) pa_nil)))) (pss_one (ps_ret (pe_ifExp (PW.pt (pw_and (pt_cmp (pc_notN (pv 3))) (pw_and1 (pt_cmpR op_eq (pe_ix ix_list (pv 3) pe_int (fun _ _=>rfl)) (pv 2) (nomark _))))) (pv 3) pe_non)))),?_⟩
  refine ⟨_,rfl,c.a,_,rfl,ha,_,rfl,c,rest,bar,d,rfl,hc',ld,?_⟩
  unfold Zdb at k
  cases er : rowW rest (2 * d) with
  | none=>
   rw [er] at k
   intro H' s'
   refine ⟨_,rfl,_,rfl,?_⟩
   refine ifF rfl ?_
   exact ifF rfl (k H' s')
  | some ws=>
   obtain ⟨sw,l1⟩:=Z2e er e sl
   cases ws with
   | nil=>cases l1
   | cons x r=>
    rw [er] at k
    intro H' p s' np hp
    refine ⟨_,rfl,_,rfl,?_⟩
    refine ifT rfl ?_
    refine ⟨_,rfl,p,_,_,V.str x,rfl,rfl,.inl (.inl hp),atI_nat rfl,_,rfl,rfl,_,rfl,?_⟩
    by_cases hx : x = hd
    ·refine ifT (dT (congrArg V.str hx)) ?_
     have k : rowQ (if x = hd then some (x :: r) else none) H Q:=k
     rw [if_pos hx] at k
     exact ⟨_,rfl,k H' p s' np hp⟩
    ·refine ifF (dF fun q=>hx (V.str.inj q)) ?_
     have k : rowQ (if x = hd then some (x :: r) else none) H Q:=k
     rw [if_neg hx] at k
     exact k H' s'
theorem Zhi (T : Txt K mg) : FnOk P w K mg base CX0 1 T.Loop.init.f T.Loop.init.fd ["self", "name", "length", "span", "then"] (ZCl T):=by
 refine T.Loop.init.F.ok Zni (fun vs H Q E h=>?_) (fun cdv A outer s H vs Q E hr h=>?_)
 ·obtain ⟨x,dx,nm,th,n,sp,rfl,_⟩:=h
  rfl
 ·obtain ⟨x,dx,nm,th,n,sp,rfl,hx,hn,k⟩:=h
  refine ⟨_,(pss_cons (ps_fld (pv 0) (pv 1) rfl) (pss_cons (ps_fld (pv 0) (pv 2) rfl) (pss_cons (ps_fld (pv 0) (pv 3) rfl) (pss_cons (ps_fld (pv 0) (pv 4) rfl) (pss_one (ps_fld (pv 0) (pe_op op_rep (pe_lst (pa_cons (pe_tup pa_nil) pa_nil)) (pv 2)) rfl)))))),?_⟩
  refine ⟨_,rfl,_,rfl,x,_,dx,_,rfl,hx,T.Loop.cl,T.Loop.na 0 _ rfl,by decide,?_⟩
  refine ⟨_,rfl,_,rfl,x,_,dx,_,rfl,upd_same,T.Loop.cl,T.Loop.na 1 _ rfl,by show 1 < 1000; decide,?_⟩
  refine ⟨_,rfl,_,rfl,x,_,dx,_,rfl,upd_same,T.Loop.cl,T.Loop.na 2 _ rfl,by show 2 < 1000; decide,?_⟩
  refine ⟨_,rfl,_,rfl,x,_,dx,_,rfl,upd_same,T.Loop.cl,T.Loop.na 3 _ rfl,by show 3 < 1000; decide,?_⟩
  refine ⟨by show 0 ≤ sizeLine; omega,fun t ht=>?_⟩
  have kp:=((((Keep.refl [x] H).put1 (u:=.ins T.Loop.C dx (putF "name" (.str nm) []))).put1 (u:=.ins T.Loop.C dx (putF "length" (.int (n : Int)) (putF "name" (.str nm) [])))).put1 (u:=.ins T.Loop.C dx (putF "span" (.int (sp : Int)) (putF "length" (.int (n : Int)) (putF "name" (.str nm) []))))).put1 (u:=.ins T.Loop.C dx (putF "then" (.str th) (putF "span" (.int (sp : Int)) (putF "length" (.int (n : Int)) (putF "name" (.str nm) [])))))
  refine ⟨by show 1 ≤ sizeLine; exact Z2p,fun l hl=>⟨_,rfl,l,(n : Int),[.ref t],rfl,rfl,upd_same,by omega,by omega,?_,fun p hp=>⟨_,rfl,x,_,dx,putF "then" (.str th) (putF "span" (.int (sp : Int)) (putF "length" (.int (n : Int)) (putF "name" (.str nm) []))),rfl,?_,T.Loop.cl,T.Loop.na 4 _ rfl,by show 4 < 1000; decide,?_⟩⟩⟩
  ·show 1 * (n : Int).toNat ≤ sizeLine
   rw [Int.toNat_natCast,sizeLine_eq]
   omega
  ·exact Z3 (Z3 (Z3 upd_same ht) hl) hp
  ·have k3:=((kp.new ht (u:=.tup [])).new hl (u:=.lst [.ref t])).new hp (u:=.lst (List.replicate (n : Int).toNat [V.ref t]).flatten)
   have fr : p ≠ x:=fun q=>by
    rw [q] at hp
    exact nomatch (hp.symm.trans (Z3 (Z3 upd_same ht) hl))
   refine k _ p k3.put1 (((kp.new ht (u:=.tup [])).new hl (u:=.lst [.ref t])).free hp (by simpa using fr)) ?_
   rw [Zsk,Zcj,Ztk,Zuk,Zdj]
   refine ⟨List.replicate n (.ref t),⟨dx,upd_same⟩,?_,?_⟩
   ·rw [upd_ne fr,upd_same,Int.toNat_natCast,Zzn]
   ·rw [List.map_replicate]
    refine ZAj (.tup (.inl (.inl ?_)) .nil) n
    have tx : t ≠ x:=fun q=>by rw [q] at ht; exact nomatch (ht.symm.trans upd_same)
    rw [upd_ne tx]
    exact Z3 (Z3 upd_same hl) hp
end
end Ev
end
section
namespace Ev
open PySem PySem.Spec PyProof.Rows L2 PL
def ZTo {K : PySem.W.Frag} {mg : Str → Option Value} (T : Txt K mg) : Sp:=fun vs H Q E=>∃ (c : RC) (rest : List Str) (bar : Nat) (b : Bool),vs = [.ref c.a,.bl b] ∧ RdS T H c rest bar ∧ (b = true → Q .non H) ∧ (b = false → BadS (T.e.C 0) ((c.lines.length : Int) - rest.length + 1) [] H E)
def ZPm {K : PySem.W.Frag} {mg : Str → Option Value} (T : Txt K mg) : Sp:=fun vs H Q _=>∃ (c : RC) (rest : List Str) (bar : Nat) (p : Addr) (ws : List Str),vs = [.ref c.a,.ref p] ∧ RdS T H c rest bar ∧ H p = some (.lst (ws.map V.str)) ∧ Zpi ws ∧ ("" : Str) ∉ ws ∧
 (Zfh ws = none → ∀ H',Same H H' → Q .non H') ∧ ∀ L,Zfh ws = some L → ∀ H' x pl,Same H H' → H x = none → H pl = none → Z5j T H' x pl L → Q (.ref x) H'
theorem ZPp {k : Str} (h1 : k ≠ "lasts") (h2 : k ≠ "ends") (h3 : k ≠ "goes") : valV tabM (Sum.inr k) = none:=by
 unfold tabM
 rw [valV_neg (fun e=>h1 (Sum.inr.inj e).symm),valV_neg (fun e=>h2 (Sum.inr.inj e).symm),valV_neg (fun e=>h3 (Sum.inr.inj e).symm)]
 rfl
theorem ZYi {α : Type} : ∀ {l : List α},l.length = 2 → ∃ a b,l = [a,b]
 | [a,b],_=>⟨a,b,rfl⟩
section
variable {P : Program} {w : World} {K : PySem.W.Frag} {mg : Str → Option Value} {base : Heap}
theorem Zt [OkPr P] (T : Txt K mg) : FnX P w K mg base 4 T.Reader.d_Reader_want.f T.Reader.d_Reader_want.fd ["self", "is_right"] (ZTo T):=by
 refine ZJg T.Reader.d_Reader_want.F Zoi (fun vs H Q E h=>?_) (fun cdv A outer s H vs Q E hg hh hr h=>?_)
 ·obtain ⟨c,rest,bar,b,rfl,_⟩:=h
  rfl
 ·obtain ⟨c,rest,bar,b,rfl,⟨pre,e,ha,hal,sl⟩,k1,k2⟩:=h
  refine ⟨_,(pss_one (ps_if (pt_not (pt_val (pv 1))) (pss_one (Z0h (k:=0) (takes_of rfl rfl rfl rfl) rfl (T.e.U P inferInstance) (T.e.made 0 (by decide)).1 T.e.b hg (hr.mono (by decide)) rfl (T.e.g 0 _ rfl) rfl hh (ZYf (T.e.made 0 (by decide)).1.ox) (pe_op op_add (ZH (Z9 T) (pv 0)) pe_int))) pss_nil)),?_⟩
  refine ⟨_,rfl,_,rfl,?_⟩
  cases b with
  | true=>exact ifF rfl (k1 rfl)
  | false=>
   refine ifT rfl ?_
   have ln : c.lines.length = pre.length + rest.length:=by rw [e,List.length_append]
   have:=sl.1
   refine ⟨_,rfl,c.a,_,rfl,ha,_,_,rfl,rfl,_,rfl,by omega,by omega,fun dx H3 s3 nd e3=>k2 rfl dx H3 (Keep.of _ s3) nd ?_⟩
   rw [e3,show ((pre.length : Int) + 1) = (c.lines.length : Int) - rest.length + 1 by omega]
theorem ZMg (T : Txt K mg) : FnOk P w K mg base CX0 3 T.Reader.d_Reader_loop_in.f T.Reader.d_Reader_loop_in.fd ["self", "row"] (ZPm T):=by
 refine T.Reader.d_Reader_loop_in.F.ok ZGb (fun vs H Q E h=>?_) (fun cdv A outer s H vs Q E hr h=>?_)
 ·obtain ⟨c,rest,bar,p,ws,rfl,_⟩:=h
  rfl
 ·obtain ⟨c,rest,bar,p,ws,rfl,hc,hp,sw,nem,kn,k⟩:=h
  refine ⟨_,(pss_cons (ps_set (i:=2) ZGb.nd rfl (Or.inl rfl) (pe_disp (pps_cons (ZQb rfl T.c.g_LASTS) pe_int (pps_cons (ZQb rfl T.c.g_ENDS) pe_int (pps_cons (ZQb rfl T.c.g_GOES) pe_int pps_nil))) (by rfl) (by rfl) (fun z=>by cases z) (by decide))) (pss_cons (ps_if (PW.pt (pw_or (pt_cmpR op_lt (pe_callB call_len (by rfl) T.c.z_len (by decide +kernel) (pa_cons (pv 1) pa_nil)) pe_int (nomark _)) (pw_or (pt_cmpR op_ne (pe_dget2 (hu_of hr) (pv 2) (pe_ix ix_list (pv 1) pe_int (fun _ _=>rfl)) pe_int ⟨rfl,rfl,rfl,rfl⟩) (pe_callB call_len (by rfl) T.c.z_len (by decide +kernel) (pa_cons (pv 1) pa_nil)) (nomark _)) (pw_or1 (pt_not (pt_val (pe_call (ZKd T) (hr.mono (by decide)) rfl T.g_is_name T.d_is_name.F.kp T.d_is_name.b .nil pass0 (pa_cons (pe_ix ix_list (pv 1) pe_int (fun _ _=>rfl)) pa_nil)))))))) (pss_one (ps_ret pe_non)) pss_nil) (pss_cons (ps_par (i:=3) (j:=4) (by rfl) ZGb.nd rfl rfl (by decide) rfl rfl (pa_cons (pe_call (Zmd T) (hr.mono (by decide)) rfl T.g_number_in T.d_number_in.F.kp T.d_number_in.b .nil pass0 (pa_cons (pe_ix ix_list (pv 1) pe_int (fun _ _=>rfl)) pa_nil)) (pa_cons (pe_ifExp (pt_cmpR op_eq (pe_ix ix_list (pv 1) pe_int (fun _ _=>rfl)) (ZQb rfl T.c.g_LASTS) (nomark _)) pe_int (pe_call (Zmd T) (hr.mono (by decide)) rfl T.g_number_in T.d_number_in.F.kp T.d_number_in.b .nil pass0 (pa_cons (pe_ix ix_list (pv 1) (pe_un un_neg pe_int) (fun _ _=>rfl)) pa_nil))) pa_nil)) (by rfl)) (pss_cons (ps_if (PW.pt (pw_or (pt_not (pt_chain op_le op_le pe_int (pv 3) (ZQb rfl T.c.g_MOST_LENGTH))) (pw_or1 (PW.pt (pw_and (pt_cmpR op_ne (pe_ix ix_list (pv 1) pe_int (fun _ _=>rfl)) (ZQb rfl T.c.g_LASTS) (nomark _)) (pw_and1 (pt_not (pt_chain op_le op_le pe_int (pv 4) (ZQb rfl T.c.g_MOST_ROUNDS))))))))) (pss_one (ps_ret pe_non)) pss_nil) (pss_cons (ps_set (i:=5) ZGb.nd rfl (Or.inl rfl) (pe_ifExp (pt_cmpR op_eq (pe_ix ix_list (pv 1) pe_int (fun _ _=>rfl)) (ZQb rfl T.c.g_GOES) (nomark _)) (pe_ix ix_list (pv 1) pe_int (fun _ _=>rfl)) pe_str)) (pss_cons (ps_if (PW.pt (pw_and (pt_cmpR op_ne (pv 5) pe_str (nomark _)) (pw_and1 (pt_not (pt_val (pe_call (ZKd T) (hr.mono (by decide)) rfl T.g_is_name T.d_is_name.F.kp T.d_is_name.b .nil pass0 (pa_cons (pv 5) pa_nil))))))) (pss_one (ps_ret pe_non)) pss_nil) (pss_one (ps_ret (pe_make T.Loop.made (Zhi T) (hr.mono (by decide)) rfl T.Loop.gC T.Loop.init.b .nil pass0 (pa_cons (pe_ix ix_list (pv 1) pe_int (fun _ _=>rfl)) (pa_cons (pv 3) (pa_cons (pe_op op_mul (pv 4) (pv 3)) (pa_cons (pv 5) pa_nil))))))))))))),?_⟩
  refine fun m hm=>?_
  refine ⟨upd_same,tabM,rfl,by decide,?_⟩
  have em : ∀ H',Same (upd (upd H m (.dK [])) m (.dK (mergeK [] tabM))) H' → H' m = some (.dK tabM):=fun H' s=>by
   have:=s m _ upd_same
   rw [ZVo] at this
   exact this
  have pm : Same H (upd (upd H m (.dK [])) m (.dK (mergeK [] tabM))):=fun b o e=>by
   have ne:=ne_of_none e hm
   rw [upd_ne ne,upd_ne ne]
   exact e
  generalize upd (upd H m (.dK [])) m (.dK (mergeK [] tabM)) = H1 at em pm ⊢
  have hp1:=pm _ _ hp
  refine ⟨_,rfl,_,_,rfl,.inl ⟨_,.inl (.inl hp1),rfl⟩,_,_,rfl,rfl,_,rfl,?_⟩
  have sw2 : ∀ x ∈ ws,ZUj x:=sw.2
  cases hlp : Zfh ws with
  | some L=>
   have hw:=Z2i hlp
   have k:=k L hlp
   cases hw with
   | @lasts w nm ln n hnm hln n1 n6=>
    refine ifF rfl ?_
    refine ⟨_,rfl,m,rfl,.inl ⟨_,.inl (em _ (Same.refl _))⟩,?_⟩
    refine ⟨_,rfl,p,_,_,V.str "lasts",rfl,rfl,.inl (.inl hp1),atI_nat rfl,_,DGet.k (k:=Sum.inr "lasts") (em _ (Same.refl _)),?_⟩
    rw [ZOp]
    refine ⟨_,rfl,_,_,rfl,.inl ⟨_,.inl (.inl hp1),rfl⟩,rfl,_,rfl,?_⟩
    refine ifF rfl ?_
    refine ⟨_,rfl,p,_,_,V.str nm,rfl,rfl,.inl (.inl hp1),atI_nat rfl,V.str nm,.str nm,rfl,.str nm,(fun s e=>by cases e; exact sw2 nm (by simp)),fun H2 s2=>?_⟩
    have hp2:=s2 _ _ hp1
    refine ⟨_,rfl,?_⟩
    refine ifF (by show (!(Zq nm)) = false; rw [hnm]; rfl) ?_
    refine ⟨_,rfl,p,_,_,V.str ln,rfl,rfl,.inl (.inl hp2),atI_nat rfl,ln,rfl,sw2 ln (by simp),fun H3 s3=>?_⟩
    have hp3:=s3 _ _ hp2
    rw [hln]
    refine ⟨_,rfl,p,_,_,V.str "lasts",rfl,rfl,.inl (.inl hp3),atI_nat rfl,rfl,_,rfl,?_⟩
    refine ifT rfl ?_
    have hp4:=hp3
    have s4:=pm.trans (s2.trans s3)
    refine ⟨_,_,rfl,?_⟩
    refine ⟨_,rfl,_,_,rfl,rfl,_,rfl,?_⟩
    refine ifT (dT (by omega)) ?_
    refine ⟨_,_,rfl,rfl,_,rfl,?_⟩
    refine ifF (nT (by omega)) ?_
    refine ⟨_,rfl,p,_,_,V.str "lasts",rfl,rfl,.inl (.inl hp4),atI_nat rfl,rfl,_,rfl,?_⟩
    refine ifF (by decide +kernel) ?_
    refine ifF rfl ?_
    refine ⟨_,rfl,p,_,_,V.str "lasts",rfl,rfl,.inl (.inl hp4),atI_nat rfl,rfl,_,rfl,?_⟩
    refine ifF (by decide +kernel) ?_
    refine ⟨_,rfl,rfl,_,rfl,?_⟩
    refine ifF (by decide +kernel) ?_
    refine ifF rfl ?_
    have sf:=s4
    refine ⟨_,rfl,p,_,_,V.str nm,rfl,rfl,.inl (.inl hp4),atI_nat rfl,_,rfl,_,rfl,_,rfl,_,_,rfl,rfl,.inl ⟨by omega,by omega⟩,_,rfl,fun x dx nx ndx ne=>?_⟩
    refine ⟨x,dx,nm, "",n,0 * n,by simp,upd_same,by omega,fun H6 pl k6 npl hL=>⟨rfl,?_⟩⟩
    have s6:=Znc nx ndx k6
    refine k H6 x pl (sf.trans s6) (sf.fresh nx) (sf.fresh ?_) (by simpa using hL)
    have n1 : pl ≠ x:=fun q=>by rw [q,upd_same] at npl; cases npl
    rw [upd_ne n1] at npl
    have n2 : pl ≠ dx:=fun q=>by rw [q,upd_same] at npl; cases npl
    rw [upd_ne n2] at npl
    exact npl
   | @ends w nm ln rd n r hnm hln n1 n6 hrd r1 r3=>
    refine ifF rfl ?_
    refine ⟨_,rfl,m,rfl,.inl ⟨_,.inl (em _ (Same.refl _))⟩,?_⟩
    refine ⟨_,rfl,p,_,_,V.str "ends",rfl,rfl,.inl (.inl hp1),atI_nat rfl,_,DGet.k (k:=Sum.inr "ends") (em _ (Same.refl _)),?_⟩
    rw [ZMp]
    refine ⟨_,rfl,_,_,rfl,.inl ⟨_,.inl (.inl hp1),rfl⟩,rfl,_,rfl,?_⟩
    refine ifF rfl ?_
    refine ⟨_,rfl,p,_,_,V.str nm,rfl,rfl,.inl (.inl hp1),atI_nat rfl,V.str nm,.str nm,rfl,.str nm,(fun s e=>by cases e; exact sw2 nm (by simp)),fun H2 s2=>?_⟩
    have hp2:=s2 _ _ hp1
    refine ⟨_,rfl,?_⟩
    refine ifF (by show (!(Zq nm)) = false; rw [hnm]; rfl) ?_
    refine ⟨_,rfl,p,_,_,V.str ln,rfl,rfl,.inl (.inl hp2),atI_nat rfl,ln,rfl,sw2 ln (by simp),fun H3 s3=>?_⟩
    have hp3:=s3 _ _ hp2
    rw [hln]
    refine ⟨_,rfl,p,_,_,V.str "ends",rfl,rfl,.inl (.inl hp3),atI_nat rfl,rfl,_,rfl,?_⟩
    refine ifF (by decide +kernel) ?_
    refine ⟨_,rfl,_,rfl,p,_,_,V.str rd,rfl,rfl,.inl (.inl hp3),(show atI _ (-1) = some (V.str rd) from rfl),rd,rfl,sw2 rd (by simp),fun H4 s4'=>?_⟩
    have hp4:=s4' _ _ hp3
    have s4:=pm.trans (s2.trans (s3.trans s4'))
    rw [hrd]
    refine ⟨_,_,rfl,?_⟩
    refine ⟨_,rfl,_,_,rfl,rfl,_,rfl,?_⟩
    refine ifT (dT (by omega)) ?_
    refine ⟨_,_,rfl,rfl,_,rfl,?_⟩
    refine ifF (nT (by omega)) ?_
    refine ⟨_,rfl,p,_,_,V.str "ends",rfl,rfl,.inl (.inl hp4),atI_nat rfl,rfl,_,rfl,?_⟩
    refine ifT (by decide +kernel) ?_
    refine ⟨_,rfl,_,_,rfl,rfl,_,rfl,?_⟩
    refine ifT (dT (by omega)) ?_
    refine ⟨_,_,rfl,rfl,_,rfl,?_⟩
    refine ifF (nT (by omega)) ?_
    refine ⟨_,rfl,p,_,_,V.str "ends",rfl,rfl,.inl (.inl hp4),atI_nat rfl,rfl,_,rfl,?_⟩
    refine ifF (by decide +kernel) ?_
    refine ⟨_,rfl,rfl,_,rfl,?_⟩
    refine ifF (by decide +kernel) ?_
    refine ifF rfl ?_
    have sf:=s4
    refine ⟨_,rfl,p,_,_,V.str nm,rfl,rfl,.inl (.inl hp4),atI_nat rfl,_,rfl,_,rfl,_,rfl,_,_,rfl,rfl,.inl ⟨by omega,by omega⟩,_,rfl,fun x dx nx ndx ne=>?_⟩
    refine ⟨x,dx,nm, "",n,r * n,rfl,upd_same,by omega,fun H6 pl k6 npl hL=>⟨rfl,?_⟩⟩
    have s6:=Znc nx ndx k6
    refine k H6 x pl (sf.trans s6) (sf.fresh nx) (sf.fresh ?_) hL
    have n1 : pl ≠ x:=fun q=>by rw [q,upd_same] at npl; cases npl
    rw [upd_ne n1] at npl
    have n2 : pl ≠ dx:=fun q=>by rw [q,upd_same] at npl; cases npl
    rw [upd_ne n2] at npl
    exact npl
   | @goes w nm ln th rd n r hnm hln n1 n6 hth hrd r1 r3=>
    refine ifF rfl ?_
    refine ⟨_,rfl,m,rfl,.inl ⟨_,.inl (em _ (Same.refl _))⟩,?_⟩
    refine ⟨_,rfl,p,_,_,V.str "goes",rfl,rfl,.inl (.inl hp1),atI_nat rfl,_,DGet.k (k:=Sum.inr "goes") (em _ (Same.refl _)),?_⟩
    rw [ZNp]
    refine ⟨_,rfl,_,_,rfl,.inl ⟨_,.inl (.inl hp1),rfl⟩,rfl,_,rfl,?_⟩
    refine ifF rfl ?_
    refine ⟨_,rfl,p,_,_,V.str nm,rfl,rfl,.inl (.inl hp1),atI_nat rfl,V.str nm,.str nm,rfl,.str nm,(fun s e=>by cases e; exact sw2 nm (by simp)),fun H2 s2=>?_⟩
    have hp2:=s2 _ _ hp1
    refine ⟨_,rfl,?_⟩
    refine ifF (by show (!(Zq nm)) = false; rw [hnm]; rfl) ?_
    refine ⟨_,rfl,p,_,_,V.str ln,rfl,rfl,.inl (.inl hp2),atI_nat rfl,ln,rfl,sw2 ln (by simp),fun H3 s3=>?_⟩
    have hp3:=s3 _ _ hp2
    rw [hln]
    refine ⟨_,rfl,p,_,_,V.str "goes",rfl,rfl,.inl (.inl hp3),atI_nat rfl,rfl,_,rfl,?_⟩
    refine ifF (by decide +kernel) ?_
    refine ⟨_,rfl,_,rfl,p,_,_,V.str rd,rfl,rfl,.inl (.inl hp3),(show atI _ (-1) = some (V.str rd) from rfl),rd,rfl,sw2 rd (by simp),fun H4 s4'=>?_⟩
    have hp4:=s4' _ _ hp3
    have s4:=pm.trans (s2.trans (s3.trans s4'))
    rw [hrd]
    refine ⟨_,_,rfl,?_⟩
    refine ⟨_,rfl,_,_,rfl,rfl,_,rfl,?_⟩
    refine ifT (dT (by omega)) ?_
    refine ⟨_,_,rfl,rfl,_,rfl,?_⟩
    refine ifF (nT (by omega)) ?_
    refine ⟨_,rfl,p,_,_,V.str "goes",rfl,rfl,.inl (.inl hp4),atI_nat rfl,rfl,_,rfl,?_⟩
    refine ifT (by decide +kernel) ?_
    refine ⟨_,rfl,_,_,rfl,rfl,_,rfl,?_⟩
    refine ifT (dT (by omega)) ?_
    refine ⟨_,_,rfl,rfl,_,rfl,?_⟩
    refine ifF (nT (by omega)) ?_
    refine ⟨_,rfl,p,_,_,V.str "goes",rfl,rfl,.inl (.inl hp4),atI_nat rfl,rfl,_,rfl,?_⟩
    refine ifT rfl ?_
    refine ⟨_,rfl,p,_,_,V.str th,rfl,rfl,.inl (.inl hp4),atI_nat rfl,?_⟩
    refine ⟨_,rfl,rfl,_,rfl,?_⟩
    refine ifT (Zmm hth) ?_
    refine ⟨_,rfl,V.str th,.str th,rfl,.str th,(fun s e=>by cases e; exact sw2 th (by simp)),fun H5 s5=>?_⟩
    have hp5:=s5 _ _ hp4
    refine ⟨_,rfl,?_⟩
    refine ifF (by show (!(Zq th)) = false; rw [hth]; rfl) ?_
    have sf:=s4.trans s5
    refine ⟨_,rfl,p,_,_,V.str nm,rfl,rfl,.inl (.inl hp5),atI_nat rfl,_,rfl,_,rfl,_,rfl,_,_,rfl,rfl,.inl ⟨by omega,by omega⟩,_,rfl,fun x dx nx ndx ne=>?_⟩
    refine ⟨x,dx,nm,th,n,r * n,rfl,upd_same,by omega,fun H6 pl k6 npl hL=>⟨rfl,?_⟩⟩
    have s6:=Znc nx ndx k6
    refine k H6 x pl (sf.trans s6) (sf.fresh nx) (sf.fresh ?_) hL
    have n1 : pl ≠ x:=fun q=>by rw [q,upd_same] at npl; cases npl
    rw [upd_ne n1] at npl
    have n2 : pl ≠ dx:=fun q=>by rw [q,upd_same] at npl; cases npl
    rw [upd_ne n2] at npl
    exact npl
  | none=>
   have kn0:=kn hlp
   by_cases l4 : ws.length < 4
   ·refine ifT (dT (by rw [List.length_map]; omega)) ?_
    exact kn0 _ pm
   ·refine ifF (dF (by rw [List.length_map]; omega)) ?_
    obtain ⟨w',nm,ln,kd,tl,rfl⟩ : ∃ w' nm ln kd tl,ws = w' :: nm :: ln :: kd :: tl:=by
     match ws,l4 with
     | [],h=>exact absurd (by simp) h
     | [_],h=>exact absurd (by simp) h
     | [_,_],h=>exact absurd (by simp) h
     | [_,_,_],h=>exact absurd (by simp) h
     | a :: b :: c :: d :: e,_=>exact ⟨a,b,c,d,e,rfl⟩
    refine ⟨_,rfl,m,rfl,.inl ⟨_,.inl (em _ (Same.refl _))⟩,?_⟩
    refine ⟨_,rfl,p,_,_,V.str kd,rfl,rfl,.inl (.inl hp1),atI_nat rfl,_,DGet.k (k:=Sum.inr kd) (em _ (Same.refl _)),?_⟩
    have len4 : ((List.map V.str (w' :: nm :: ln :: kd :: tl)).length : Int) = (tl.length : Int) + 4:=by
     simp only [List.map_cons,List.length_cons,List.length_map]
     omega
    by_cases q1 : kd = "lasts"
    ·subst q1
     rw [ZOp]
     refine ⟨_,rfl,_,_,rfl,.inl ⟨_,.inl (.inl hp1),rfl⟩,rfl,_,rfl,?_⟩
     rw [len4]
     by_cases tz : tl.length = 0
     ·obtain rfl:=List.length_eq_zero_iff.mp tz
      refine ifF rfl ?_
      refine ⟨_,rfl,p,_,_,V.str nm,rfl,rfl,.inl (.inl hp1),atI_nat rfl,V.str nm,.str nm,rfl,.str nm,(fun s e=>by cases e; exact sw2 nm (by simp)),fun H2 s2=>?_⟩
      have hp2:=s2 _ _ hp1
      refine ⟨_,rfl,?_⟩
      by_cases hnm : Zq nm = true
      ·refine ifF (by show (!(Zq nm)) = false; rw [hnm]; rfl) ?_
       refine ⟨_,rfl,p,_,_,V.str ln,rfl,rfl,.inl (.inl hp2),atI_nat rfl,ln,rfl,sw2 ln (by simp),fun H3 s3=>?_⟩
       have hp3:=s3 _ _ hp2
       have s4:=pm.trans (s2.trans s3)
       refine ⟨_,rfl,p,_,_,V.str "lasts",rfl,rfl,.inl (.inl hp3),atI_nat rfl,rfl,_,rfl,?_⟩
       refine ifT rfl ?_
       have hp4:=hp3
       refine ⟨_,_,rfl,?_⟩
       refine ⟨_,rfl,_,_,rfl,rfl,_,rfl,?_⟩
       by_cases c1 : 1 ≤ Zs ln
       ·refine ifT (dT c1) ?_
        refine ⟨_,_,rfl,rfl,_,rfl,?_⟩
        by_cases c2 : Zs ln ≤ 6
        ·exfalso
         have hlp : (if _ then _ else _) = none:=hlp
         rw [if_pos ⟨rfl,hnm,c1,c2⟩] at hlp
         cases hlp
        ·refine ifT (by show (!decide _) = true; rw [decide_eq_false c2]; rfl) ?_
         exact kn0 _ s4
       ·refine ifF (dF c1) ?_
        refine ⟨_,rfl,?_⟩
        refine ifT rfl ?_
        exact kn0 _ s4
      ·refine ifT (by show (!(Zq nm)) = true; rw [Bool.eq_false_iff.mpr hnm]; rfl) ?_
       exact kn0 _ (pm.trans s2)
     ·refine ifT (by show (!decide _) = true; rw [decide_eq_false fun q=>by injection q with q; omega]; rfl) ?_
      exact kn0 _ pm
    ·by_cases q2 : kd = "ends"
     ·have q1:=q2
      subst q1
      rw [ZMp]
      refine ⟨_,rfl,_,_,rfl,.inl ⟨_,.inl (.inl hp1),rfl⟩,rfl,_,rfl,?_⟩
      rw [len4]
      by_cases tz : tl.length = 1
      ·obtain ⟨rd,rfl⟩:=List.length_eq_one_iff.mp tz
       refine ifF rfl ?_
       refine ⟨_,rfl,p,_,_,V.str nm,rfl,rfl,.inl (.inl hp1),atI_nat rfl,V.str nm,.str nm,rfl,.str nm,(fun s e=>by cases e; exact sw2 nm (by simp)),fun H2 s2=>?_⟩
       have hp2:=s2 _ _ hp1
       refine ⟨_,rfl,?_⟩
       by_cases hnm : Zq nm = true
       ·refine ifF (by show (!(Zq nm)) = false; rw [hnm]; rfl) ?_
        refine ⟨_,rfl,p,_,_,V.str ln,rfl,rfl,.inl (.inl hp2),atI_nat rfl,ln,rfl,sw2 ln (by simp),fun H3 s3=>?_⟩
        have hp3:=s3 _ _ hp2
        have s4:=pm.trans (s2.trans s3)
        refine ⟨_,rfl,p,_,_,V.str "ends",rfl,rfl,.inl (.inl hp3),atI_nat rfl,rfl,_,rfl,?_⟩
        refine ifF (by decide +kernel) ?_
        refine ⟨_,rfl,_,rfl,p,_,_,V.str rd,rfl,rfl,.inl (.inl hp3),(show atI _ (-1) = some (V.str rd) from rfl),rd,rfl,sw2 rd (by simp),fun H4 s4'=>?_⟩
        have hp4:=s4' _ _ hp3
        have s4:=s4.trans s4'
        refine ⟨_,_,rfl,?_⟩
        refine ⟨_,rfl,_,_,rfl,rfl,_,rfl,?_⟩
        by_cases c1 : 1 ≤ Zs ln
        ·refine ifT (dT c1) ?_
         refine ⟨_,_,rfl,rfl,_,rfl,?_⟩
         by_cases c2 : Zs ln ≤ 6
         ·refine ifF (nT c2) ?_
          refine ⟨_,rfl,p,_,_,V.str "ends",rfl,rfl,.inl (.inl hp4),atI_nat rfl,rfl,_,rfl,?_⟩
          refine ifT (by decide +kernel) ?_
          refine ⟨_,rfl,_,_,rfl,rfl,_,rfl,?_⟩
          by_cases c3 : 1 ≤ Zs rd
          ·refine ifT (dT c3) ?_
           refine ⟨_,_,rfl,rfl,_,rfl,?_⟩
           by_cases c4 : Zs rd ≤ 3
           ·exfalso
            have hlp : (if _ then _ else _) = none:=hlp
            rw [if_pos ⟨rfl,hnm,c1,c2,c3,c4⟩] at hlp
            cases hlp
           ·refine ifT (by show (!decide _) = true; rw [decide_eq_false c4]; rfl) ?_
            exact kn0 _ s4
          ·refine ifF (dF c3) ?_
           refine ⟨_,rfl,?_⟩
           refine ifT rfl ?_
           exact kn0 _ s4
         ·refine ifT (by show (!decide _) = true; rw [decide_eq_false c2]; rfl) ?_
          exact kn0 _ s4
        ·refine ifF (dF c1) ?_
         refine ⟨_,rfl,?_⟩
         refine ifT rfl ?_
         exact kn0 _ s4
       ·refine ifT (by show (!(Zq nm)) = true; rw [Bool.eq_false_iff.mpr hnm]; rfl) ?_
        exact kn0 _ (pm.trans s2)
      ·refine ifT (by show (!decide _) = true; rw [decide_eq_false fun q=>by injection q with q; omega]; rfl) ?_
       exact kn0 _ pm
     ·by_cases q3 : kd = "goes"
      ·have q1:=q3
       subst q1
       rw [ZNp]
       refine ⟨_,rfl,_,_,rfl,.inl ⟨_,.inl (.inl hp1),rfl⟩,rfl,_,rfl,?_⟩
       rw [len4]
       by_cases tz : tl.length = 2
       ·obtain ⟨th,rd,rfl⟩:=ZYi tz
        refine ifF rfl ?_
        refine ⟨_,rfl,p,_,_,V.str nm,rfl,rfl,.inl (.inl hp1),atI_nat rfl,V.str nm,.str nm,rfl,.str nm,(fun s e=>by cases e; exact sw2 nm (by simp)),fun H2 s2=>?_⟩
        have hp2:=s2 _ _ hp1
        refine ⟨_,rfl,?_⟩
        by_cases hnm : Zq nm = true
        ·refine ifF (by show (!(Zq nm)) = false; rw [hnm]; rfl) ?_
         refine ⟨_,rfl,p,_,_,V.str ln,rfl,rfl,.inl (.inl hp2),atI_nat rfl,ln,rfl,sw2 ln (by simp),fun H3 s3=>?_⟩
         have hp3:=s3 _ _ hp2
         have s4:=pm.trans (s2.trans s3)
         refine ⟨_,rfl,p,_,_,V.str "goes",rfl,rfl,.inl (.inl hp3),atI_nat rfl,rfl,_,rfl,?_⟩
         refine ifF (by decide +kernel) ?_
         refine ⟨_,rfl,_,rfl,p,_,_,V.str rd,rfl,rfl,.inl (.inl hp3),(show atI _ (-1) = some (V.str rd) from rfl),rd,rfl,sw2 rd (by simp),fun H4 s4'=>?_⟩
         have hp4:=s4' _ _ hp3
         have s4:=s4.trans s4'
         refine ⟨_,_,rfl,?_⟩
         refine ⟨_,rfl,_,_,rfl,rfl,_,rfl,?_⟩
         by_cases c1 : 1 ≤ Zs ln
         ·refine ifT (dT c1) ?_
          refine ⟨_,_,rfl,rfl,_,rfl,?_⟩
          by_cases c2 : Zs ln ≤ 6
          ·refine ifF (nT c2) ?_
           refine ⟨_,rfl,p,_,_,V.str "goes",rfl,rfl,.inl (.inl hp4),atI_nat rfl,rfl,_,rfl,?_⟩
           refine ifT (by decide +kernel) ?_
           refine ⟨_,rfl,_,_,rfl,rfl,_,rfl,?_⟩
           by_cases c3 : 1 ≤ Zs rd
           ·refine ifT (dT c3) ?_
            refine ⟨_,_,rfl,rfl,_,rfl,?_⟩
            by_cases c4 : Zs rd ≤ 3
            ·refine ifF (nT c4) ?_
             refine ⟨_,rfl,p,_,_,V.str "goes",rfl,rfl,.inl (.inl hp4),atI_nat rfl,rfl,_,rfl,?_⟩
             refine ifT rfl ?_
             refine ⟨_,rfl,p,_,_,V.str th,rfl,rfl,.inl (.inl hp4),atI_nat rfl,?_⟩
             refine ⟨_,rfl,rfl,_,rfl,?_⟩
             have tne : th ≠ "":= fun z=>nem (by rw [z]; simp)
             refine ifT (by show (!decide _) = true; rw [decide_eq_false fun z=>tne (V.str.inj z)]; rfl) ?_
             refine ⟨_,rfl,V.str th,.str th,rfl,.str th,(fun s e=>by cases e; exact sw2 th (by simp)),fun H5 s5=>?_⟩
             refine ⟨_,rfl,?_⟩
             by_cases hth : Zq th = true
             ·exfalso
              have hlp : (if _ then _ else _) = none:=hlp
              rw [if_pos ⟨rfl,hnm,c1,c2,hth,c3,c4⟩] at hlp
              cases hlp
             ·refine ifT (by show (!(Zq th)) = true; rw [Bool.eq_false_iff.mpr hth]; rfl) ?_
              exact kn0 _ (s4.trans s5)
            ·refine ifT (by show (!decide _) = true; rw [decide_eq_false c4]; rfl) ?_
             exact kn0 _ s4
           ·refine ifF (dF c3) ?_
            refine ⟨_,rfl,?_⟩
            refine ifT rfl ?_
            exact kn0 _ s4
          ·refine ifT (by show (!decide _) = true; rw [decide_eq_false c2]; rfl) ?_
           exact kn0 _ s4
         ·refine ifF (dF c1) ?_
          refine ⟨_,rfl,?_⟩
          refine ifT rfl ?_
          exact kn0 _ s4
        ·refine ifT (by show (!(Zq nm)) = true; rw [Bool.eq_false_iff.mpr hnm]; rfl) ?_
         exact kn0 _ (pm.trans s2)
       ·refine ifT (by show (!decide _) = true; rw [decide_eq_false fun q=>by injection q with q; omega]; rfl) ?_
        exact kn0 _ pm
      ·rw [ZPp q1 q2 q3]
       refine ⟨_,rfl,_,_,rfl,.inl ⟨_,.inl (.inl hp1),rfl⟩,rfl,_,rfl,?_⟩
       rw [len4]
       refine ifT (by show (!decide _) = true; rw [decide_eq_false fun q=>by injection q with q; omega]; rfl) ?_
       exact kn0 _ pm
end
end Ev
end
section
namespace Ev
open PySem PySem.Spec PyProof.Rows L2 PL
section
variable {K : PySem.W.Frag} {mg : Str → Option Value}
def TrkP (T : Txt K mg) (H : Hp) (t d : Addr) (nm : Str) (loops : List LoopM) (as : List Addr) : Prop:=
 Z4j T H t ⟨.str nm,.ref d⟩ ∧ H d = some (.dK (kvN (·.name) loops as)) ∧ as.length = loops.length
end
theorem Z3o (f : Str → Bool) : ∀ ss : List Str,(((List.range ss.length).map fun i=>match ss[i]? with | some sn=>f sn | none=>true).all id) = ss.all f:=fun ss=>by
 rw [Bool.eq_iff_iff,List.all_eq_true,List.all_eq_true]
 constructor
 ·intro h x hx
  obtain ⟨i,hi,e⟩:=List.mem_iff_getElem.mp hx
  have:=h (f x) (List.mem_map.mpr ⟨i,List.mem_range.mpr hi,by rw [List.getElem?_eq_getElem hi,e]⟩)
  exact this
 ·intro h b hb
  obtain ⟨i,hi,e⟩:=List.mem_map.mp hb
  have hi:=List.mem_range.mp hi
  rw [List.getElem?_eq_getElem hi] at e
  rw [← e]
  exact h _ (List.getElem_mem hi)
def ZBk {K : PySem.W.Frag} {mg : Str → Option Value} (T : Txt K mg) : Sp:=fun vs H Q E=>∃ (c : RC) (bar : Nat) (t d p : Addr) (nm l : Str) (r ws : List Str) (loops : List LoopM) (as : List Addr) (xs : List V) (qs : List (Int × Addr × Str)),
 vs = [.ref c.a,.ref p,.ref t] ∧ RdS T H c (l :: r) bar ∧ TrkP T H t d nm loops as ∧ H p = some (.lst (ws.map V.str)) ∧ Zpi ws ∧ ("" : Str) ∉ ws ∧ loops.length ≤ 3 ∧
 H c.lr = some (.lst xs) ∧ xs.length ≤ 1000 ∧ LaterQ H xs qs ∧ (c.lr ≠ c.al) ∧ (∀ k,ZZb ws loops r = .error k → BadS (T.e.C 0) ((c.lines.length : Int) - k + 1) [c.a,c.lr,d] H E) ∧
 ∀ L rest1,ZZb ws loops r = .ok (L,rest1) → ∀ H' x xl ys,Keep [c.a,c.lr,d] H H' → RdS T H' c rest1 bar → TrkP T H' t d nm (loops ++ [L]) (as ++ [x]) → H x = none → H xl = none → Z5j T H' x xl L →
  H' c.lr = some (.lst ys) → ys.length ≤ xs.length + 1 → LaterQ H' ys (if L.then_ = "" then qs else qs ++ [((c.lines.length : Int) - r.length,t,L.then_)]) → Q .non H'
theorem Zjk {ws r : List Str} {ls : List LoopM} (h : Zfh ws = none) : ZZb ws ls r = .error (r.length + 1):=by
 unfold ZZb
 rw [h]
theorem Zyi {ws r : List Str} {ls : List LoopM} {L : LoopM} (h : Zfh ws = some L) (h2 : ¬ (L.name ∉ ls.map (·.name) ∧ ls.length < 3)) : ZZb ws ls r = .error (r.length + 1):=by
 unfold ZZb
 rw [h]
 dsimp only
 rw [if_neg h2]
theorem Zhm {ws r : List Str} {ls : List LoopM} {L : LoopM} (h : Zfh ws = some L) (h1 : L.name ∉ ls.map (·.name)) (h2 : ls.length < 3) : (∀ k,Z1 L.length (-1) L.places r = .error k → ZZb ws ls r = .error k) ∧ ∀ q,Z1 L.length (-1) L.places r = .ok q → ZZb ws ls r = .ok ({ L with places:=q.1 },q.2):=by
 unfold ZZb
 rw [h]
 dsimp only
 rw [if_pos ⟨h1,h2⟩]
 exact ⟨fun k e=>by rw [e],fun q e=>by rw [e]⟩
theorem ZRj {len : Nat} {last : Int} {pl : List (List Str)} {rest : List Str} (h : rowW rest 4 = none) : Z1 len last pl rest = .ok (pl,rest):=by
 cases rest with
 | nil=>rfl
 | cons l r=>
  have h : Zp l 4 = none:=h
  unfold Z1
  rw [h]
def Z9i (len : Nat) (last : Int) (w : Str) (ss : List Str) : Prop:=last < Zs w ∧ Zs w < len ∧ 1 ≤ ss.length ∧ ss.length ≤ 3 ∧ (ss.all Zq) = true ∧ ascB ltS ss = true
theorem Zrk {len : Nat} {last : Int} {pl : List (List Str)} {l w : Str} {r ss : List Str} (h : Zp l 4 = some (w :: ss)) (h2 : ¬ Z9i len last w ss) : Z1 len last pl (l :: r) = .error (r.length + 1):=by
 unfold Z1
 rw [h]
 exact if_neg h2
theorem Zil {len : Nat} {last : Int} {pl : List (List Str)} {l w : Str} {r ss : List Str} (h : Zp l 4 = some (w :: ss)) (h2 : Z9i len last w ss) : Z1 len last pl (l :: r) = Z1 len (Zs w) (pl.set (Zs w).toNat ss) r:=by
 conv=>lhs; unfold Z1
 rw [h]
 exact if_pos h2
theorem ZHk {l : Str} {n : Nat} {ws : List Str} (h : Zp l n = some ws) : ("" : Str) ∉ ws:=by
 unfold Zp at h
 split at h
 ·rename_i c
  cases h
  exact c.2
 ·cases h
section
variable {P : Program} {w : World} {K : PySem.W.Frag} {mg : Str → Option Value} {base : Heap}
theorem ZZf [OkPr P] (T : Txt K mg) : FnX P w K mg base 7 T.Reader.d_Reader_read_loop.f T.Reader.d_Reader_read_loop.fd ["self", "row", "track"] (ZBk T):=by
 refine ZJg T.Reader.d_Reader_read_loop.F Zw (fun vs H Q E h=>?_) (fun cdv A outer s H vs Q E hg hh hr h=>?_)
 ·obtain ⟨c,bar,t,d,p,nm,l,r,ws,loops,as,xs,qs,rfl,_⟩:=h
  rfl
 ·obtain ⟨c,bar,t,d,p,nm,l,r,ws,loops,as,xs,qs,rfl,hc,⟨ht,hd,la⟩,hp,sw,nem,l3,hl,lx,hL,nal,kb,k⟩:=h
  refine ⟨_,(pss_cons (ps_set (i:=3) Zw.nd rfl (Or.inl rfl) (Zob Zih (pe_meth (Ztb (pv 0)) T.Reader.cl T.Reader.m_Reader_loop_in (ZMg T) (hr.mono (by decide)) T.Reader.d_Reader_loop_in.b .nil pass0 (pa_cons (pv 1) pa_nil)))) (pss_cons (ps_expr (Zgb Zx (pv 0) T.Reader.cl T.Reader.m_Reader_want (Zt (P:=P) T) (takes_of rfl rfl rfl rfl) hg (hr.mono (by decide)) T.Reader.d_Reader_want.b (pa_cons (pe_and (pe_cmp (pc_notN (pv 3)) rfl) (pe_and (pe_cmp (pc_dnotin (hu_of hr) (ZH (ZMh T) (pv 3)) (ZH (ZS T) (pv 2))) rfl) (pe_one (pe_cmpR op_lt (pe_callB call_lenD (by rfl) T.c.z_len (by decide +kernel) (pa_cons (ZH (ZS T) (pv 2)) pa_nil)) (ZQb rfl T.c.g_MOST_LOOPS) (nomark _))))) pa_nil))) (pss_cons (ps_dput (hu_of hr) (ZH (ZS T) (pv 2)) (ZH (ZMh T) (pv 3)) (pv 3) rfl) (C8.pss_cut (ps_if (pt_cmpR op_ne (ZH (ZNh T) (pv 3)) pe_str (nomark _)) (pss_one (ps_expr (pe_bm PySem.F.plainAttrs_list PySem.F.slot_list_append PySem.F.type_list_append mt_append (ZH (ZBf T) (pv 0)) (pa_cons (pe_tup (pa_cons (pe_op op_add (ZH (Z9 T) (pv 0)) pe_int) (pa_cons (pv 2) (pa_cons (ZH (ZNh T) (pv 3)) pa_nil)))) pa_nil)))) pss_nil) (pss_cons (ZZh (Z9 T) (pv 0) pe_int in_add) (pss_cons (ps_set (i:=4) Zw.nd rfl (Or.inl rfl) (pe_un un_neg pe_int)) (pss_one (ps_while (passes_of rfl) (ZRg (pt_cmp (pc_notN (Zob Zkb (pe_meth (Ztb (pv 0)) T.Reader.cl T.Reader.m_Reader_row (Z6 T) (hr.mono (by decide)) T.Reader.d_Reader_row.b .nil pass0 (pa_cons pe_int pa_nil)))))) (pss_cons (ps_set (i:=1) Zw.nd rfl (Or.inl rfl) (Zob Zkb (pe_meth (Ztb (pv 0)) T.Reader.cl T.Reader.m_Reader_row (Z6 T) (hr.mono (by decide)) T.Reader.d_Reader_row.b .nil pass0 (pa_cons pe_int pa_nil)))) (pss_cons (ps_par (i:=5) (j:=6) (by rfl) Zw.nd rfl rfl (by decide) rfl rfl (pa_cons (pe_call (Zmd T) (hr.mono (by decide)) rfl T.g_number_in T.d_number_in.F.kp T.d_number_in.b .nil pass0 (pa_cons (pe_ix ix_list (pv 1) pe_int (fun _ _=>rfl)) pa_nil)) (pa_cons (pe_slice sl_list (pv 1) (po_some pe_int) po_none) pa_nil)) (by rfl)) (pss_cons (ps_expr (Zgb Zx (pv 0) T.Reader.cl T.Reader.m_Reader_want (Zt (P:=P) T) (takes_of rfl rfl rfl rfl) hg (hr.mono (by decide)) T.Reader.d_Reader_want.b (pa_cons (pe_and (pe_chain op_lt op_lt (pv 4) (pv 5) (ZH (ZQi T) (pv 3))) (pe_one (pe_chain op_le op_le pe_int (pe_callB call_len (by rfl) T.c.z_len (by decide +kernel) (pa_cons (pv 6) pa_nil)) (ZQb rfl T.c.g_MOST_SOUNDS)))) pa_nil))) (pss_cons (ps_expr (Zgb Zx (pv 0) T.Reader.cl T.Reader.m_Reader_want (Zt (P:=P) T) (takes_of rfl rfl rfl rfl) hg (hr.mono (by decide)) T.Reader.d_Reader_want.b (pa_cons (pe_and (pe_callB (cr_all rfl) (by rfl) T.c.z_all (by decide +kernel) (pa_cons (pe_lc (own:=[("sound",7)]) (g:=(gName 7)) rfl Zw.nd (pi_list (pv 6)) (blkOk_by (own:=[("sound",7)]) (N:=["self", "row", "track", "loop", "last", "place", "sounds", "sound"]) (sc:=defScope ZN) (by decide +kernel)) (fun _ _ _ _ _=>(pg_name (i:=7) Zw.nd rfl (Or.inl rfl))) (fun _ _ _ _ _=>pts_nil) (fun _ _ _ _ _=>(pe_call (ZKd T) (hr.mono (by decide)) rfl T.g_is_name T.d_is_name.F.kp T.d_is_name.b .nil pass0 (pa_cons (pv 7) pa_nil)))) pa_nil)) (pe_one (pe_call (ZQj T) (hr.mono (by decide)) rfl T.g_do_ascend T.d_do_ascend.F.kp T.d_do_ascend.b .nil pass0 (pa_cons (pv 6) pa_nil)))) pa_nil))) (pss_cons (ps_asg (pe_callTy call_tuple_of (by rfl) T.c.z_tuple (by decide +kernel) (pa_cons (pv 6) pa_nil)) (pg_sub (ZH (ZRi T) (pv 3)) (pv 5) set_list)) (pss_cons (ps_set (i:=4) Zw.nd rfl (Or.inl rfl) (pv 5)) (pss_one (ZZh (Z9 T) (pv 0) pe_int in_add)))))))))))))))),?_⟩
  have hc':=hc
  obtain ⟨pre,epre,ha,hal,sl⟩:=hc
  have bad0 : ZZb ws loops r = .error (r.length + 1) → ∀ {H1},Same H H1 → BadS (T.e.C 0) ((c.lines.length : Int) - (l :: r).length + 1) [] H1 E:=fun e H1 s=>(kb _ e).at_ s
  refine ⟨_,rfl,c.a,_,rfl,ha,_,rfl,c,l :: r,bar,p,ws,rfl,hc',hp,sw,nem,fun hno H1 s1=>?_,fun L hlp H1 x xl s1 nx nxl hX=>?_⟩
  ·refine ⟨_,rfl,c.a,_,rfl,ha.same s1,?_⟩
   refine ⟨_,rfl,false,rfl,?_⟩
   refine ifF rfl ?_
   exact ⟨c,l :: r,bar,false,rfl,hc'.same s1,nofun,fun _=>bad0 (Zjk hno) s1⟩
  obtain ⟨wf1,wf2,wf3,wf4,wf5⟩:=(Z2i hlp).facts
  obtain ⟨ts,hx1,hxl1,hts⟩:=hX
  have ha1:=ha.same s1
  have ht1:=ht.same s1
  have hd1:=s1 _ _ hd
  refine ⟨_,rfl,c.a,_,rfl,ha1,?_⟩
  refine ⟨_,rfl,true,rfl,?_⟩
  refine ifT rfl ?_
  by_cases hnm : L.name ∉ loops.map (·.name)
  case neg=>
   refine ⟨_,rfl,x,_,rfl,hx1,_,rfl,t,_,rfl,ht1,d,_,rfl,DGet.k (k:=Sum.inr L.name) hd1,false,?_,?_⟩
   ·show V.bl (!(valV _ _).isSome) = _
    rw [Z3e la (Classical.not_not.mp hnm)]
    rfl
   refine ifF rfl ?_
   exact ⟨c,l :: r,bar,false,rfl,hc'.same s1,nofun,fun _=>bad0 (Zyi hlp fun z=>hnm z.1) s1⟩
  refine ⟨_,rfl,x,_,rfl,hx1,_,rfl,t,_,rfl,ht1,d,_,rfl,DGet.k (k:=Sum.inr L.name) hd1,true,?_,?_⟩
  ·show V.bl (!(valV _ _).isSome) = _
   rw [Zxd hnm]
   rfl
  refine ifT rfl ?_
  refine ⟨_,rfl,t,_,rfl,ht1,d,_,rfl,hd1,_,_,rfl,rfl,c,l :: r,bar,_,rfl,hc'.same s1,fun hb=>?_,fun hb=>bad0 (Zyi hlp fun z=>?_) s1⟩
  rotate_left
  ·rw [ZWc la] at hb
   have:=of_decide_eq_false hb
   omega
  have l3 : loops.length < 3:=by
   rw [ZWc la] at hb
   have:=of_decide_eq_true hb
   omega
  obtain ⟨kb1,ko1⟩:=Zhm (r:=r) hlp hnm l3
  refine ⟨_,rfl,_,rfl,t,_,rfl,ht1,_,rfl,x,_,rfl,hx1,d,_,rfl,DPut.k (k:=Sum.inr L.name) hd1 (by rw [ZWc la]; exact ZXc (by omega)),?_⟩
  rw [Zxh (Zxd hnm)]
  have nxd : x ≠ d:=fun q=>by rw [q,hd] at nx; cases nx
  have nxld : xl ≠ d:=fun q=>by rw [q,hd] at nxl; cases nxl
  obtain ⟨dxa,ea⟩:=ha
  obtain ⟨dxt,et⟩:=ht
  have nad : c.a ≠ d:=ne_of ea hd (by intro z; cases z)
  have ntd : t ≠ d:=ne_of et hd (by intro z; cases z)
  have nald : c.al ≠ d:=ne_of hal hd (by intro z; cases z)
  have nlrd : c.lr ≠ d:=ne_of hl hd (by intro z; cases z)
  have nta : t ≠ c.a:=ne_of et ea (Zhp (by show (["name", "own_loops"] : List Str) ≠ (["own_lines", "at", "own_tracks", "own_buttons", "own_bar", "later"] : List Str); decide +kernel))
  have nala : c.al ≠ c.a:=ne_of hal ea (by intro z; cases z)
  have nlra : c.lr ≠ c.a:=ne_of hl ea (by intro z; cases z)
  have nxa : x ≠ c.a:=fun q=>by rw [q,ea] at nx; cases nx
  have nxla : xl ≠ c.a:=fun q=>by rw [q,ea] at nxl; cases nxl
  have nxlr : x ≠ c.lr:=fun q=>by rw [q,hl] at nx; cases nx
  have nxllr : xl ≠ c.lr:=fun q=>by rw [q,hl] at nxl; cases nxl
  have nxxl : xl ≠ x:=by
   obtain ⟨dxx,ex⟩:=hx1
   exact ne_of hxl1 ex (by intro z; cases z)
  have ntx : t ≠ x:=fun q=>by rw [← q,et] at nx; cases nx
  have NT3 : NT [c.a,c.lr,d] H:=by
   intro z hz u e
   simp at hz
   rcases hz with rfl | rfl | rfl
   ·rw [ea] at e; cases e; rfl
   ·rw [hl] at e; cases e; rfl
   ·rw [hd] at e; cases e; rfl
  let Std : Hp → Prop:=fun H'=>Keep [c.a,c.lr,d] H H' ∧ Z4j T H' t ⟨.str nm,.ref d⟩ ∧ H' d = some (.dK (kvN (·.name) loops as ++ [(Sum.inr L.name,V.ref x)])) ∧
   ZPn T H' x ⟨.str L.name,.int (L.length : Int),.int (L.span : Int),.str L.then_,.ref xl⟩
  have std2 : Std (upd H1 d (.dK (kvN (·.name) loops as ++ [(Sum.inr L.name,V.ref x)]))):=by
   refine ⟨(Keep.of _ s1).put (by simp),?_,upd_same,?_⟩
   ·obtain ⟨dx,e⟩:=ht1
    exact ⟨dx,by rw [upd_ne ntd]; exact e⟩
   ·obtain ⟨dx,e⟩:=hx1
    exact ⟨dx,by rw [upd_ne nxd]; exact e⟩
  have a2 : Zlb T (upd H1 d (.dK (kvN (·.name) loops as ++ [(Sum.inr L.name,V.ref x)]))) c.a ⟨.ref c.al,.int (pre.length : Int),.ref c.dt,.ref c.db,.int (bar : Int),.ref c.lr⟩:=by
   obtain ⟨dx,e⟩:=ha1
   exact ⟨dx,by rw [upd_ne nad]; exact e⟩
  have al2 : upd H1 d (.dK (kvN (·.name) loops as ++ [(Sum.inr L.name,V.ref x)])) c.al = some (.lst (c.lines.map V.str)):=by rw [upd_ne nald]; exact s1 _ _ hal
  have xl2 : upd H1 d (.dK (kvN (·.name) loops as ++ [(Sum.inr L.name,V.ref x)])) xl = some (.lst ts):=by rw [upd_ne nxld]; exact hxl1
  have lr2 : upd H1 d (.dK (kvN (·.name) loops as ++ [(Sum.inr L.name,V.ref x)])) c.lr = some (.lst xs):=by rw [upd_ne nlrd]; exact s1 _ _ hl
  have P2 : DpAll K (upd H1 d (.dK (kvN (·.name) loops as ++ [(Sum.inr L.name,V.ref x)]))) ts (L.places.map Zzi):=by
   refine dpAll_keep (S:=[d]) (H:=H1) ?_ ?_ hts (ZHc Z2c _)
   ·exact (Keep.refl _ _).put (by simp)
   ·intro z hz u e
    rw [List.mem_singleton] at hz
    rw [hz,hd1] at e
    cases e
    rfl
  have L2':=hL.keep std2.1 NT3
  generalize upd H1 d (.dK (kvN (·.name) loops as ++ [(Sum.inr L.name,V.ref x)])) = H2 at *
  refine ⟨fun σ' H'=>σ' = [some (.ref c.a),some (.ref p),some (.ref t),some (.ref x),none,none,none,none] ∧ Std H' ∧ Zlb T H' c.a ⟨.ref c.al,.int (pre.length : Int),.ref c.dt,.ref c.db,.int (bar : Int),.ref c.lr⟩ ∧
   H' c.al = some (.lst (c.lines.map V.str)) ∧ H' xl = some (.lst ts) ∧ DpAll K H' ts (L.places.map Zzi) ∧ ∃ ys,H' c.lr = some (.lst ys) ∧ ys.length ≤ xs.length + 1 ∧ LaterQ H' ys (if L.then_ = "" then qs else qs ++ [((c.lines.length : Int) - r.length,t,L.then_)]),?_,?_⟩
  ·obtain ⟨b1,b2,b3,b4⟩:=std2
   refine ⟨_,rfl,x,_,rfl,b4,rfl,_,rfl,?_⟩
   by_cases hth : L.then_ = ""
   ·refine ifF (by show (!decide _) = false; rw [dT (congrArg V.str hth)]; rfl) ?_
    exact ⟨rfl,⟨b1,b2,b3,b4⟩,a2,al2,xl2,P2,xs,lr2,by omega,by rw [if_pos hth]; exact L2'⟩
   ·refine ifT (by show (!decide _) = true; rw [dF fun q=>hth (V.str.inj q)]; rfl) ?_
    refine ⟨_,rfl,c.a,_,rfl,a2,.inl ⟨rfl,_,.inl (.inl lr2)⟩,_,rfl,c.a,_,rfl,a2,_,_,rfl,rfl,_,rfl,_,rfl,x,_,rfl,b4,by show 3 ≤ sizeLine; exact Zyb (by omega),fun tp htp=>?_⟩
    refine ⟨c.lr,xs,.ref tp,rfl,rfl,Z3 lr2 htp,ZXc (by omega),?_⟩
    have nl : ∀ b,(∃ u,H2 b = some u) → b ≠ tp:=fun b ⟨u,hu⟩=>ne_of_none hu htp
    have ftp : tp ≠ c.lr:=fun q=>by rw [q,lr2] at htp; cases htp
    have n1:=nl _ a2.some
    have n3:=nl _ b4.some
    have n4:=nl _ b2.some
    refine ⟨rfl,⟨(b1.new htp).put (by simp),(b2.put n4).put ?_,ZY (Z3 b3 htp) nlrd.symm,(b4.put n3).put nxlr⟩,(a2.put n1).put nlra.symm,ZY (Z3 al2 htp) nal.symm,ZY (Z3 xl2 htp) nxllr,?_,_,upd_same,by simp,?_⟩
    ·exact ne_of et hl (by intro z; cases z)
    ·refine dpAll_keep (S:=[c.lr]) (H:=H2) ?_ ?_ P2 (ZHc Z2c _)
     ·exact ((Keep.refl _ _).new htp).put (by simp)
     ·intro z hz u e
      rw [List.mem_singleton] at hz
      rw [hz,lr2] at e
      cases e
      rfl
    ·rw [if_neg hth]
     have ln : c.lines.length = pre.length + (r.length + 1):=by rw [epre,List.length_append,List.length_cons]
     refine LaterQ.snoc ?_ (by rw [upd_ne ftp,upd_same,show (c.lines.length : Int) - r.length = (pre.length : Int) + 1 by omega])
     refine L2'.keep (S:=[c.lr]) (((Keep.refl _ _).new htp).put (by simp)) ?_
     intro z hz u e
     rw [List.mem_singleton] at hz
     rw [hz,lr2] at e
     cases e
     rfl
  ·rintro σ' H' ⟨rfl,sd,a3,al3,xl3,P3,ys,lr3,ly,L3⟩
   have NTa : ∀ Hx,(∃ o,Zlb T Hx c.a o) → NT [c.a] Hx:=fun Hx ⟨o,dx,e⟩ z hz u e'=>by
    rw [List.mem_singleton] at hz
    rw [hz,e] at e'
    cases e'
    rfl
   refine ⟨_,rfl,c.a,_,rfl,a3,_,_,rfl,rfl,_,a3,fun H4 a4 k4=>?_⟩
   have kk4 : Keep [c.a] H' H4:=k4.keep (by simp)
   refine ⟨_,rfl,?_⟩
   refine Z4e (fun m σ H5=>∃ (last : Int) (rest : List Str) (plc : List (List Str)) (rw5 : V) (v5 v6 v7 : Option V) (ts5 : List V) (pre5 : List Str),m = rest.length ∧ σ = [some (.ref c.a),some rw5,some (.ref t),some (.ref x),some (.int last),v5,v6,v7] ∧ Std H5 ∧
    c.lines = pre5 ++ rest ∧ Zlb T H5 c.a ⟨.ref c.al,.int (pre5.length : Int),.ref c.dt,.ref c.db,.int (bar : Int),.ref c.lr⟩ ∧ H5 c.al = some (.lst (c.lines.map V.str)) ∧ H5 xl = some (.lst ts5) ∧ DpAll K H5 ts5 (plc.map Zzi) ∧ plc.length = L.length ∧ -1 ≤ last ∧ Z1 L.length last plc rest = Z1 L.length (-1) L.places r ∧
    H5 c.lr = some (.lst ys) ∧ LaterQ H5 ys (if L.then_ = "" then qs else qs ++ [((c.lines.length : Int) - r.length,t,L.then_)])) r.length ⟨-1,r,L.places,_,_,_,_,ts,pre ++ [l],rfl,rfl,?_,by rw [epre]; simp,?_,?_,?_,?_,wf4,Int.le_refl _,rfl,?_,?_⟩ ?_
   ·obtain ⟨b1,b2,b3,b4⟩:=sd
    exact ⟨b1.but k4 (by simp),b2.but k4 nta,by rw [k4.off d nad.symm]; exact b3,b4.but k4 nxa⟩
   ·rw [List.length_append]
    exact a4
   ·rw [k4.off c.al nala]; exact al3
   ·rw [k4.off xl nxla]; exact xl3
   ·exact dpAll_keep kk4 (NTa _ ⟨_,a3⟩) P3 (ZHc Z2c _)
   ·rw [k4.off c.lr nlra]; exact lr3
   ·exact L3.keep kk4 (NTa _ ⟨_,a3⟩)
   ·rintro m σ H5 ⟨last,rest,plc,rw5,v5,v6,v7,ts5,pre5,rfl,rfl,sd5,ep5,a5,al5,xl5,P5,lp5,l15,hp5,lr5,L5⟩
    have R5 : RdS T H5 c rest bar:=⟨pre5,ep5,a5,al5,sl⟩
    refine ⟨_,rfl,c.a,_,rfl,a5,c,rest,bar,2,rfl,R5,by decide,?_⟩
    have kb5 : ∀ {k},Z1 L.length last plc rest = .error k → BadS (T.e.C 0) ((c.lines.length : Int) - k + 1) [] H5 E:=fun e=>(kb _ (kb1 _ (hp5.symm.trans e))).later sd5.1 (ne3 a5.some ⟨_,lr5⟩ ⟨_,sd5.2.2.1⟩) (fun x hx=>by cases hx)
    cases er : rowW rest 4 with
    | none=>
     have ko:=ko1 _ (hp5.symm.trans (ZRj er))
     intro H6 s6
     refine ⟨_,rfl,?_⟩
     refine ifF rfl ?_
     obtain ⟨b1,b2,b3,b4⟩:=sd5
     refine k _ _ ko H6 x xl ys (b1.same s6) (R5.same s6) ⟨b2.same s6,?_,by simp [la]⟩ nx nxl ⟨ts5,b4.same s6,s6 _ _ xl5,s6.dpAll P5⟩ (s6 _ _ lr5) ly (L5.same s6)
     rw [Zsh la]
     exact s6 _ _ b3
    | some ws5=>
     obtain ⟨l',r',rfl⟩ : ∃ l' r',rest = l' :: r':=by
      cases rest with
      | nil=>cases er
      | cons l' r'=>exact ⟨l',r',rfl⟩
     have hw' : Zp l' 4 = some ws5:=er
     obtain ⟨w',ss,rfl⟩ : ∃ w' ss,ws5 = w' :: ss:=by
      have:=(ZJc hw' (sl.2 l' (by rw [ep5]; simp))).2
      cases ws5 with
      | nil=>simp at this
      | cons w' ss=>exact ⟨w',ss,rfl⟩
     have er : rowW (l' :: r') (2 * 2) = some (w' :: ss):=hw'
     intro H6 q6 s6 nq6 hq6
     refine ⟨_,rfl,?_⟩
     refine ifT rfl ?_
     have q56:=sd5
     obtain ⟨b1,b2,b3,b4⟩:=sd5
     have R6:=R5.same s6
     refine ⟨_,rfl,c.a,_,rfl,a5.same s6,c,l' :: r',bar,2,rfl,R6,by decide,?_⟩
     rw [er]
     intro H7 q7 s7 nq7 hq7
     have s57:=s6.trans s7
     have sww:=(ZJc hw' (sl.2 l' (by rw [ep5]; simp))).1.2
     refine ⟨_,rfl,q7,_,_,V.str w',rfl,rfl,.inl (.inl hq7),atI_nat rfl,w',rfl,sww w' (by simp),fun H8 s8=>?_⟩
     refine ⟨_,rfl,_,rfl,q7,_,rfl,.inl (.inl (s8 _ _ hq7)),fun q9 nq9=>?_⟩
     rw [cut1,show (List.map V.str (w' :: ss)).drop 1 = ss.map V.str from rfl]
     have s59 : Same H5 (upd H8 q9 (.lst (ss.map V.str))):=(s57.trans s8).new nq9
     have hq9 : upd H8 q9 (.lst (ss.map V.str)) q9 = some (.lst (ss.map V.str)):=upd_same
     have fq9 : H5 q9 = none:=(s57.trans s8).fresh nq9
     refine ⟨_,_,rfl,?_⟩
     generalize upd H8 q9 (.lst (ss.map V.str)) = H9 at s59 hq9 ⊢
     have R9:=R5.same s59
     have bad9 : ¬ Z9i L.length last w' ss → BadS (T.e.C 0) ((c.lines.length : Int) - (l' :: r').length + 1) [] H9 E:=fun z=>(kb5 (Zrk hw' z)).at_ s59
     refine ⟨_,rfl,c.a,_,rfl,a5.same s59,?_⟩
     refine ⟨_,rfl,_,rfl,_,_,rfl,rfl,_,rfl,?_⟩
     by_cases c1 : last < Zs w'
     case neg=>
      refine ifF (dF c1) ?_
      exact ⟨_,rfl,ifF rfl ⟨c,l' :: r',bar,false,rfl,R9,nofun,fun _=>bad9 fun z=>c1 z.1⟩⟩
     refine ifT (dT c1) ⟨_,rfl,x,_,rfl,b4.same s59,_,_,rfl,rfl,_,rfl,?_⟩
     by_cases c2 : Zs w' < (L.length : Int)
     case neg=>
      refine ifF (dF c2) ?_
      exact ⟨c,l' :: r',bar,false,rfl,R9,nofun,fun _=>bad9 fun z=>c2 z.2.1⟩
     refine ifT (dT c2) ?_
     have l9 : ((ss.map V.str).length : Int) = (ss.length : Int):=by rw [List.length_map]
     refine ⟨_,rfl,_,_,rfl,.inl ⟨_,.inl (.inl hq9),rfl⟩,_,_,rfl,rfl,_,rfl,?_⟩
     by_cases c3 : 1 ≤ ss.length
     case neg=>
      refine ifF (dF (by omega)) ?_
      exact ⟨c,l' :: r',bar,false,rfl,R9,nofun,fun _=>bad9 fun z=>c3 z.2.2.1⟩
     refine ifT (dT (by omega)) ?_
     refine ⟨_,_,rfl,rfl,c,l' :: r',bar,_,rfl,R9,fun hb=>?_,fun hb=>bad9 fun z=>?_⟩
     rotate_left
     ·have:=of_decide_eq_false hb
      have:=z.2.2.2.1
      omega
     have c4 : ss.length ≤ 3:=by
      have:=of_decide_eq_true hb
      omega
     refine ⟨_,rfl,c.a,_,rfl,a5.same s59,?_⟩
     refine ⟨_,rfl,q9,rfl,⟨_,.inl (.inl hq9)⟩,fun D hD=>?_⟩
     refine ZVi walk_list (fun i y _=>y = .bl (match ss[i]? with | some sn=>Zq sn | none=>true)) (ZBg _) (by rw [List.length_map]; exact ZXc (by omega)) hD (fun Hx sx=>.inl (.inl (sx _ _ hq9))) ?_ ?_
     ·rintro i v Hx Hy Z F hi sx ⟨rfl,ey⟩ hZ
      have ey : (ss.map V.str)[i]? = some v:=ey
      rw [List.getElem?_map] at ey
      cases q : ss[i]? with
      | none=>rw [q] at ey; cases ey
      | some sn=>
       rw [q] at ey
       cases ey
       have hmem:=List.mem_of_getElem? q
       refine ⟨rfl,?_⟩
       refine ⟨_,rfl,.str sn,.str sn,rfl,.str sn,(fun z ez=>by cases ez; exact sww sn (by simp [hmem])),fun Hz sz=>?_⟩
       exact hZ _ _ sz (by show V.bl (Zq sn) = _; rw [q])
     ·intro H10 zs s10 e10 l10 r10
      have eb:=Zmg (f:=fun i=>match ss[i]? with | some sn=>Zq sn | none=>true) l10 r10
      have s510:=s59.trans s10
      have ea : (((List.range (ss.map V.str).length).map fun i=>match ss[i]? with | some sn=>Zq sn | none=>true).all id) = ss.all Zq:=by
       rw [List.length_map]
       exact Z3o Zq ss
      refine ⟨D,_,rfl,.inl (.inl (by rw [e10,eb])),ss.all Zq,?_,?_⟩
      ·rw [ea]
      by_cases c5 : ss.all Zq = true
      case neg=>
       refine ifF (Bool.eq_false_iff.mpr c5) ?_
       exact ⟨c,l' :: r',bar,false,rfl,R5.same s510,nofun,fun _=>(bad9 fun z=>c5 z.2.2.2.2.1).at_ s10⟩
      refine ifT c5 ?_
      refine ⟨_,rfl,false,q9,_,rfl,.inl (.inl (s10 _ _ hq9)),by rw [List.length_map]; omega,.inr ⟨ss,rfl,fun H11 s11=>?_⟩⟩
      have s511:=s510.trans s11
      refine ⟨c,l' :: r',bar,_,rfl,R5.same s511,fun hb=>?_,fun hb=>(bad9 fun z=>?_).at_ (s10.trans s11)⟩
      rotate_left
      ·rw [z.2.2.2.2.2] at hb
       cases hb
      have hok : Z9i L.length last w' ss:=⟨c1,c2,c3,c4,c5,hb⟩
      obtain ⟨n,hn'⟩ : ∃ n : Nat,Zs w' = (n : Int):=⟨(Zs w').toNat,by omega⟩
      have hp' : Z1 L.length (n : Int) (plc.set n ss) r' = Z1 L.length (-1) L.places r:=by
       rw [← hp5,Zil hw' hok,hn']
       rfl
      have hlt : n < L.length:=by omega
      rw [hn']
      refine ⟨_,rfl,q9,_,rfl,.inl ⟨.inl (.inl ((s10.trans s11) _ _ hq9)),fun q12 n12=>?_⟩⟩
      have s512 : Same H5 (upd H11 q12 (.tup (ss.map V.str))):=s511.new n12
      have hq12 : upd H11 q12 (.tup (ss.map V.str)) q12 = some (.tup (ss.map V.str)):=upd_same
      generalize upd H11 q12 (.tup (ss.map V.str)) = H12 at s512 hq12 ⊢
      have lts : ts5.length = L.length:=by
       have:=P5.len
       rw [List.length_map] at this
       omega
      refine ⟨_,rfl,x,_,rfl,b4.same s512,_,rfl,xl,ts5,(n : Int),n,rfl,rfl,s512 _ _ xl5,?_,?_⟩
      ·unfold ixN
       rw [if_pos (by omega),if_pos (by omega),Int.toNat_natCast]
      have nxx : xl ≠ x:=nxxl
      have k13 : Keep [xl] H12 (upd H12 xl (.lst (ts5.set n (.ref q12)))):=(Keep.refl _ _).put (by simp)
      have NT13 : NT [xl] H12:=by
       intro z hz u e
       rw [List.mem_singleton] at hz
       rw [hz,s512 _ _ xl5] at e
       cases e
       rfl
      have ntxl : t ≠ xl:=fun q=>by rw [← q,et] at nxl; cases nxl
      have nalxl : c.al ≠ xl:=fun q=>by rw [← q,hal] at nxl; cases nxl
      have ndxl : d ≠ xl:=nxld.symm
      have kk : Keep [c.a,c.lr,d] H (upd H12 xl (.lst (ts5.set n (.ref q12)))):=(b1.same s512).putN nxl
      have t13:=(b2.same s512).put (u:=.lst (ts5.set n (.ref q12))) ntxl
      have d13:=ZY (u:=.lst (ts5.set n (.ref q12))) (s512 _ _ b3) ndxl
      have x13:=(b4.same s512).put (u:=.lst (ts5.set n (.ref q12))) nxxl.symm
      have a13:=(a5.same s512).put (u:=.lst (ts5.set n (.ref q12))) nxla.symm
      have al13:=ZY (u:=.lst (ts5.set n (.ref q12))) (s512 _ _ al5) nalxl
      have lr13:=ZY (u:=.lst (ts5.set n (.ref q12))) (s512 _ _ lr5) nxllr.symm
      have L13:=(L5.same s512).keep k13 NT13
      have xl13 : upd H12 xl (.lst (ts5.set n (.ref q12))) xl = some (.lst (ts5.set n (.ref q12))):=upd_same
      have nq12 : q12 ≠ xl:=ne_of hq12 (s512 _ _ xl5) (by intro z; cases z)
      have P13 : DpAll K (upd H12 xl (.lst (ts5.set n (.ref q12)))) (ts5.set n (.ref q12)) ((plc.set n ss).map Zzi):=by
       rw [List.map_set]
       refine ZBj (.tup (.inl (.inl (ZY hq12 nq12))) (DpAll.strs ss)) n ?_
       exact dpAll_keep k13 NT13 (s512.dpAll P5) (ZHc Z2c _)
      generalize upd H12 xl (.lst (ts5.set n (.ref q12))) = H13 at *
      refine ⟨_,rfl,?_⟩
      refine ⟨_,rfl,c.a,_,rfl,a13,_,_,rfl,rfl,_,a13,fun H14 a14 k14=>?_⟩
      have kk14 : Keep [c.a] H13 H14:=k14.keep (by simp)
      refine ⟨r'.length,Nat.lt_succ_self _,(n : Int),r',plc.set n ss,_,_,_,_,ts5.set n (.ref q12),pre5 ++ [l'],rfl,rfl,⟨kk.but k14 (by simp),t13.but k14 nta,by rw [k14.off d nad.symm]; exact d13,x13.but k14 nxa⟩,by rw [ep5]; simp,?_,?_,?_,?_,by rw [List.length_set]; exact lp5,by omega,hp',?_,?_⟩
      ·rw [List.length_append]
       exact a14
      ·rw [k14.off c.al nala]; exact al13
      ·rw [k14.off xl nxla]; exact xl13
      ·exact dpAll_keep kk14 (NTa _ ⟨_,a13⟩) P13 (ZHc Z2c _)
      ·rw [k14.off c.lr nlra]; exact lr13
      ·exact L13.keep kk14 (NTa _ ⟨_,a13⟩)
end
end Ev
end
section
namespace Ev
open PySem PySem.Spec PyProof.Rows L2 PL
section
variable {K : PySem.W.Frag} {mg : Str → Option Value}
def ZPb (T : Txt K mg) (H0 H : Hp) (t : Addr) (M : TrackM) : Prop:=∃ d as,H0 t = none ∧ H0 d = none ∧ TrkP T H t d M.name M.loops as ∧ ∀ (i : Nat) (a : Addr) (L : LoopM),as[i]? = some a → M.loops[i]? = some L → ZXb T H0 H a L
theorem TrkP.same {T : Txt K mg} {H H' : Hp} {t d : Addr} {nm : Str} {ls : List LoopM} {as : List Addr} (h : TrkP T H t d nm ls as) (s : Same H H') : TrkP T H' t d nm ls as:=⟨h.1.same s,s _ _ h.2.1,h.2.2⟩
theorem ZPb.same {T : Txt K mg} {H0 H H' : Hp} {t : Addr} {M : TrackM} (h : ZPb T H0 H t M) (s : Same H H') : ZPb T H0 H' t M:=by
 obtain ⟨d,as,n1,n2,h1,h2⟩:=h
 exact ⟨d,as,n1,n2,h1.same s,fun i a L e1 e2=>(h2 i a L e1 e2).same s⟩
theorem ZPb.back {T : Txt K mg} {H0 H1 H : Hp} {t : Addr} {M : TrackM} (h : ZPb T H1 H t M) (s : ∀ b,H1 b = none → H0 b = none) : ZPb T H0 H t M:=by
 obtain ⟨d,as,n1,n2,h1,h2⟩:=h
 exact ⟨d,as,s _ n1,s _ n2,h1,fun i a L e1 e2=>(h2 i a L e1 e2).back s⟩
theorem ZPb.keep {T : Txt K mg} {H0 H H' : Hp} {S : List Addr} {t : Addr} {M : TrackM} (h : ZPb T H0 H t M) (k : Keep S H H') (nt : NT S H) (hS : ∀ s ∈ S,∃ u,H0 s = some u) : ZPb T H0 H' t M:=by
 obtain ⟨d,as,n1,n2,⟨⟨dx,h1⟩,h2,h3⟩,h4⟩:=h
 refine ⟨d,as,n1,n2,⟨⟨dx,k _ _ h1 fun q=>?_⟩,k _ _ h2 fun q=>?_,h3⟩,fun i a L e1 e2=>(h4 i a L e1 e2).keep k nt fun s q=>.inl (hS s q)⟩
 ·obtain ⟨u,hu⟩:=hS _ q
  rw [n1] at hu; cases hu
 ·obtain ⟨u,hu⟩:=hS _ q
  rw [n2] at hu; cases hu
end
def ZCk {K : PySem.W.Frag} {mg : Str → Option Value} (T : Txt K mg) : Sp:=fun vs H Q _=>∃ (x dx : Addr) (nm : Str),vs = [.ref x,.str nm] ∧ H x = some (.ins T.Track.C dx []) ∧
 ∀ H' d,Keep [x] H H' → H d = none → TrkP T H' x d nm [] [] → Q .non H'
def ZZj {K : PySem.W.Frag} {mg : Str → Option Value} (T : Txt K mg) : Sp:=fun vs H Q E=>∃ (c : RC) (bar : Nat) (p : Addr) (l : Str) (r ws : List Str) (ts : List TrackM) (as : List Addr) (xs : List V) (qs : List (Int × Addr × Str)),
 vs = [.ref c.a,.ref p] ∧ RdS T H c (l :: r) bar ∧ H p = some (.lst (ws.map V.str)) ∧ Zpi ws ∧ ts.length ≤ 4 ∧
 H c.dt = some (.dK (kvN (·.name) ts as)) ∧ as.length = ts.length ∧ H c.lr = some (.lst xs) ∧ xs.length ≤ 100 ∧ LaterQ H xs qs ∧ c.lr ≠ c.al ∧ (∀ k,Zbb ws ts r = .error k → BadS (T.e.C 0) ((c.lines.length : Int) - k + 1) [c.a,c.lr,c.dt] H E) ∧
 ∀ M lt rest1,Zbb ws ts r = .ok (M,lt,rest1) → ∀ H' t ys,Keep [c.a,c.lr,c.dt] H H' → RdS T H' c rest1 bar → H' c.dt = some (.dK (kvN (·.name) (ts ++ [M]) (as ++ [t]))) → ZPb T H H' t M →
  H' c.lr = some (.lst ys) → ys.length ≤ xs.length + 3 → LaterQ H' ys (qs ++ lt.map fun p=>((c.lines.length : Int) - p.1 + 1,t,p.2)) → Q .non H'
theorem Zkk {n : Nat} {ls : List LoopM} {lt : List (Nat × Str)} {rest : List Str} (h : Zdb rest 2 "loop" = none) : ZHb (n + 1) ls lt rest = .ok (ls,lt,rest):=by
 unfold ZHb
 rw [h]
theorem Zgl {n k : Nat} {ls : List LoopM} {lt : List (Nat × Str)} {l : Str} {r ws : List Str} (h : Zdb (l :: r) 2 "loop" = some ws) (h2 : ZZb ws ls r = .error k) : ZHb (n + 1) ls lt (l :: r) = .error k:=by
 unfold ZHb
 rw [h]
 dsimp only
 rw [h2]
theorem Zkm {n : Nat} {ls : List LoopM} {lt : List (Nat × Str)} {l : Str} {r ws : List Str} {q : LoopM × List Str} (h : Zdb (l :: r) 2 "loop" = some ws) (h2 : ZZb ws ls r = .ok q) : ZHb (n + 1) ls lt (l :: r) = ZHb n (ls ++ [q.1]) (if q.1.then_ = "" then lt else lt ++ [(r.length + 1,q.1.then_)]) q.2:=by
 conv=>lhs; unfold ZHb
 rw [h]
 dsimp only
 rw [h2]
theorem ZCi {ws r : List Str} {ts : List TrackM} (h : ∀ w nm,ws = [w,nm] → ¬ (Zq nm = true ∧ nm ∉ ts.map (·.name) ∧ ts.length < 4)) : Zbb ws ts r = .error (r.length + 1):=by
 unfold Zbb
 split
 ·rw [if_neg (h _ _ rfl)]
 ·rfl
theorem ZGl {w nm : Str} {r : List Str} {ts : List TrackM} (h : Zq nm = true ∧ nm ∉ ts.map (·.name) ∧ ts.length < 4) : (∀ k,ZHb (r.length + 1) [] [] r = .error k → Zbb [w,nm] ts r = .error k) ∧
  (∀ lt rest,ZHb (r.length + 1) [] [] r = .ok ([],lt,rest) → Zbb [w,nm] ts r = .error rest.length) ∧ ∀ q,ZHb (r.length + 1) [] [] r = .ok q → q.1 ≠ [] → Zbb [w,nm] ts r = .ok (⟨nm,q.1⟩,q.2.1,q.2.2):=by
 unfold Zbb
 dsimp only
 rw [if_pos h]
 refine ⟨fun k e=>by rw [e],fun lt rest e=>by rw [e]; rfl,fun q e ne=>?_⟩
 rw [e]
 dsimp only
 rw [if_neg]
 intro z
 cases h : q.1 with
 | nil=>exact ne h
 | cons a b=>rw [h] at z; cases z
theorem LoopsR.most {ls ls' : List LoopM} {r r' : List Str} (h : LoopsR ls r ls' r') (l3 : ls.length ≤ 3) : ls.length ≤ ls'.length ∧ ls'.length ≤ 3:=by
 induction h with
 | stop _=>exact ⟨Nat.le_refl _,l3⟩
 | step _ _ _ h3 _ _ ih=>
  have:=ih (by simp; omega)
  simp at this
  omega
theorem PlacesR.le {n : Nat} {i : Int} {a b : List (List Str)} {r r' : List Str} (h : PlacesR n i a r b r') : r'.length ≤ r.length:=by
 induction h with
 | stop _=>exact Nat.le_refl _
 | step _ _ _ _ _ _ _ _ _ ih=>exact Nat.le_succ_of_le ih
theorem Zlj {α : Type} {as : List Addr} {xs : List α} {P : Addr → α → Prop} (hl : as.length = xs.length) {a : Addr} {x : α} (h : ∀ (i : Nat) b y,as[i]? = some b → xs[i]? = some y → P b y) (h1 : P a x) :
  ∀ (i : Nat) b y,(as ++ [a])[i]? = some b → (xs ++ [x])[i]? = some y → P b y:=fun i b y e1 e2=>by
 by_cases hi : i < as.length
 ·rw [List.getElem?_append_left hi] at e1
  rw [List.getElem?_append_left (by omega)] at e2
  exact h i b y e1 e2
 ·have h0 : i = as.length:=by
   have:=List.getElem?_eq_some_iff.mp e1
   obtain ⟨h2,_⟩:=this
   simp at h2
   omega
  subst h0
  rw [List.getElem?_append_right (Nat.le_refl _),Nat.sub_self] at e1
  rw [hl,List.getElem?_append_right (Nat.le_refl _),Nat.sub_self] at e2
  cases e1
  cases e2
  exact h1
theorem ZLj {ws r rest' : List Str} {ls : List LoopM} {L' : LoopM} (h : ZZb ws ls r = .ok (L',rest')) : rest'.length ≤ r.length:=by
 obtain ⟨L,pl,h1,h2,h3,h4,h5⟩:=ZSh h
 exact (ZPg (by decide) h4).le
section
variable {P : Program} {w : World} {K : PySem.W.Frag} {mg : Str → Option Value} {base : Heap}
theorem ZVh (T : Txt K mg) : FnOk P w K mg base CX0 1 T.Track.init.f T.Track.init.fd ["self", "name"] (ZCk T):=by
 refine T.Track.init.F.ok Z2h (fun vs H Q E h=>?_) (fun cdv A outer s H vs Q E hr h=>?_)
 ·obtain ⟨x,dx,nm,rfl,_⟩:=h
  rfl
 ·obtain ⟨x,dx,nm,rfl,hx,k⟩:=h
  refine ⟨_,(pss_cons (ps_fld (pv 0) (pv 1) rfl) (pss_one (ps_fld (pv 0) pe_dnewK rfl))),?_⟩
  refine ⟨_,rfl,_,rfl,x,_,dx,_,rfl,hx,T.Track.cl,T.Track.na 0 _ rfl,by decide,?_⟩
  refine fun d nd=>⟨_,rfl,x,_,dx,putF "name" (.str nm) [],rfl,Z3 upd_same nd,T.Track.cl,T.Track.na 1 _ rfl,by show 1 < 1000; decide,?_⟩
  have ne : d ≠ x:=fun q=>by rw [q,upd_same] at nd; cases nd
  refine k _ d (((Keep.refl _ _).put1.new nd).put1) ?_ ?_
  ·rw [upd_ne ne] at nd; exact nd
  ·rw [ZSj,ZQg]
   exact ⟨⟨dx,upd_same⟩,by rw [upd_ne ne]; exact upd_same,rfl⟩
theorem Zyf [OkPr P] (T : Txt K mg) : FnX P w K mg base 10 T.Reader.d_Reader_read_track.f T.Reader.d_Reader_read_track.fd ["self", "row"] (ZZj T):=by
 refine ZJg T.Reader.d_Reader_read_track.F ZAc (fun vs H Q E h=>?_) (fun cdv A outer s H vs Q E hg hh hr h=>?_)
 ·obtain ⟨c,bar,p,l,r,ws,ts,as,xs,qs,rfl,_⟩:=h
  rfl
 ·obtain ⟨c,bar,p,l,r,ws,ts,as,xs,qs,rfl,hc,hp,sw,l4',hdt,las,hlr,lx,hL,nal,kb,k⟩:=h
  refine ⟨_,(pss_cons (ps_expr (Zgb Zx (pv 0) T.Reader.cl T.Reader.m_Reader_want (Zt (P:=P) T) (takes_of rfl rfl rfl rfl) hg (hr.mono (by decide)) T.Reader.d_Reader_want.b (pa_cons (pe_and (pe_cmpR op_eq (pe_callB call_len (by rfl) T.c.z_len (by decide +kernel) (pa_cons (pv 1) pa_nil)) pe_int (nomark _)) (pe_and (pe_call (ZKd T) (hr.mono (by decide)) rfl T.g_is_name T.d_is_name.F.kp T.d_is_name.b .nil pass0 (pa_cons (pe_ix ix_list (pv 1) pe_int (fun _ _=>rfl)) pa_nil)) (pe_one (pe_cmp (pc_dnotin (hu_of hr) (pe_ix ix_list (pv 1) pe_int (fun _ _=>rfl)) (ZH (ZJ T) (pv 0))) rfl)))) pa_nil))) (pss_cons (ps_expr (Zgb Zx (pv 0) T.Reader.cl T.Reader.m_Reader_want (Zt (P:=P) T) (takes_of rfl rfl rfl rfl) hg (hr.mono (by decide)) T.Reader.d_Reader_want.b (pa_cons (pe_cmpR op_lt (pe_callB call_lenD (by rfl) T.c.z_len (by decide +kernel) (pa_cons (ZH (ZJ T) (pv 0)) pa_nil)) (ZQb rfl T.c.g_MOST_TRACKS) (nomark _)) pa_nil))) (pss_cons (ps_set (i:=2) ZAc.nd rfl (Or.inl rfl) (pe_make T.Track.made (ZVh T) (hr.mono (by decide)) rfl T.Track.gC T.Track.init.b .nil pass0 (pa_cons (pe_ix ix_list (pv 1) pe_int (fun _ _=>rfl)) pa_nil))) (pss_cons (ps_dput (hu_of hr) (ZH (ZJ T) (pv 0)) (ZH (ZEj T) (pv 2)) (pv 2) rfl) (pss_cons (ZZh (Z9 T) (pv 0) pe_int in_add) (pss_cons (ps_while (passes_of rfl) (ZRg (pt_cmp (pc_notN (Zob ZAb (pe_meth (Ztb (pv 0)) T.Reader.cl T.Reader.m_Reader_headed (Zqb T) (hr.mono (by decide)) T.Reader.d_Reader_headed.b .nil pass0 (pa_cons pe_int (pa_cons (ZQb rfl T.c.g_LOOP) pa_nil))))))) (pss_one (ps_expr (Zgb Zug (pv 0) T.Reader.cl T.Reader.m_Reader_read_loop (ZZf (P:=P) T) (takes_of rfl rfl rfl rfl) hg (hr.mono (by decide)) T.Reader.d_Reader_read_loop.b (pa_cons (Zob Zkb (pe_meth (Ztb (pv 0)) T.Reader.cl T.Reader.m_Reader_row (Z6 T) (hr.mono (by decide)) T.Reader.d_Reader_row.b .nil pass0 (pa_cons pe_int pa_nil))) (pa_cons (pv 2) pa_nil)))))) (pss_one (ps_expr (Zgb Zx (pv 0) T.Reader.cl T.Reader.m_Reader_want (Zt (P:=P) T) (takes_of rfl rfl rfl rfl) hg (hr.mono (by decide)) T.Reader.d_Reader_want.b (pa_cons (pe_cmpR (Zyo hr.units0) (ZH (ZS T) (pv 2)) pe_dnewK (nomark _)) pa_nil)))))))))),?_⟩
  have hc':=hc
  obtain ⟨pre,epre,ha,hal,sl⟩:=hc
  obtain ⟨dxa,ea⟩:=ha
  have ha : Zlb T H c.a ⟨.ref c.al,.int (pre.length : Int),.ref c.dt,.ref c.db,.int (bar : Int),.ref c.lr⟩:=⟨dxa,ea⟩
  have bad0 : Zbb ws ts r = .error (r.length + 1) → ∀ {H1},Same H H1 → BadS (T.e.C 0) ((c.lines.length : Int) - (l :: r).length + 1) [] H1 E:=fun e H1 s=>(kb _ e).at_ s
  refine ⟨_,rfl,c.a,_,rfl,ha,?_⟩
  refine ⟨_,rfl,_,_,rfl,.inl ⟨_,.inl (.inl hp),rfl⟩,rfl,_,rfl,?_⟩
  by_cases l2 : ws.length = 2
  case neg=>
   refine ifF (by show (decide (V.int _ = V.int 2)) = false; rw [List.length_map,decide_eq_false fun q=>by injection q with q; omega]) ?_
   exact ⟨c,l :: r,bar,false,rfl,hc',nofun,fun _=>bad0 (ZCi fun w nm z=>absurd (by rw [z]; rfl) l2) (Same.refl _)⟩
  obtain ⟨w,nm,rfl⟩:=ZYi l2
  refine ifT rfl ?_
  refine ⟨_,rfl,p,_,_,V.str nm,rfl,rfl,.inl (.inl hp),atI_nat rfl,V.str nm,.str nm,rfl,.str nm,(fun s e=>by cases e; exact sw.2 nm (by simp)),fun H1 s1=>?_⟩
  have hp1:=s1 _ _ hp
  have ha1:=ha.same s1
  have hdt1:=s1 _ _ hdt
  have no1 : ¬ (Zq nm = true ∧ nm ∉ ts.map (·.name) ∧ ts.length < 4) → Zbb [w,nm] ts r = .error (r.length + 1):=fun z=>ZCi fun w' nm' e=>by
   cases e
   exact z
  refine ⟨Zq nm,rfl,?_⟩
  by_cases hnm : Zq nm = true
  case neg=>
   refine ifF (Bool.eq_false_iff.mpr hnm) ?_
   exact ⟨c,l :: r,bar,false,rfl,hc'.same s1,nofun,fun _=>bad0 (no1 fun z=>hnm z.1) s1⟩
  refine ifT hnm ?_
  refine ⟨_,rfl,p,_,_,V.str nm,rfl,rfl,.inl (.inl hp1),atI_nat rfl,_,rfl,c.a,_,rfl,ha1,c.dt,_,rfl,DGet.k (k:=Sum.inr nm) hdt1,c,l :: r,bar,_,rfl,hc'.same s1,fun hb=>?_,fun hb=>bad0 (no1 fun z=>?_) s1⟩
  rotate_left
  ·rw [Zxd z.2.1] at hb
   cases hb
  have nnm : nm ∉ ts.map (·.name):=fun z=>by
   rw [Z3e las z] at hb
   cases hb
  refine ⟨_,rfl,c.a,_,rfl,ha1,_,rfl,c.a,_,rfl,ha1,c.dt,_,rfl,hdt1,_,_,rfl,rfl,c,l :: r,bar,_,rfl,hc'.same s1,fun hb=>?_,fun hb=>bad0 (no1 fun z=>?_) s1⟩
  rotate_left
  ·rw [ZWc las] at hb
   have:=of_decide_eq_false hb
   have:=z.2.2
   omega
  have l4 : ts.length < 4:=by
   rw [ZWc las] at hb
   have:=of_decide_eq_true hb
   omega
  obtain ⟨kb1,kb2,ko1⟩:=ZGl (w:=w) (r:=r) ⟨hnm,nnm,l4⟩
  refine ⟨_,rfl,p,_,_,V.str nm,rfl,rfl,.inl (.inl hp1),atI_nat rfl,fun t dx nt ndx ne=>⟨t,dx,nm,rfl,upd_same,fun H2 d k2 nd hT=>⟨rfl,?_⟩⟩⟩
  have s2:=Znc nt ndx k2
  have nt0 : H t = none:=s1.fresh nt
  have n1 : d ≠ t:=fun q=>by rw [q,upd_same] at nd; cases nd
  rw [upd_ne n1] at nd
  have n2 : d ≠ dx:=fun q=>by rw [q,upd_same] at nd; cases nd
  rw [upd_ne n2] at nd
  have nd0 : H d = none:=s1.fresh nd
  have s02:=s1.trans s2
  have dt2:=s02 _ _ hdt
  obtain ⟨at2,ad2,_⟩:=hT
  refine ⟨_,rfl,_,rfl,c.a,_,rfl,ha.same s02,_,rfl,t,_,rfl,at2,c.dt,_,rfl,DPut.k (k:=Sum.inr nm) dt2 (by rw [ZWc las]; exact ZXc (by omega)),?_⟩
  rw [Zxh (Zxd nnm)]
  have nad : c.a ≠ c.dt:=ne_of ea hdt (by intro z; cases z)
  have nlrd : c.lr ≠ c.dt:=ne_of hlr hdt (by intro z; cases z)
  have nald : c.al ≠ c.dt:=ne_of hal hdt (by intro z; cases z)
  have nla : c.lr ≠ c.a:=ne_of hlr ea (by intro z; cases z)
  have nala : c.al ≠ c.a:=ne_of hal ea (by intro z; cases z)
  have ntd : t ≠ c.dt:=fun q=>by rw [q,hdt] at nt0; cases nt0
  have nta : t ≠ c.a:=fun q=>by rw [q,ea] at nt0; cases nt0
  have ndd : d ≠ c.dt:=fun q=>by rw [q,hdt] at nd0; cases nd0
  have nda : d ≠ c.a:=fun q=>by rw [q,ea] at nd0; cases nd0
  have NT3 : NT [c.a,c.lr,c.dt] H:=by
   intro z hz u e
   simp at hz
   rcases hz with rfl | rfl | rfl
   ·rw [ea] at e; cases e; rfl
   ·rw [hlr] at e; cases e; rfl
   ·rw [hdt] at e; cases e; rfl
  have k3 : Keep [c.a,c.lr,c.dt] H (upd H2 c.dt (.dK (kvN (·.name) ts as ++ [(Sum.inr nm,V.ref t)]))):=(Keep.of _ s02).put (by simp)
  have a3:=(ha.same s02).put (u:=.dK (kvN (·.name) ts as ++ [(Sum.inr nm,V.ref t)])) nad
  have al3:=ZY (u:=.dK (kvN (·.name) ts as ++ [(Sum.inr nm,V.ref t)])) (s02 _ _ hal) nald
  have lr3:=ZY (u:=.dK (kvN (·.name) ts as ++ [(Sum.inr nm,V.ref t)])) (s02 _ _ hlr) nlrd
  have t3:=at2.put (u:=.dK (kvN (·.name) ts as ++ [(Sum.inr nm,V.ref t)])) ntd
  have d3:=ZY (u:=.dK (kvN (·.name) ts as ++ [(Sum.inr nm,V.ref t)])) ad2 ndd
  have dt3 : upd H2 c.dt (.dK (kvN (·.name) ts as ++ [(Sum.inr nm,V.ref t)])) c.dt = some (.dK (kvN (·.name) ts as ++ [(Sum.inr nm,V.ref t)])):=upd_same
  generalize upd H2 c.dt (.dK (kvN (·.name) ts as ++ [(Sum.inr nm,V.ref t)])) = H3 at *
  refine ⟨_,rfl,c.a,_,rfl,a3,_,_,rfl,rfl,_,a3,fun H4 a4 k4=>?_⟩
  have kk4 : Keep [c.a,c.lr,c.dt] H H4:=k3.but k4 (by simp)
  refine Z4e (fun m σ H5=>∃ (rest : List Str) (ls : List LoopM) (bs : List Addr) (ys : List V) (lt : List (Nat × Str)) (n : Nat),m = rest.length ∧ σ = [some (.ref c.a),some (.ref p),some (.ref t)] ∧ RdS T H5 c rest bar ∧ Keep [c.a,c.lr,c.dt] H H5 ∧
   H5 c.dt = some (.dK (kvN (·.name) ts as ++ [(Sum.inr nm,V.ref t)])) ∧ TrkP T H5 t d nm ls bs ∧ rest.length < n ∧ ZHb n ls lt rest = ZHb (r.length + 1) [] [] r ∧ (∀ (i : Nat) b L,bs[i]? = some b → ls[i]? = some L → ZXb T H H5 b L) ∧
   H5 c.lr = some (.lst ys) ∧ ys.length ≤ xs.length + ls.length ∧ LaterQ H5 ys (qs ++ lt.map fun p=>((c.lines.length : Int) - p.1 + 1,t,p.2)) ∧ ls.length ≤ 3) r.length ⟨r,[],[],xs,[],r.length + 1,rfl,rfl,?_,kk4,?_,⟨t3.but k4 nta,?_,rfl⟩,Nat.lt_succ_self _,rfl,fun i b L e=>by simp at e,?_,by simp,?_,by simp⟩ ?_
  ·exact ⟨pre ++ [l],by rw [epre]; simp,by rw [List.length_append]; exact a4,by rw [k4.off c.al nala]; exact al3,sl⟩
  ·rw [k4.off c.dt nad.symm]; exact dt3
  ·rw [k4.off d nda]; exact d3
  ·rw [k4.off c.lr nla]; exact lr3
  ·simpa using hL.keep kk4 NT3
  ·rintro m σ H5 ⟨rest,ls,bs,ys,lt,n,rfl,rfl,R5,k5,dt5,T5,hn5,hR5,L5,lr5,ly5,P5,l35⟩
   have R5':=R5
   obtain ⟨pre5,ep5,a5,al5,_⟩:=R5'
   refine ⟨_,rfl,c.a,_,rfl,a5,c,rest,bar,1, "loop",rfl,R5,by decide,?_⟩
   obtain ⟨n,rfl⟩ : ∃ n',n = n' + 1:=⟨n - 1,by omega⟩
   have ex5:=ne3 (H:=H5) a5.some ⟨_,lr5⟩ ⟨_,dt5⟩
   have kb5 : ∀ {k},Zbb [w,nm] ts r = .error k → ∀ {H6},Same H5 H6 → BadS (T.e.C 0) ((c.lines.length : Int) - k + 1) [] H6 E:=fun e H6 s6=>((kb _ e).later (S':=[]) k5 ex5 (fun x hx=>by cases hx)).at_ s6
   cases hhd : Zdb rest 2 "loop" with
   | none=>
    intro H6 s6
    refine ⟨_,rfl,?_⟩
    refine ifF rfl ?_
    have a6:=a5.same s6
    have T6:=T5.same s6
    refine ⟨_,rfl,c.a,_,rfl,a6,_,rfl,t,_,rfl,T6.1,fun e he=>?_⟩
    have s7 : Same H5 (upd H6 e (.dK [])):=s6.new he
    have fin:=hR5.symm.trans (Zkk hhd)
    by_cases hne : ls = []
    case pos=>
     subst hne
     refine ⟨d,e,_,[],rfl,rfl,(s7 _ _ T5.2.1),upd_same,.inr ⟨rfl,rfl,c,rest,bar,false,rfl,R5.same s7,nofun,fun _=>kb5 (kb2 _ _ fin) s7⟩⟩
    refine ⟨d,e,_,[],rfl,rfl,(s7 _ _ T5.2.1),upd_same,.inl ⟨?_,c,rest,bar,true,rfl,R5.same s7,fun _=>?_,nofun⟩⟩
    ·rw [ZWc T5.2.2]
     cases ls with
     | nil=>exact absurd rfl hne
     | cons a b=>simp
    refine k _ _ _ (ko1 _ fin hne) _ t ys (k5.same s7) (R5.same s7) ?_ ⟨d,bs,nt0,nd0,T5.same s7,fun i b L e1 e2=>(L5 i b L e1 e2).same s7⟩ (s7 _ _ lr5) (by omega) (P5.same s7)
    rw [Zsh las]
    exact s7 _ _ dt5
   | some ws5=>
    obtain ⟨hrow,_⟩:=ZOh hhd
    obtain ⟨l',r',rfl⟩ : ∃ l' r',rest = l' :: r':=by
     cases rest with
     | nil=>cases hrow
     | cons l' r'=>exact ⟨l',r',rfl⟩
    intro H6 q6 s6 nq6 hq6
    refine ⟨_,rfl,?_⟩
    refine ifT rfl ?_
    refine ⟨_,rfl,c.a,_,rfl,a5.same s6,_,rfl,c.a,_,rfl,a5.same s6,c,l' :: r',bar,1,rfl,R5.same s6,by decide,?_⟩
    rw [show 2 * 1 = 2 from rfl,hrow]
    intro H7 q7 s7 nq7 hq7
    have s57:=s6.trans s7
    have T7:=T5.same s57
    obtain ⟨sww,_⟩:=Z2e hrow ep5 sl
    have nem:=ZHk (show Zp l' 2 = some ws5 from hrow)
    refine ⟨_,rfl,c,bar,t,d,q7,nm,l',r',ws5,ls,bs,ys,_,rfl,R5.same s57,T7,hq7,sww,nem,l35,s57 _ _ lr5,by omega,P5.same s57,nal,fun k e=>?_,fun L rest2 hgo H8 x xl zs k8 R8 T8 nx nxl X8 lr8 lz8 P8=>?_⟩
    ·refine BadS.same ((kb _ (kb1 _ (hR5.symm.trans (Zgl hhd e)))).later (S':=[c.a,c.lr,d]) k5 ex5 ?_) s57 (fun _ h=>.inl h)
     intro z hz
     simp at hz
     rcases hz with rfl | rfl | rfl
     ·exact .inl (by simp)
     ·exact .inl (by simp)
     ·exact .inr nd0
    have hL3 : ls.length < 3:=by
     obtain ⟨_,_,_,_,h3,_⟩:=ZSh hgo
     exact h3
    have k7 : Keep [c.a,c.lr,c.dt] H H7:=k5.same s57
    have a7:=a5.same s57
    have lr7:=s57 _ _ lr5
    have dt7:=s57 _ _ dt5
    have fr : ∀ b,H7 b = none → H b = none:=fun b e=>by
     refine k7.free e ?_
     intro q
     simp at q
     rcases q with rfl | rfl | rfl
     ·obtain ⟨_,e'⟩:=a7
      rw [e'] at e; cases e
     ·rw [lr7] at e; cases e
     ·rw [dt7] at e; cases e
    have NT8 : NT [c.a,c.lr,d] H7:=by
     intro z hz u e
     simp at hz
     rcases hz with rfl | rfl | rfl
     ·obtain ⟨_,e'⟩:=a7
      rw [e'] at e; cases e; rfl
     ·rw [lr7] at e; cases e; rfl
     ·rw [T7.2.1] at e; cases e; rfl
    have hn : rest2.length ≤ r'.length:=ZLj hgo
    refine ⟨rest2.length,by simp; omega,rest2,_,_,zs,(if L.then_ = "" then lt else lt ++ [(r'.length + 1,L.then_)]),n,rfl,rfl,R8,?_,?_,T8,by simp at hn5; omega,(Zkm hhd hgo).symm.trans hR5,?_,lr8,by simp; omega,?_,by simp; omega⟩
    ·refine k7.transN k8 ?_
     intro z hz
     simp at hz
     rcases hz with rfl | rfl | rfl
     ·exact .inl (by simp)
     ·exact .inl (by simp)
     ·exact .inr nd0
    ·refine k8 _ _ dt7 ?_
     simp [nad.symm,nlrd.symm,ndd.symm]
    ·refine Zlj (P:=fun b L=>ZXb T H H8 b L) T5.2.2 (fun i b L e1 e2=>((L5 i b L e1 e2).same s57).keep k8 NT8 ?_) ?_
     ·intro z hz
      simp at hz
      rcases hz with rfl | rfl | rfl
      ·exact .inl ⟨_,ea⟩
      ·exact .inl ⟨_,hlr⟩
      ·exact .inr ⟨_,T7.2.1⟩
     ·exact ⟨xl,fr _ nx,fr _ nxl,X8⟩
    ·by_cases hth : L.then_ = ""
     ·rw [if_pos hth] at P8 ⊢
      exact P8
     ·rw [if_neg hth] at P8 ⊢
      rw [List.map_append,← List.append_assoc]
      rw [show (c.lines.length : Int) - r'.length = (c.lines.length : Int) - ((r'.length + 1 : Nat) : Int) + 1 by omega] at P8
      exact P8
end
end Ev
end
section
namespace Ev
open PySem PySem.Spec PyProof.Rows L2 PL
section
variable {K : PySem.W.Frag} {mg : Str → Option Value}
def ZL (T : Txt K mg) (H0 H : Hp) (as : List Addr) (ts : List TrackM) : Prop:=as.length = ts.length ∧ ∀ (i : Nat) (a : Addr) (M : TrackM),as[i]? = some a → ts[i]? = some M → ZPb T H0 H a M
theorem ZL.same {T : Txt K mg} {H0 H H' : Hp} {as : List Addr} {ts : List TrackM} (h : ZL T H0 H as ts) (s : Same H H') : ZL T H0 H' as ts:=⟨h.1,fun i a M e1 e2=>(h.2 i a M e1 e2).same s⟩
theorem ZL.back {T : Txt K mg} {H0 H1 H : Hp} {as : List Addr} {ts : List TrackM} (h : ZL T H1 H as ts) (s : ∀ b,H1 b = none → H0 b = none) : ZL T H0 H as ts:=⟨h.1,fun i a M e1 e2=>(h.2 i a M e1 e2).back s⟩
theorem ZL.keep {T : Txt K mg} {H0 H H' : Hp} {S : List Addr} {as : List Addr} {ts : List TrackM} (h : ZL T H0 H as ts) (k : Keep S H H') (nt : NT S H) (hS : ∀ s ∈ S,∃ u,H0 s = some u) : ZL T H0 H' as ts:=⟨h.1,fun i a M e1 e2=>(h.2 i a M e1 e2).keep k nt hS⟩
def Zen (x : Str × Str × Str) : PyData:=.tuple [.str x.2.1,.str x.2.2]
theorem Zwh (x : Str × Str × Str) : noL (Zen x) = true:=rfl
def BtnP (T : Txt K mg) (H : Hp) (b d : Addr) (M : ButtonM) (ds : List (Str × Str × Str)) (as : List Addr) : Prop:=
 ZFi T H b ⟨.str M.name,.int (M.quantum : Int),.ref d⟩ ∧ H d = some (.dK (kvN (·.1) ds as)) ∧ as.length = ds.length ∧ ∀ (i : Nat) (a : Addr) x,as[i]? = some a → ds[i]? = some x → Dp K H (.ref a) (Zen x)
def Zmb (T : Txt K mg) (H0 H : Hp) (b : Addr) (M : ButtonM) : Prop:=∃ d as,H0 b = none ∧ H0 d = none ∧ BtnP T H b d M M.deeds as
theorem BtnP.same {T : Txt K mg} {H H' : Hp} {b d : Addr} {M : ButtonM} {ds : List (Str × Str × Str)} {as : List Addr} (h : BtnP T H b d M ds as) (s : Same H H') : BtnP T H' b d M ds as:=
 ⟨h.1.same s,s _ _ h.2.1,h.2.2.1,fun i a x e1 e2=>s.dp (h.2.2.2 i a x e1 e2)⟩
theorem Zmb.same {T : Txt K mg} {H0 H H' : Hp} {b : Addr} {M : ButtonM} (h : Zmb T H0 H b M) (s : Same H H') : Zmb T H0 H' b M:=by
 obtain ⟨d,as,n1,n2,h⟩:=h
 exact ⟨d,as,n1,n2,h.same s⟩
theorem Zmb.back {T : Txt K mg} {H0 H1 H : Hp} {b : Addr} {M : ButtonM} (h : Zmb T H1 H b M) (s : ∀ b,H1 b = none → H0 b = none) : Zmb T H0 H b M:=by
 obtain ⟨d,as,n1,n2,h⟩:=h
 exact ⟨d,as,s _ n1,s _ n2,h⟩
theorem Zmb.keep {T : Txt K mg} {H0 H H' : Hp} {S : List Addr} {b : Addr} {M : ButtonM} (h : Zmb T H0 H b M) (k : Keep S H H') (nt : NT S H) (hS : ∀ s ∈ S,∃ u,H0 s = some u) : Zmb T H0 H' b M:=by
 obtain ⟨d,as,n1,n2,⟨dx,h1⟩,h2,h3,h4⟩:=h
 refine ⟨d,as,n1,n2,⟨dx,k _ _ h1 fun q=>?_⟩,k _ _ h2 fun q=>?_,h3,fun i a x e1 e2=>ZJh k nt (h4 i a x e1 e2) (Zwh x)⟩
 ·obtain ⟨u,hu⟩:=hS _ q
  rw [n1] at hu; cases hu
 ·obtain ⟨u,hu⟩:=hS _ q
  rw [n2] at hu; cases hu
def ZP (T : Txt K mg) (H0 H : Hp) (as : List Addr) (bs : List ButtonM) : Prop:=as.length = bs.length ∧ ∀ (i : Nat) (a : Addr) (M : ButtonM),as[i]? = some a → bs[i]? = some M → Zmb T H0 H a M
theorem ZP.same {T : Txt K mg} {H0 H H' : Hp} {as : List Addr} {bs : List ButtonM} (h : ZP T H0 H as bs) (s : Same H H') : ZP T H0 H' as bs:=⟨h.1,fun i a M e1 e2=>(h.2 i a M e1 e2).same s⟩
theorem ZP.back {T : Txt K mg} {H0 H1 H : Hp} {as : List Addr} {bs : List ButtonM} (h : ZP T H1 H as bs) (s : ∀ b,H1 b = none → H0 b = none) : ZP T H0 H as bs:=⟨h.1,fun i a M e1 e2=>(h.2 i a M e1 e2).back s⟩
theorem ZP.keep {T : Txt K mg} {H0 H H' : Hp} {S : List Addr} {as : List Addr} {bs : List ButtonM} (h : ZP T H0 H as bs) (k : Keep S H H') (nt : NT S H) (hS : ∀ s ∈ S,∃ u,H0 s = some u) : ZP T H0 H' as bs:=⟨h.1,fun i a M e1 e2=>(h.2 i a M e1 e2).keep k nt hS⟩
end
theorem DeedW.shape {ts : List TrackM} {row : List Str} {d : Str × Str × Str} (h : DeedW ts row d) : ∃ tl,row = d.1 :: d.2.1 :: tl ∧ (tl = [] ∧ d.2.2 = "" ∨ tl = [d.2.2]):=by
 cases h with
 | stops=>exact ⟨[],rfl,.inl ⟨rfl,rfl⟩⟩
 | begins _ _ _ _=>exact ⟨_,rfl,.inr rfl⟩
def ZOm {K : PySem.W.Frag} {mg : Str → Option Value} (T : Txt K mg) : Sp:=fun vs H Q _=>∃ (c : RC) (o : OReader) (p : Addr) (hd : Str) (tl : List Str) (ts : List TrackM) (as : List Addr) (H0 : Hp),
 vs = [.ref c.a,.ref p] ∧ Zlb T H c.a o ∧ o.own_tracks = .ref c.dt ∧ H p = some (.lst ((hd :: tl).map V.str)) ∧ hd ∈ ts.map (·.name) ∧ H c.dt = some (.dK (kvN (·.name) ts as)) ∧ (ts.map (·.name)).Nodup ∧ ZL T H0 H as ts ∧
 ∀ H',Same H H' → Q (.bl (ZLe ts (hd :: tl)).isSome) H'
def ZYj {K : PySem.W.Frag} {mg : Str → Option Value} (T : Txt K mg) : Sp:=fun vs H Q _=>∃ (x dx : Addr) (nm : Str) (q : Nat),vs = [.ref x,.str nm,.int (q : Int)] ∧ H x = some (.ins T.Button.C dx []) ∧
 ∀ H' d,Keep [x] H H' → H d = none → BtnP T H' x d ⟨nm,q,[]⟩ [] [] → Q .non H'
def Zmj {K : PySem.W.Frag} {mg : Str → Option Value} (T : Txt K mg) : Sp:=fun vs H Q E=>∃ (c : RC) (bar : Nat) (p : Addr) (l : Str) (r ws : List Str) (bs : List ButtonM) (bas : List Addr) (ts : List TrackM) (tas : List Addr) (H0 : Hp),
 vs = [.ref c.a,.ref p] ∧ RdS T H c (l :: r) bar ∧ H p = some (.lst (ws.map V.str)) ∧ Zpi ws ∧ bs.length ≤ 5 ∧ 1 ≤ bar ∧ bar ≤ 12 ∧
 H c.db = some (.dK (kvN (·.name) bs bas)) ∧ bas.length = bs.length ∧ H c.dt = some (.dK (kvN (·.name) ts tas)) ∧ (ts.map (·.name)).Nodup ∧ ts.length ≤ 4 ∧ ZL T H0 H tas ts ∧ c.db ≠ c.dt ∧ (∃ u,H0 c.a = some u) ∧ (∃ u,H0 c.db = some u) ∧
 (∀ k,ZR ts ws bs bar r = .error k → BadS (T.e.C 0) ((c.lines.length : Int) - k + 1) [c.a,c.db] H E) ∧
 ∀ M rest1,ZR ts ws bs bar r = .ok (M,rest1) → ∀ H' b,Keep [c.a,c.db] H H' → RdS T H' c rest1 (Nat.lcm bar M.quantum) → H' c.db = some (.dK (kvN (·.name) (bs ++ [M]) (bas ++ [b]))) → Zmb T H H' b M → Q .non H'
theorem Zek {ts : List TrackM} {left : List Str} {ds : List (Str × Str × Str)} {rest : List Str} (h : rowW rest 2 = none) : ZUb ts left ds rest = .ok (ds,rest):=by
 cases rest with
 | nil=>rfl
 | cons l r=>
  have h : Zp l 2 = none:=h
  unfold ZUb
  rw [h]
theorem ZIg {ts : List TrackM} {hd : Str} {tl : List Str} {d : Str × Str × Str} (h : ZLe ts (hd :: tl) = some d) : d.1 = hd:=by
 obtain ⟨tl',e,_⟩:=(ZLi h).shape
 cases e
 rfl
theorem Zti {ts : List TrackM} {left : List Str} {ds : List (Str × Str × Str)} {l hd : Str} {r tl : List Str} (h : Zp l 2 = some (hd :: tl)) (h2 : ¬ (hd ∈ left ∧ (ZLe ts (hd :: tl)).isSome = true)) : ZUb ts left ds (l :: r) = .error (r.length + 1):=by
 unfold ZUb
 rw [h]
 dsimp only
 cases e : ZLe ts (hd :: tl) with
 | none=>rfl
 | some d=>
  dsimp only
  rw [if_neg fun z=>h2 ⟨by rw [← ZIg e]; exact z,by rw [e]; rfl⟩]
theorem ZWl {ts : List TrackM} {left : List Str} {ds : List (Str × Str × Str)} {l hd : Str} {r tl : List Str} {d : Str × Str × Str} (h : Zp l 2 = some (hd :: tl)) (h1 : ZLe ts (hd :: tl) = some d) (h2 : hd ∈ left) : ZUb ts left ds (l :: r) = ZUb ts (ZVc left d.1) (ds ++ [d]) r:=by
 conv=>lhs; unfold ZUb
 rw [h]
 dsimp only
 rw [h1]
 dsimp only
 rw [if_pos (by rw [ZIg h1]; exact h2)]
def Zng (bs : List ButtonM) (bar : Nat) (nm ev qw : Str) : Prop:=ev = "every" ∧ Zq nm = true ∧ 1 ≤ Zs qw ∧ Zs qw ≤ 12 ∧ nm ∉ bs.map (·.name) ∧ bs.length < 5 ∧ Nat.lcm bar (Zs qw).toNat ≤ 12
theorem ZEh {ts : List TrackM} {ws r : List Str} {bs : List ButtonM} {bar : Nat} (h : ∀ w nm ev qw,ws = [w,nm,ev,qw] → ¬ Zng bs bar nm ev qw) : ZR ts ws bs bar r = .error (r.length + 1):=by
 unfold ZR
 split
 ·exact if_neg (h _ _ _ _ rfl)
 ·rfl
theorem Z8j {ts : List TrackM} {w nm ev qw : Str} {r : List Str} {bs : List ButtonM} {bar : Nat} (h : Zng bs bar nm ev qw) : (∀ k,ZUb ts (ts.map (·.name)) [] r = .error k → ZR ts [w,nm,ev,qw] bs bar r = .error k) ∧
  ∀ q,ZUb ts (ts.map (·.name)) [] r = .ok q → ZR ts [w,nm,ev,qw] bs bar r = .ok (⟨nm,(Zs qw).toNat,q.1⟩,q.2):=by
 unfold ZR
 unfold Zng at h
 dsimp only
 rw [if_pos h]
 exact ⟨fun k e=>by rw [e],fun q e=>by rw [e]⟩
theorem Zdk {ts : List TrackM} {t w : Str} : (ZLe ts [t,w]).isSome = decide (w = "stops"):=by
 unfold ZLe
 dsimp only
 by_cases h : w = "stops"
 ·rw [if_pos h,decide_eq_true h]; rfl
 ·rw [if_neg h,decide_eq_false h]; rfl
theorem Zyj {ts : List TrackM} {t w lp : Str} (h : w = "plays" ∨ w = "keeps") {tm : TrackM} (hm : tm ∈ ts) (hn : tm.name = t) (nd : (ts.map (·.name)).Nodup) : (ZLe ts [t,w,lp]).isSome = decide (lp ∈ tm.loops.map (·.name)):=by
 unfold ZLe
 dsimp only
 by_cases hl : lp ∈ tm.loops.map (·.name)
 ·rw [if_pos ⟨h,List.any_eq_true.mpr ⟨tm,hm,by rw [decide_eq_true hn,decide_eq_true hl]; rfl⟩⟩,decide_eq_true hl]
  rfl
 ·rw [if_neg,decide_eq_false hl]
  ·rfl
  ·rintro ⟨_,z⟩
   obtain ⟨tm',h1,h2⟩:=List.any_eq_true.mp z
   rw [Bool.and_eq_true,decide_eq_true_iff,decide_eq_true_iff] at h2
   have : tm' = tm:=by
    obtain ⟨i,hi,ei⟩:=List.mem_iff_getElem.mp h1
    obtain ⟨j,hj,ej⟩:=List.mem_iff_getElem.mp hm
    have e1 : (ts.map (·.name))[i]'(by simpa using hi) = tm'.name:=by rw [List.getElem_map,ei]
    have e2 : (ts.map (·.name))[j]'(by simpa using hj) = tm.name:=by rw [List.getElem_map,ej]
    have : i = j:=(List.getElem_inj nd).mp (e1.trans ((h2.1.trans hn.symm).trans e2.symm))
    subst this
    rw [← ei,ej]
   rw [this] at h2
   exact hl h2.2
theorem ZVl {ts : List TrackM} {t w lp : Str} (h : ¬ (w = "plays" ∨ w = "keeps")) : (ZLe ts [t,w,lp]).isSome = false:=by
 unfold ZLe
 dsimp only
 rw [if_neg fun z=>h z.1]
 rfl
theorem ZUl {ts : List TrackM} {row : List Str} (h : row.length ≠ 2) (h2 : row.length ≠ 3) : (ZLe ts row).isSome = false:=by
 match row with
 | []=>rfl
 | [_]=>rfl
 | [_,_]=>exact absurd rfl h
 | [_,_,_]=>exact absurd rfl h2
 | _ :: _ :: _ :: _ :: _=>rfl
theorem Zgm {α : Type} : ∀ {l : List α},l.length = 4 → ∃ a b c d,l = [a,b,c,d]
 | [a,b,c,d],_=>⟨a,b,c,d,rfl⟩
section
variable {P : Program} {w : World} {K : PySem.W.Frag} {mg : Str → Option Value} {base : Heap}
theorem ZLg (T : Txt K mg) : FnOk P w K mg base CX0 1 T.Reader.d_Reader_is_deed.f T.Reader.d_Reader_is_deed.fd ["self", "row"] (ZOm T):=by
 refine T.Reader.d_Reader_is_deed.F.ok ZUg (fun vs H Q E h=>?_) (fun cdv A outer s H vs Q E hr h=>?_)
 ·obtain ⟨c,o,p,hd,tl,ts,as,H0,rfl,_⟩:=h
  rfl
 ·obtain ⟨c,o,p,hd,tl,ts,as,H0,rfl,ha,eo,hp,hm,hdt,nd,hT,k⟩:=h
  refine ⟨_,(pss_cons (ps_if (pt_cmpR op_eq (pe_callB call_len (by rfl) T.c.z_len (by decide +kernel) (pa_cons (pv 1) pa_nil)) pe_int (nomark _)) (pss_one (ps_ret (pe_cmpR op_eq (pe_ix ix_list (pv 1) pe_int (fun _ _=>rfl)) (ZQb rfl T.c.g_STOPS) (nomark _)))) pss_nil) (pss_one (ps_ret (pe_and (pe_cmpR op_eq (pe_callB call_len (by rfl) T.c.z_len (by decide +kernel) (pa_cons (pv 1) pa_nil)) pe_int (nomark _)) (pe_and (pe_cmpR op_in_seq (pe_ix ix_list (pv 1) pe_int (fun _ _=>rfl)) (pe_tup (pa_cons (ZQb rfl T.c.g_PLAYS) (pa_cons (ZQb rfl T.c.g_KEEPS) pa_nil))) rfl) (pe_one (pe_cmp (pc_din (hu_of hr) (pe_ix ix_list (pv 1) pe_int (fun _ _=>rfl)) (ZH (ZS T) (pe_dget (hu_of hr) (ZH (ZJ T) (pv 0)) (pe_ix ix_list (pv 1) pe_int (fun _ _=>rfl)) (fun _ _=>rfl)))) rfl))))))),?_⟩
  refine ⟨_,rfl,_,_,rfl,.inl ⟨_,.inl (.inl hp),rfl⟩,rfl,_,rfl,?_⟩
  by_cases l2 : tl.length = 1
  ·obtain ⟨w,rfl⟩:=List.length_eq_one_iff.mp l2
   refine ifT rfl ?_
   refine ⟨_,rfl,p,_,_,V.str w,rfl,rfl,.inl (.inl hp),atI_nat rfl,rfl,?_⟩
   have k:=k _ (Same.refl _)
   rw [Zdk] at k
   by_cases h : w = "stops"
   ·rw [decide_eq_true h] at k
    rw [decide_eq_true (congrArg V.str h)]
    exact k
   ·rw [decide_eq_false h] at k
    rw [decide_eq_false fun z=>h (V.str.inj z)]
    exact k
  ·refine ifF (by show (decide (V.int _ = V.int 2)) = false; rw [List.length_map,decide_eq_false fun q=>by injection q with q; simp at q; omega]) ?_
   refine ⟨_,rfl,_,_,rfl,.inl ⟨_,.inl (.inl hp),rfl⟩,rfl,?_⟩
   by_cases l3 : tl.length = 2
   case neg=>
    refine ⟨false,by rw [List.length_map,decide_eq_false fun q=>by injection q with q; simp at q; omega],?_⟩
    refine ifF rfl ?_
    have k:=k _ (Same.refl _)
    rw [ZUl (by simp; omega) (by simp; omega)] at k
    exact k
   obtain ⟨w,lp,rfl⟩:=ZYi l3
   refine ⟨true,rfl,?_⟩
   refine ifT rfl ?_
   refine ⟨_,rfl,p,_,_,V.str w,rfl,rfl,.inl (.inl hp),atI_nat rfl,by show 2 ≤ sizeLine; exact Zyb (by omega),fun tp htp=>?_⟩
   have s1 : Same H (upd H tp (.tup [.str "plays",.str "keeps"])):=ZA htp
   have ew : inV (.str w) ((["plays", "keeps"] : List Str).map V.str) = decide (w = "plays" ∨ w = "keeps"):=by
    rw [ZTi]
    by_cases h : w = "plays" ∨ w = "keeps"
    ·rw [decide_eq_true h,decide_eq_true (by simpa using h)]
    ·rw [decide_eq_false h,decide_eq_false (by simpa using h)]
   by_cases hw : w = "plays" ∨ w = "keeps"
   case neg=>
    refine ⟨tp,_,rfl,.inr (.inl (.inl upd_same)),rfl,rfl,false,?_,?_⟩
    ·show V.bl (inV (.str w) ((["plays", "keeps"] : List Str).map V.str)) = _
     rw [ew,decide_eq_false hw]
    refine ifF rfl ?_
    have k:=k _ s1
    rw [ZVl hw] at k
    exact k
   refine ⟨tp,_,rfl,.inr (.inl (.inl upd_same)),rfl,rfl,true,?_,?_⟩
   ·show V.bl (inV (.str w) ((["plays", "keeps"] : List Str).map V.str)) = _
    rw [ew,decide_eq_true hw]
   refine ifT rfl ?_
   obtain ⟨tm,hm2,htm⟩:=List.mem_map.mp hm
   have kd:=Zyj (lp:=lp) hw hm2 htm nd
   subst htm
   obtain ⟨i,hi,ei⟩:=List.mem_iff_getElem.mp hm2
   have e1 : ts[i]? = some tm:=by rw [List.getElem?_eq_getElem hi,ei]
   have hl:=hT.1
   have e2 : as[i]? = some (as[i]'(by omega)):=List.getElem?_eq_getElem (by omega)
   obtain ⟨d2,as2,_,_,⟨at2,ad2,al2⟩,_⟩:=hT.2 i _ tm e2 e1
   refine ⟨_,rfl,p,_,_,V.str lp,rfl,rfl,.inl (.inl (s1 _ _ hp)),atI_nat rfl,?_⟩
   refine ⟨_,rfl,c.a,o,rfl,ha.same s1,?_⟩
   rw [eo]
   refine ⟨_,rfl,p,_,_,V.str tm.name,rfl,rfl,.inl (.inl (s1 _ _ hp)),atI_nat rfl,c.dt,.ref (as[i]'(by omega)),rfl,?_,_,_,rfl,at2.same s1,d2,_,rfl,DGet.k (k:=Sum.inr lp) (s1 _ _ ad2),?_⟩
   ·have g:=DGet.k (k:=Sum.inr tm.name) (s1 _ _ hdt)
    rw [ZTm nd e1 e2] at g
    exact g
   ·rw [ZOn al2,← kd]
    exact k _ s1
theorem Zjh (T : Txt K mg) : FnOk P w K mg base CX0 1 T.Button.init.f T.Button.init.fd ["self", "name", "quantum"] (ZYj T):=by
 refine T.Button.init.F.ok Zph (fun vs H Q E h=>?_) (fun cdv A outer s H vs Q E hr h=>?_)
 ·obtain ⟨x,dx,nm,q,rfl,_⟩:=h
  rfl
 ·obtain ⟨x,dx,nm,q,rfl,hx,k⟩:=h
  refine ⟨_,(pss_cons (ps_fld (pv 0) (pv 1) rfl) (pss_cons (ps_fld (pv 0) (pv 2) rfl) (pss_one (ps_fld (pv 0) pe_dnewK rfl)))),?_⟩
  refine ⟨_,rfl,_,rfl,x,_,dx,_,rfl,hx,T.Button.cl,T.Button.na 0 _ rfl,by decide,?_⟩
  refine ⟨_,rfl,_,rfl,x,_,dx,_,rfl,upd_same,T.Button.cl,T.Button.na 1 _ rfl,by show 1 < 1000; decide,?_⟩
  refine fun d nd=>⟨_,rfl,x,_,dx,putF "quantum" (.int (q : Int)) (putF "name" (.str nm) []),rfl,Z3 upd_same nd,T.Button.cl,T.Button.na 2 _ rfl,by show 2 < 1000; decide,?_⟩
  have ne : d ≠ x:=fun q=>by rw [q,upd_same] at nd; cases nd
  refine k _ d ((((Keep.refl _ _).put1.put1).new nd).put1) ?_ ?_
  ·rw [upd_ne ne,upd_ne ne] at nd; exact nd
  ·rw [Zbj,Zmh,Zji]
   exact ⟨⟨dx,upd_same⟩,by rw [upd_ne ne]; exact upd_same,rfl,fun i a x e=>by simp at e⟩
theorem ZUe [OkPr P] (T : Txt K mg) : FnX P w K mg base 7 T.Reader.d_Reader_read_button.f T.Reader.d_Reader_read_button.fd ["self", "row"] (Zmj T):=by
 refine ZJg T.Reader.d_Reader_read_button.F ZD (fun vs H Q E h=>?_) (fun cdv A outer s H vs Q E hg hh hr h=>?_)
 ·obtain ⟨c,bar,p,l,r,ws,bs,bas,ts,tas,H0,rfl,_⟩:=h
  rfl
 ·obtain ⟨c,bar,p,l,r,ws,bs,bas,ts,tas,H0,rfl,hc,hp,sw,l5',bar1,bar12,hdb,lbs,hdt,ndt,lt4,hT,ndbt,d0a,d0b,kb,k⟩:=h
  refine ⟨_,(pss_cons (ps_expr (Zgb Zx (pv 0) T.Reader.cl T.Reader.m_Reader_want (Zt (P:=P) T) (takes_of rfl rfl rfl rfl) hg (hr.mono (by decide)) T.Reader.d_Reader_want.b (pa_cons (pe_and (pe_cmpR op_eq (pe_callB call_len (by rfl) T.c.z_len (by decide +kernel) (pa_cons (pv 1) pa_nil)) pe_int (nomark _)) (pe_and (pe_call (ZKd T) (hr.mono (by decide)) rfl T.g_is_name T.d_is_name.F.kp T.d_is_name.b .nil pass0 (pa_cons (pe_ix ix_list (pv 1) pe_int (fun _ _=>rfl)) pa_nil)) (pe_one (pe_cmpR op_eq (pe_ix ix_list (pv 1) pe_int (fun _ _=>rfl)) (ZQb rfl T.c.g_EVERY) (nomark _))))) pa_nil))) (pss_cons (ps_set (i:=2) ZD.nd rfl (Or.inl rfl) (pe_call (Zmd T) (hr.mono (by decide)) rfl T.g_number_in T.d_number_in.F.kp T.d_number_in.b .nil pass0 (pa_cons (pe_ix ix_list (pv 1) pe_int (fun _ _=>rfl)) pa_nil))) (pss_cons (ps_expr (Zgb Zx (pv 0) T.Reader.cl T.Reader.m_Reader_want (Zt (P:=P) T) (takes_of rfl rfl rfl rfl) hg (hr.mono (by decide)) T.Reader.d_Reader_want.b (pa_cons (pe_and (pe_chain op_le op_le pe_int (pv 2) (ZQb rfl T.c.g_MOST_BAR)) (pe_and (pe_cmp (pc_dnotin (hu_of hr) (pe_ix ix_list (pv 1) pe_int (fun _ _=>rfl)) (ZH (Zeb T) (pv 0))) rfl) (pe_one (pe_cmpR op_lt (pe_callB call_lenD (by rfl) T.c.z_len (by decide +kernel) (pa_cons (ZH (Zeb T) (pv 0)) pa_nil)) (ZQb rfl T.c.g_MOST_BUTTONS) (nomark _))))) pa_nil))) (pss_cons (ps_expr (Zgb Zx (pv 0) T.Reader.cl T.Reader.m_Reader_want (Zt (P:=P) T) (takes_of rfl rfl rfl rfl) hg (hr.mono (by decide)) T.Reader.d_Reader_want.b (pa_cons (pe_cmpR op_le (pe_call (Zld T) (hr.mono (by decide)) rfl T.g_common_multiple T.d_common_multiple.F.kp T.d_common_multiple.b .nil pass0 (pa_cons (ZH (ZOb T) (pv 0)) (pa_cons (pv 2) pa_nil))) (ZQb rfl T.c.g_MOST_BAR) (nomark _)) pa_nil))) (pss_cons (ZDp (ZOb T) (pv 0) (pe_call (Zld T) (hr.mono (by decide)) rfl T.g_common_multiple T.d_common_multiple.F.kp T.d_common_multiple.b .nil pass0 (pa_cons (ZH (ZOb T) (pv 0)) (pa_cons (pv 2) pa_nil)))) (pss_cons (ps_set (i:=3) ZD.nd rfl (Or.inl rfl) (pe_make T.Button.made (Zjh T) (hr.mono (by decide)) rfl T.Button.gC T.Button.init.b .nil pass0 (pa_cons (pe_ix ix_list (pv 1) pe_int (fun _ _=>rfl)) (pa_cons (pv 2) pa_nil)))) (pss_cons (ps_dput (hu_of hr) (ZH (Zeb T) (pv 0)) (ZH (ZPi T) (pv 3)) (pv 3) rfl) (pss_cons (ZZh (Z9 T) (pv 0) pe_int in_add) (pss_cons (ps_set (i:=4) ZD.nd rfl (Or.inl rfl) (pe_callTy (call_list_dK rfl) (by rfl) T.c.z_list (by decide +kernel) (pa_cons (ZH (ZJ T) (pv 0)) pa_nil))) (pss_one (ps_while (passes_of rfl) (ZRg (pt_cmp (pc_notN (Zob Zkb (pe_meth (Ztb (pv 0)) T.Reader.cl T.Reader.m_Reader_row (Z6 T) (hr.mono (by decide)) T.Reader.d_Reader_row.b .nil pass0 (pa_cons pe_int pa_nil)))))) (pss_cons (ps_set (i:=1) ZD.nd rfl (Or.inl rfl) (Zob Zkb (pe_meth (Ztb (pv 0)) T.Reader.cl T.Reader.m_Reader_row (Z6 T) (hr.mono (by decide)) T.Reader.d_Reader_row.b .nil pass0 (pa_cons pe_int pa_nil)))) (pss_cons (ps_expr (Zgb Zx (pv 0) T.Reader.cl T.Reader.m_Reader_want (Zt (P:=P) T) (takes_of rfl rfl rfl rfl) hg (hr.mono (by decide)) T.Reader.d_Reader_want.b (pa_cons (pe_and (pe_cmpR op_in_seq (pe_ix ix_list (pv 1) pe_int (fun _ _=>rfl)) (pv 4) rfl) (pe_one (Zob Zhh (pe_meth (Ztb (pv 0)) T.Reader.cl T.Reader.m_Reader_is_deed (ZLg T) (hr.mono (by decide)) T.Reader.d_Reader_is_deed.b .nil pass0 (pa_cons (pv 1) pa_nil))))) pa_nil))) (pss_cons (ps_dput (hu_of hr) (ZH (Zci T) (pv 3)) (pe_ix ix_list (pv 1) pe_int (fun _ _=>rfl)) (pe_tup (pa_cons (pe_ix ix_list (pv 1) pe_int (fun _ _=>rfl)) (pa_cons (Ztb (pe_ifExp (pt_cmpR op_gt (pe_callB call_len (by rfl) T.c.z_len (by decide +kernel) (pa_cons (pv 1) pa_nil)) pe_int (nomark _)) (pe_ix ix_list (pv 1) pe_int (fun _ _=>rfl)) pe_str)) pa_nil))) rfl) (pss_cons (ps_set (i:=4) ZD.nd rfl (Or.inl rfl) (pe_slice sl_list (pv 4) (po_some (pe_op op_add (pe_bm PySem.F.plainAttrs_list PySem.F.slot_list_index PySem.F.type_list_index mt_index (pv 4) (pa_cons (pe_ix ix_list (pv 1) pe_int (fun _ _=>rfl)) pa_nil)) pe_int)) po_none)) (pss_one (ZZh (Z9 T) (pv 0) pe_int in_add))))))))))))))))),?_⟩
  have hc':=hc
  obtain ⟨pre,epre,ha,hal,sl⟩:=hc
  obtain ⟨dxa,ea⟩:=ha
  have ha : Zlb T H c.a ⟨.ref c.al,.int (pre.length : Int),.ref c.dt,.ref c.db,.int (bar : Int),.ref c.lr⟩:=⟨dxa,ea⟩
  have bad0 : ZR ts ws bs bar r = .error (r.length + 1) → ∀ {H1},Same H H1 → BadS (T.e.C 0) ((c.lines.length : Int) - (l :: r).length + 1) [] H1 E:=fun e H1 s=>(kb _ e).at_ s
  refine ⟨_,rfl,c.a,_,rfl,ha,?_⟩
  refine ⟨_,rfl,_,_,rfl,.inl ⟨_,.inl (.inl hp),rfl⟩,rfl,_,rfl,?_⟩
  by_cases l4 : ws.length = 4
  case neg=>
   refine ifF (by show (decide (V.int _ = V.int 4)) = false; rw [List.length_map,decide_eq_false fun q=>by injection q with q; omega]) ?_
   exact ⟨c,l :: r,bar,false,rfl,hc',nofun,fun _=>bad0 (ZEh fun w nm ev qw z=>absurd (by rw [z]; rfl) l4) (Same.refl _)⟩
  obtain ⟨w,nm,ev,qw,rfl⟩:=Zgm l4
  have no1 : ¬ Zng bs bar nm ev qw → ZR ts [w,nm,ev,qw] bs bar r = .error (r.length + 1):=fun z=>ZEh fun w' nm' ev' qw' e=>by
   cases e
   exact z
  refine ifT rfl ?_
  refine ⟨_,rfl,p,_,_,V.str nm,rfl,rfl,.inl (.inl hp),atI_nat rfl,V.str nm,.str nm,rfl,.str nm,(fun s e=>by cases e; exact sw.2 nm (by simp)),fun H1 s1=>?_⟩
  refine ⟨Zq nm,rfl,?_⟩
  by_cases hnm : Zq nm = true
  case neg=>
   refine ifF (Bool.eq_false_iff.mpr hnm) ?_
   exact ⟨c,l :: r,bar,false,rfl,hc'.same s1,nofun,fun _=>bad0 (no1 fun z=>hnm z.2.1) s1⟩
  refine ifT hnm ?_
  refine ⟨_,rfl,p,_,_,V.str ev,rfl,rfl,.inl (.inl (s1 _ _ hp)),atI_nat rfl,rfl,c,l :: r,bar,_,rfl,hc'.same s1,fun hb=>?_,fun hb=>bad0 (no1 fun z=>of_decide_eq_false hb (congrArg V.str z.1)) s1⟩
  have hev : ev = "every":= V.str.inj (of_decide_eq_true hb)
  refine ⟨_,rfl,p,_,_,V.str qw,rfl,rfl,.inl (.inl (s1 _ _ hp)),atI_nat rfl,qw,rfl,sw.2 qw (by simp),fun H2 s2'=>?_⟩
  have s2:=s1.trans s2'
  refine ⟨_,rfl,c.a,_,rfl,ha.same s2,?_⟩
  refine ⟨_,rfl,_,_,rfl,rfl,_,rfl,?_⟩
  have R2:=hc'.same s2
  by_cases c1 : 1 ≤ Zs qw
  case neg=>
   refine ifF (dF c1) ?_
   exact ⟨_,rfl,ifF rfl ⟨c,l :: r,bar,false,rfl,R2,nofun,fun _=>bad0 (no1 fun z=>c1 z.2.2.1) s2⟩⟩
  refine ifT (dT c1) ⟨_,_,rfl,rfl,_,rfl,?_⟩
  by_cases c2 : Zs qw ≤ 12
  case neg=>
   refine ifF (dF c2) ?_
   exact ⟨c,l :: r,bar,false,rfl,R2,nofun,fun _=>bad0 (no1 fun z=>c2 z.2.2.2.1) s2⟩
  refine ifT (dT c2) ?_
  by_cases nnm : nm ∉ bs.map (·.name)
  case neg=>
   refine ⟨_,rfl,p,_,_,V.str nm,rfl,rfl,.inl (.inl (s2 _ _ hp)),atI_nat rfl,_,rfl,c.a,_,rfl,ha.same s2,c.db,_,rfl,DGet.k (k:=Sum.inr nm) (s2 _ _ hdb),false,?_,?_⟩
   ·show V.bl (!(valV (kvN (·.name) bs bas) (Sum.inr nm)).isSome) = _
    rw [Z3e lbs (Classical.not_not.mp nnm)]
    rfl
   refine ifF rfl ?_
   exact ⟨c,l :: r,bar,false,rfl,R2,nofun,fun _=>bad0 (no1 fun z=>nnm z.2.2.2.2.1) s2⟩
  refine ⟨_,rfl,p,_,_,V.str nm,rfl,rfl,.inl (.inl (s2 _ _ hp)),atI_nat rfl,_,rfl,c.a,_,rfl,ha.same s2,c.db,_,rfl,DGet.k (k:=Sum.inr nm) (s2 _ _ hdb),true,?_,?_⟩
  ·show V.bl (!(valV (kvN (·.name) bs bas) (Sum.inr nm)).isSome) = _
   rw [Zxd nnm]
   rfl
  refine ifT rfl ?_
  refine ⟨_,rfl,c.a,_,rfl,ha.same s2,c.db,_,rfl,s2 _ _ hdb,_,_,rfl,rfl,c,l :: r,bar,_,rfl,R2,fun hb=>?_,fun hb=>bad0 (no1 fun z=>?_) s2⟩
  rotate_left
  ·rw [ZWc lbs] at hb
   have:=of_decide_eq_false hb
   have:=z.2.2.2.2.2.1
   omega
  have l5 : bs.length < 5:=by
   rw [ZWc lbs] at hb
   have:=of_decide_eq_true hb
   omega
  obtain ⟨q,hq⟩ : ∃ q : Nat,Zs qw = (q : Int):=⟨(Zs qw).toNat,by omega⟩
  have q1 : 1 ≤ q:=by omega
  have q12 : q ≤ 12:=by omega
  rw [hq]
  refine ⟨_,rfl,c.a,_,rfl,ha.same s2,?_⟩
  refine ⟨_,rfl,c.a,_,rfl,ha.same s2,_,rfl,bar,q,rfl,bar1,q1,by omega,by omega,_,_,rfl,rfl,c,l :: r,bar,_,rfl,R2,fun hb=>?_,fun hb=>bad0 (no1 fun z=>?_) s2⟩
  rotate_left
  ·have:=of_decide_eq_false hb
   have z:=z.2.2.2.2.2.2
   rw [show (Zs qw).toNat = q by omega] at z
   omega
  have hlcm : Nat.lcm bar q ≤ 12:=by
   have:=of_decide_eq_true hb
   omega
  obtain ⟨kb1,ko1⟩:=Z8j (ts:=ts) (w:=w) (r:=r) (show Zng bs bar nm ev qw from ⟨hev,hnm,c1,c2,nnm,l5,by rw [show (Zs qw).toNat = q by omega]; exact hlcm⟩)
  rw [show (Zs qw).toNat = q by omega] at ko1
  refine ⟨_,rfl,c.a,_,rfl,ha.same s2,_,rfl,bar,q,rfl,bar1,q1,by omega,by omega,_,rfl,c.a,_,rfl,ha.same s2,fun H3 a3 k3=>?_⟩
  have kp3 : Keep [c.a,c.db] H H3:=(Keep.of _ s2).but k3 (by simp)
  have npa : p ≠ c.a:=ne_of hp ea (by intro z; cases z)
  have ndba : c.db ≠ c.a:=ne_of hdb ea (by intro z; cases z)
  have nala : c.al ≠ c.a:=ne_of hal ea (by intro z; cases z)
  have nald : c.al ≠ c.db:=ne_of hal hdb (by intro z; cases z)
  have ndta : c.dt ≠ c.a:=ne_of hdt ea (by intro z; cases z)
  have npd : p ≠ c.db:=ne_of hp hdb (by intro z; cases z)
  have hp3:=(k3.off p npa).trans (s2 _ _ hp)
  have db3:=(k3.off c.db ndba).trans (s2 _ _ hdb)
  have al3:=(k3.off c.al nala).trans (s2 _ _ hal)
  have dt3:=(k3.off c.dt ndta).trans (s2 _ _ hdt)
  have NT2 : ∀ {Hx : Hp} {o : OReader} {kvs},Zlb T Hx c.a o → Hx c.db = some (.dK kvs) → NT [c.a,c.db] Hx:=by
   rintro Hx o kvs ⟨dx,e1⟩ e2 z hz u e
   simp at hz
   rcases hz with rfl | rfl
   ·rw [e1] at e; cases e; rfl
   ·rw [e2] at e; cases e; rfl
  have S0 : ∀ s ∈ [c.a,c.db],∃ u,H0 s = some u:=by
   intro z hz
   simp at hz
   rcases hz with rfl | rfl
   ·exact d0a
   ·exact d0b
  have T3 : ZL T H0 H3 tas ts:=hT.keep kp3 (NT2 ha hdb) S0
  refine ⟨_,rfl,p,_,_,V.str nm,rfl,rfl,.inl (.inl hp3),atI_nat rfl,_,rfl,fun b dx nb ndx ne=>⟨b,dx,nm,q,rfl,upd_same,fun H4 d k4 nd hB=>⟨rfl,?_⟩⟩⟩
  have s4:=Znc nb ndx k4
  have n1 : d ≠ b:=fun q=>by rw [q,upd_same] at nd; cases nd
  rw [upd_ne n1] at nd
  have n2 : d ≠ dx:=fun q=>by rw [q,upd_same] at nd; cases nd
  rw [upd_ne n2] at nd
  have fr3 : ∀ x,H3 x = none → H x = none:=fun x e=>by
   refine kp3.free e ?_
   intro q
   simp at q
   rcases q with rfl | rfl
   ·obtain ⟨_,e'⟩:=a3
    rw [e'] at e; cases e
   ·rw [db3] at e; cases e
  have nb0:=fr3 _ nb
  have nd0:=fr3 _ nd
  obtain ⟨ab4,ad4,_,_⟩:=hB
  refine ⟨_,rfl,_,rfl,c.a,_,rfl,a3.same s4,_,rfl,b,_,rfl,ab4,c.db,_,rfl,DPut.k (k:=Sum.inr nm) (s4 _ _ db3) (by rw [ZWc lbs]; exact ZXc (by omega)),?_⟩
  rw [Zxh (Zxd nnm)]
  have nbd : b ≠ c.db:=fun q=>by rw [q,hdb] at nb0; cases nb0
  have nba : b ≠ c.a:=fun q=>by rw [q,ea] at nb0; cases nb0
  have ndd : d ≠ c.db:=fun q=>by rw [q,hdb] at nd0; cases nd0
  have nda : d ≠ c.a:=fun q=>by rw [q,ea] at nd0; cases nd0
  have ndal : c.al ≠ d:=fun q=>by rw [← q,hal] at nd0; cases nd0
  have nddt : c.dt ≠ d:=fun q=>by rw [← q,hdt] at nd0; cases nd0
  have kp5 : Keep [c.a,c.db] H (upd H4 c.db (.dK (kvN (·.name) bs bas ++ [(Sum.inr nm,V.ref b)]))):=(kp3.same s4).put (by simp)
  have a5:=(a3.same s4).put (u:=.dK (kvN (·.name) bs bas ++ [(Sum.inr nm,V.ref b)])) ndba.symm
  have al5:=ZY (u:=.dK (kvN (·.name) bs bas ++ [(Sum.inr nm,V.ref b)])) (s4 _ _ al3) nald
  have dt5:=ZY (u:=.dK (kvN (·.name) bs bas ++ [(Sum.inr nm,V.ref b)])) (s4 _ _ dt3) ndbt.symm
  have b5:=ab4.put (u:=.dK (kvN (·.name) bs bas ++ [(Sum.inr nm,V.ref b)])) nbd
  have d5:=ZY (u:=.dK (kvN (·.name) bs bas ++ [(Sum.inr nm,V.ref b)])) ad4 ndd
  have db5 : upd H4 c.db (.dK (kvN (·.name) bs bas ++ [(Sum.inr nm,V.ref b)])) c.db = some (.dK (kvN (·.name) bs bas ++ [(Sum.inr nm,V.ref b)])):=upd_same
  generalize upd H4 c.db (.dK (kvN (·.name) bs bas ++ [(Sum.inr nm,V.ref b)])) = H5 at *
  refine ⟨_,rfl,c.a,_,rfl,a5,_,_,rfl,rfl,_,a5,fun H6 a6 k6=>?_⟩
  have kp6 : Keep [c.a,c.db] H H6:=kp5.but k6 (by simp)
  have dt6:=(k6.off c.dt ndta).trans dt5
  refine ⟨_,rfl,c.a,_,rfl,a6,c.dt,_,rfl,dt6,fun lf nlf=>?_⟩
  rw [ZUk hT.1]
  have kp7 : Keep [c.a,c.db] H (upd H6 lf (.lst ((ts.map (·.name)).map V.str))):=kp6.new nlf
  have s67 : Same H6 (upd H6 lf (.lst ((ts.map (·.name)).map V.str))):=ZA nlf
  have lf7 : upd H6 lf (.lst ((ts.map (·.name)).map V.str)) lf = some (.lst ((ts.map (·.name)).map V.str)):=upd_same
  generalize upd H6 lf (.lst ((ts.map (·.name)).map V.str)) = H7 at *
  refine Z4e (fun m σ Hx=>∃ (rest : List Str) (left : List Str) (dsx : List (Str × Str × Str)) (asx : List Addr) (rw : V) (lfx : Addr),m = rest.length ∧ σ = [some (.ref c.a),some rw,some (.int (q : Int)),some (.ref b),some (.ref lfx)] ∧ Hx lfx = some (.lst (left.map V.str)) ∧ RdS T Hx c rest (Nat.lcm bar q) ∧ Keep [c.a,c.db] H Hx ∧
   Hx c.db = some (.dK (kvN (·.name) bs bas ++ [(Sum.inr nm,V.ref b)])) ∧ BtnP T Hx b d ⟨nm,q,[]⟩ dsx asx ∧ ZUb ts left dsx rest = ZUb ts (ts.map (·.name)) [] r ∧ (∀ x ∈ left,x ∈ ts.map (·.name)) ∧ left.Nodup ∧ (∀ x ∈ dsx,x.1 ∉ left) ∧ dsx.length + left.length ≤ 4) r.length ⟨r,ts.map (·.name),[],[],_,lf,rfl,rfl,lf7,?_,kp7,?_,⟨(b5.but k6 nba).same s67,?_,rfl,fun i a x e=>by simp at e⟩,rfl,fun _ h=>h,ndt,by simp,by simpa using lt4⟩ ?_
  ·exact ⟨pre ++ [l],by rw [epre]; simp,by rw [List.length_append]; exact a6.same s67,s67 _ _ ((k6.off c.al nala).trans al5),sl⟩
  ·exact s67 _ _ ((k6.off c.db ndba).trans db5)
  ·exact s67 _ _ ((k6.off d nda).trans d5)
  ·rintro m σ Hx ⟨rest,left,dsx,asx,rwv,lfx,rfl,rfl,lfe,Rx,kx,dbx,Bx,hRx,lin,ndl,nin,cnt⟩
   have Rx':=Rx
   obtain ⟨prex,epx,ax,alx,_⟩:=Rx'
   have dtx : Hx c.dt = some (.dK (kvN (·.name) ts tas)):=kx _ _ hdt (by simp [ndta,ndbt.symm])
   have Tx : ZL T H0 Hx tas ts:=hT.keep kx (NT2 ha hdb) S0
   refine ⟨_,rfl,c.a,_,rfl,ax,c,rest,_,1,rfl,Rx,by decide,?_⟩
   have kbx : ∀ {k},ZUb ts left dsx rest = .error k → ∀ {H6},Same Hx H6 → BadS (T.e.C 0) ((c.lines.length : Int) - k + 1) [] H6 E:=fun e H6 s6=>((kb _ (kb1 _ (hRx.symm.trans e))).later (S':=[]) kx (ne2 ax.some ⟨_,dbx⟩) (fun x hx=>by cases hx)).at_ s6
   cases er : rowW rest 2 with
   | none=>
    have fin:=ko1 _ (hRx.symm.trans (Zek er))
    intro H8 s8
    refine ⟨_,rfl,?_⟩
    refine ifF rfl ?_
    refine k _ _ fin H8 b (kx.same s8) (Rx.same s8) ?_ ⟨d,asx,nb0,nd0,?_⟩
    ·rw [Zsh lbs]
     exact s8 _ _ dbx
    ·exact Bx.same s8
   | some row=>
    obtain ⟨l',r',rfl⟩ : ∃ l' r',rest = l' :: r':=by
     cases rest with
     | nil=>cases er
     | cons l' r'=>exact ⟨l',r',rfl⟩
    have hrow : Zp l' 2 = some row:=er
    obtain ⟨hd,tl0,rfl⟩ : ∃ hd tl0,row = hd :: tl0:=by
     have:=(ZJc hrow (sl.2 l' (by rw [epx]; simp))).2
     cases row with
     | nil=>simp at this
     | cons hd tl0=>exact ⟨hd,tl0,rfl⟩
    have er : rowW (l' :: r') (2 * 1) = some (hd :: tl0):=hrow
    intro H8 q8 s8 nq8 hq8
    refine ⟨_,rfl,?_⟩
    refine ifT rfl ?_
    refine ⟨_,rfl,c.a,_,rfl,ax.same s8,c,l' :: r',_,1,rfl,Rx.same s8,by decide,?_⟩
    rw [er]
    intro H9 q9 s9' nq9 hq9
    have s9:=s8.trans s9'
    have Rx9:=Rx.same s9
    refine ⟨_,rfl,c.a,_,rfl,ax.same s9,?_⟩
    by_cases hin' : hd ∈ left
    case neg=>
     refine ⟨_,rfl,q9,_,_,V.str hd,rfl,rfl,.inl (.inl hq9),atI_nat rfl,_,rfl,lfx,_,rfl,.inl (.inl (.inl (s9 _ _ lfe))),rfl,Zpg _,false,?_,?_⟩
     ·show V.bl (inV (.str hd) (left.map V.str)) = _
      rw [ZTi,dF hin']
     refine ifF rfl ?_
     exact ⟨c,l' :: r',_,false,rfl,Rx9,nofun,fun _=>kbx (Zti hrow fun z=>hin' z.1) s9⟩
    refine ⟨_,rfl,q9,_,_,V.str hd,rfl,rfl,.inl (.inl hq9),atI_nat rfl,_,rfl,lfx,_,rfl,.inl (.inl (.inl (s9 _ _ lfe))),rfl,Zpg _,true,?_,?_⟩
    ·show V.bl (inV (.str hd) (left.map V.str)) = _
     rw [ZTi,dT hin']
    refine ifT rfl ?_
    refine ⟨_,rfl,c.a,_,rfl,ax.same s9,_,rfl,c,_,q9,hd,tl0,ts,tas,H0,rfl,ax.same s9,rfl,hq9,lin _ hin',s9 _ _ dtx,ndt,Tx.same s9,fun H10 s10'=>?_⟩
    have s10:=s9.trans s10'
    refine ⟨c,l' :: r',_,_,rfl,Rx.same s10,fun hb=>?_,fun hb=>kbx (Zti hrow fun z=>by rw [z.2] at hb; cases hb) s10⟩
    obtain ⟨dd,hdp⟩:=Option.isSome_iff_exists.mp hb
    have hdw:=ZLi hdp
    have hgo:=ZWl (ds:=dsx) (r:=r') hrow hdp hin'
    obtain ⟨tl,erow,etl⟩:=hdw.shape
    have hin : dd.1 ∈ left:=by rw [ZIg hdp]; exact hin'
    have hq9' : H9 q9 = some (.lst ((dd.1 :: dd.2.1 :: tl).map V.str)):=by rw [← erow]; exact hq9
    have hq10:=s10' _ _ hq9'
    have hR':=hgo.symm.trans hRx
    refine ⟨_,rfl,q9,_,_,V.str dd.2.1,rfl,rfl,.inl (.inl hq10),atI_nat rfl,fun v Hv=>Hv = H10 ∧ v = .str dd.2.2,?_,?_⟩
    ·refine ⟨_,rfl,_,_,rfl,.inl ⟨_,.inl (.inl hq10),rfl⟩,_,_,rfl,rfl,_,rfl,?_⟩
     rcases etl with ⟨rfl,e0⟩ | rfl
     ·refine ifF rfl ?_
      exact ⟨rfl,by rw [e0]⟩
     ·refine ifT rfl ?_
      exact ⟨_,rfl,q9,_,_,V.str dd.2.2,rfl,rfl,.inl (.inl hq10),atI_nat rfl,rfl,rfl⟩
    rintro v Hv ⟨rfl,rfl⟩
    refine ⟨by show 2 ≤ sizeLine; exact Zyb (by omega),fun tp htp=>?_⟩
    have s11 : Same Hx (upd Hv tp (.tup [.str dd.2.1,.str dd.2.2])):=s10.new htp
    have htp0 : H tp = none:=by
     refine kx.free (s10.fresh htp) ?_
     intro z
     simp at z
     rcases z with rfl | rfl
     ·obtain ⟨_,e'⟩:=ax.same s10
      rw [e'] at htp; cases htp
     ·rw [s10 _ _ dbx] at htp; cases htp
    have tp11 : upd Hv tp (.tup [.str dd.2.1,.str dd.2.2]) tp = some (.tup [.str dd.2.1,.str dd.2.2]):=upd_same
    have hq11 : upd Hv tp (.tup [.str dd.2.1,.str dd.2.2]) q9 = _:=Z3 hq10 htp
    generalize upd Hv tp (.tup [.str dd.2.1,.str dd.2.2]) = H11 at *
    obtain ⟨bx1,bx2,bx3,bx4⟩:=Bx
    have nink : dd.1 ∉ dsx.map (·.1):=fun z=>by
     obtain ⟨y,hy,ey⟩:=List.mem_map.mp z
     exact nin y hy (by rw [ey]; exact hin)
    refine ⟨_,rfl,b,_,rfl,bx1.same s11,_,rfl,q9,_,_,V.str dd.1,rfl,rfl,.inl (.inl hq11),atI_nat rfl,d,_,rfl,DPut.k (k:=Sum.inr dd.1) (s11 _ _ bx2) (by rw [ZWc bx3]; exact ZXc (by omega)),?_⟩
    rw [Zxh (Zxd nink)]
    have k12 : Keep [d] Hx (upd H11 d (.dK (kvN (·.1) dsx asx ++ [(Sum.inr dd.1,V.ref tp)]))):=(Keep.of _ s11).put (by simp)
    have d12 : upd H11 d (.dK (kvN (·.1) dsx asx ++ [(Sum.inr dd.1,V.ref tp)])) d = some (.dK (kvN (·.1) dsx asx ++ [(Sum.inr dd.1,V.ref tp)])):=upd_same
    have ntp : tp ≠ d:=ne_of tp11 (s11 _ _ bx2) (by intro z; cases z)
    have tp12:=ZY (u:=.dK (kvN (·.1) dsx asx ++ [(Sum.inr dd.1,V.ref tp)])) tp11 ntp
    have hq12:=ZY (u:=.dK (kvN (·.1) dsx asx ++ [(Sum.inr dd.1,V.ref tp)])) hq11 (ne_of hq11 (s11 _ _ bx2) (by intro z; cases z))
    generalize upd H11 d (.dK (kvN (·.1) dsx asx ++ [(Sum.inr dd.1,V.ref tp)])) = H12 at *
    have NTd : NT [d] Hx:=by
     intro z hz u e
     rw [List.mem_singleton] at hz
     rw [hz,bx2] at e
     cases e
     rfl
    have nbdd : b ≠ d:=n1.symm
    have b12 : ZFi T H12 b ⟨.str nm,.int (q : Int),.ref d⟩:=by
     obtain ⟨dx,e⟩:=bx1
     exact ⟨dx,k12 _ _ e (by simpa using nbdd)⟩
    have a12 : Zlb T H12 c.a ⟨.ref c.al,.int (prex.length : Int),.ref c.dt,.ref c.db,.int ((Nat.lcm bar q : Nat) : Int),.ref c.lr⟩:=by
     obtain ⟨dx,e⟩:=ax
     exact ⟨dx,k12 _ _ e (by simpa using nda.symm)⟩
    have al12:=k12 _ _ alx (by simpa using ndal)
    have db12:=k12 _ _ dbx (by simpa using ndd.symm)
    have lf12:=k12 _ _ lfe (by simpa using ne_of lfe bx2 (by intro z; cases z))
    have kk12 : Keep [c.a,c.db] H H12:=kx.transN k12 (by
     intro z hz
     rw [List.mem_singleton] at hz
     exact .inr (by rw [hz]; exact nd0))
    obtain ⟨ix1,ix2⟩:=Zfp hin
    refine ⟨_,rfl,_,rfl,.inl ⟨rfl,_,.inl (.inl lf12)⟩,_,rfl,q9,_,_,V.str dd.1,rfl,rfl,.inl (.inl hq12),atI_nat rfl,lfx,_,.str dd.1,left.idxOf dd.1,.str dd.1,rfl,rfl,.inl (.inl lf12),rfl,Zpg _,ix1,by show (dd.1 == dd.1) = true; exact beq_self_eq_true _,ix2,_,_,rfl,rfl,_,rfl,lfx,_,rfl,.inl (.inl lf12),fun lf2 nlf2=>?_⟩
    rw [show ((left.idxOf dd.1 : Nat) : Int) + 1 = ((left.idxOf dd.1 + 1 : Nat) : Int) from rfl,Zao,← List.map_drop]
    show _
    have s13 : Same H12 (upd H12 lf2 (.lst ((ZVc left dd.1).map V.str))):=ZA nlf2
    have lf13 : upd H12 lf2 (.lst ((ZVc left dd.1).map V.str)) lf2 = some (.lst ((ZVc left dd.1).map V.str)):=upd_same
    rw [show left.drop (left.idxOf dd.1 + 1) = ZVc left dd.1 from rfl]
    generalize upd H12 lf2 (.lst ((ZVc left dd.1).map V.str)) = H13 at *
    have a13:=a12.same s13
    refine ⟨_,rfl,c.a,_,rfl,a13,_,_,rfl,rfl,_,a13,fun H14 a14 k14=>?_⟩
    have nlfa : lf2 ≠ c.a:=by
     obtain ⟨_,e'⟩:=a13
     exact ne_of lf13 e' (by intro z; cases z)
    obtain ⟨bf1,bf2,bf3⟩:=Z2g ndl hin
    have bl : (ZVc left dd.1).length + 1 ≤ left.length:=by
     have:=List.idxOf_lt_length_of_mem hin
     show (left.drop (left.idxOf dd.1 + 1)).length + 1 ≤ left.length
     rw [List.length_drop]
     omega
    have NTa : NT [c.a] H13:=by
     obtain ⟨_,e'⟩:=a13
     intro z hz u e
     rw [List.mem_singleton] at hz
     rw [hz,e'] at e
     cases e
     rfl
    have kk14 : Keep [c.a] H13 H14:=k14.keep (by simp)
    refine ⟨r'.length,Nat.lt_succ_self _,r',ZVc left dd.1,dsx ++ [dd],asx ++ [tp],_,lf2,rfl,rfl,(k14.off lf2 nlfa).trans lf13,⟨prex ++ [l'],by rw [epx]; simp,by rw [List.length_append]; exact a14,(k14.off c.al nala).trans (s13 _ _ al12),sl⟩,(kk12.same s13).but k14 (by simp),(k14.off c.db ndba).trans (s13 _ _ db12),⟨(b12.same s13).but k14 nba,?_,by simp [bx3],?_⟩,hR',fun x hx=>lin _ (bf3 _ hx),bf1,?_,by simp; omega⟩
    ·rw [Zsh bx3]
     exact (k14.off d nda).trans (s13 _ _ d12)
    ·refine Zlj (P:=fun a x=>Dp K H14 (.ref a) (Zen x)) bx3 (fun i a x e1 e2=>?_) ?_
     ·exact ZJh kk14 NTa (s13.dp (ZJh k12 NTd (bx4 i a x e1 e2) (Zwh x))) (Zwh x)
     ·refine ZJh kk14 NTa (s13.dp ?_) (Zwh dd)
      exact .tup (.inl (.inl tp12)) (.cons (.str _) (.cons (.str _) .nil))
    ·intro x hx
     rcases List.mem_append.mp hx with hx | hx
     ·exact fun z=>nin x hx (bf3 _ z)
     ·rw [List.mem_singleton] at hx
      rw [hx]
      exact bf2
end
end Ev
end
section
namespace Ev
open PySem PySem.Spec PyProof.Rows L2 PL
def Z0j {K : PySem.W.Frag} {mg : Str → Option Value} (T : Txt K mg) : Sp:=fun vs H Q _=>∃ (x dx al : Addr),vs = [.ref x,.ref al] ∧ H x = some (.ins T.Reader.C dx []) ∧
 ∀ H' dt db lr,Keep [x] H H' → H dt = none → H db = none → H lr = none → Zlb T H' x ⟨.ref al,.int 0,.ref dt,.ref db,.int 1,.ref lr⟩ → H' dt = some (.dK []) → H' db = some (.dK []) → H' lr = some (.lst []) → dt ≠ db → Q .non H'
def ZSo {K : PySem.W.Frag} {mg : Str → Option Value} (T : Txt K mg) : Sp:=fun vs H Q E=>∃ (c : RC),vs = [.ref c.a] ∧ RdS T H c c.lines 1 ∧ H c.dt = some (.dK []) ∧ H c.db = some (.dK []) ∧ H c.lr = some (.lst []) ∧ c.lr ≠ c.al ∧ c.dt ≠ c.db ∧
 (∀ k,Zib c.lines = .error k → BadS (T.e.C 0) ((c.lines.length : Int) - k + 1) [c.a,c.lr,c.dt,c.db] H E) ∧
 ∀ B,Zib c.lines = .ok B → ∀ H' tas bas,Keep [c.a,c.lr,c.dt,c.db] H H' → Zlb T H' c.a ⟨.ref c.al,.int (c.lines.length : Int),.ref c.dt,.ref c.db,.int (B.bar : Int),.ref c.lr⟩ → H' c.dt = some (.dK (kvN (·.name) B.tracks tas)) → H' c.db = some (.dK (kvN (·.name) B.buttons bas)) →
  ZL T H H' tas B.tracks → ZP T H H' bas B.buttons → Q .non H'
theorem Z1j {n : Nat} {ts : List TrackM} {lt : List (Nat × Nat × Str)} {rest : List Str} (h : Zdb rest 0 "track" = none) : Zub (n + 1) ts lt rest = .ok (ts,lt,rest):=by
 unfold Zub
 rw [h]
theorem ZEk {n k : Nat} {ts : List TrackM} {lt : List (Nat × Nat × Str)} {l : Str} {r ws : List Str} (h : Zdb (l :: r) 0 "track" = some ws) (h2 : Zbb ws ts r = .error k) : Zub (n + 1) ts lt (l :: r) = .error k:=by
 unfold Zub
 rw [h]
 dsimp only
 rw [h2]
theorem ZJl {n : Nat} {ts : List TrackM} {lt : List (Nat × Nat × Str)} {l : Str} {r ws : List Str} {q : TrackM × List (Nat × Str) × List Str} (h : Zdb (l :: r) 0 "track" = some ws) (h2 : Zbb ws ts r = .ok q) : Zub (n + 1) ts lt (l :: r) = Zub n (ts ++ [q.1]) (lt ++ q.2.1.map fun p=>(p.1,ts.length,p.2)) q.2.2:=by
 conv=>lhs; unfold Zub
 rw [h]
 dsimp only
 rw [h2]
theorem ZJi {tk : List TrackM} {n bar : Nat} {bs : List ButtonM} {rest : List Str} (h : Zdb rest 0 "button" = none) : ZZ tk (n + 1) bs bar rest = .ok (bs,bar,rest):=by
 unfold ZZ
 rw [h]
theorem Zwj {tk : List TrackM} {n bar k : Nat} {bs : List ButtonM} {l : Str} {r ws : List Str} (h : Zdb (l :: r) 0 "button" = some ws) (h2 : ZR tk ws bs bar r = .error k) : ZZ tk (n + 1) bs bar (l :: r) = .error k:=by
 unfold ZZ
 rw [h]
 dsimp only
 rw [h2]
theorem Zbk {tk : List TrackM} {n bar : Nat} {bs : List ButtonM} {l : Str} {r ws : List Str} {q : ButtonM × List Str} (h : Zdb (l :: r) 0 "button" = some ws) (h2 : ZR tk ws bs bar r = .ok q) : ZZ tk (n + 1) bs bar (l :: r) = ZZ tk n (bs ++ [q.1]) (Nat.lcm bar q.1.quantum) q.2:=by
 conv=>lhs; unfold ZZ
 rw [h]
 dsimp only
 rw [h2]
theorem Zvd {α : Type} {o : Option α} {x : α} (h : o = some x) : o.isSome = true:=by rw [h]; rfl
theorem ZYm {lines : List Str} (h : Zdb lines 0 "track" = none) : Zib lines = .error lines.length:=by
 unfold Zib
 rw [h]
 rfl
section
variable {lines ws : List Str} (h : Zdb lines 0 "track" = some ws)
include h
theorem ZZm {k : Nat} (h2 : Zub (lines.length + 1) [] [] lines = .error k) : Zib lines = .error k:=by
 unfold Zib
 rw [if_pos (Zvd h),h2]
variable {ts : List TrackM} {lt : List (Nat × Nat × Str)} {rest : List Str} (h2 : Zub (lines.length + 1) [] [] lines = .ok (ts,lt,rest))
include h2
theorem Z0m (h3 : Zdb rest 0 "button" = none) : Zib lines = .error rest.length:=by
 unfold Zib
 rw [if_pos (Zvd h),h2]
 dsimp only
 rw [h3]
 rfl
variable {ws2 : List Str} (h3 : Zdb rest 0 "button" = some ws2)
include h3
theorem Z1m {k : Nat} (h4 : ZZ ts (rest.length + 1) [] 1 rest = .error k) : Zib lines = .error k:=by
 unfold Zib
 rw [if_pos (Zvd h),h2]
 dsimp only
 rw [if_pos (Zvd h3),h4]
variable {bs : List ButtonM} {bar : Nat} {rest2 : List Str} (h4 : ZZ ts (rest.length + 1) [] 1 rest = .ok (bs,bar,rest2))
include h4
theorem Z2m (h5 : rest2 ≠ []) : Zib lines = .error rest2.length:=by
 unfold Zib
 rw [if_pos (Zvd h),h2]
 dsimp only
 rw [if_pos (Zvd h3),h4]
 dsimp only
 rw [if_neg]
 intro z
 cases rest2 with
 | nil=>exact h5 rfl
 | cons _ _=>cases z
theorem Z3m {p : Nat × Nat × Str} (h5 : rest2 = []) (h6 : lt.find? (ZOe ts) = some p) : Zib lines = .error p.1:=by
 subst h5
 unfold Zib
 rw [if_pos (Zvd h),h2]
 dsimp only
 rw [if_pos (Zvd h3),h4]
 dsimp only
 rw [if_pos (show ([] : List Str).isEmpty = true from rfl),h6]
theorem Z4m (h5 : rest2 = []) (h6 : lt.find? (ZOe ts) = none) : Zib lines = .ok ⟨ts,bs,bar⟩:=by
 subst h5
 unfold Zib
 rw [if_pos (Zvd h),h2]
 dsimp only
 rw [if_pos (Zvd h3),h4]
 dsimp only
 rw [if_pos (show ([] : List Str).isEmpty = true from rfl),h6]
end
theorem Z6l {α : Type} {f : α → Bool} : ∀ {l : List α} {i : Nat} {p : α},l[i]? = some p → f p = true → (∀ j q,j < i → l[j]? = some q → f q = false) → l.find? f = some p
 | a :: l,0,p,e,h,_=>by cases e; rw [List.find?_cons,h]
 | a :: l,i + 1,p,e,h,q=>by
  rw [List.find?_cons,q 0 a (Nat.succ_pos i) rfl]
  exact Z6l (l:=l) (i:=i) e h fun j q' hj ej=>q (j + 1) q' (Nat.succ_lt_succ hj) ej
def latQ (N : Int) (tas : List Addr) (lt : List (Nat × Nat × Str)) : List (Int × Addr × Str):=lt.map fun p=>(N - p.1 + 1,tas.getD p.2.1 0,p.2.2)
theorem Zdm {N : Int} {tas : List Addr} {t : Addr} {lt : List (Nat × Nat × Str)} {n : Nat} (hn : tas.length = n) (h : ∀ p ∈ lt,p.2.1 < tas.length) (l2 : List (Nat × Str)) : latQ N (tas ++ [t]) (lt ++ l2.map fun p=>(p.1,n,p.2)) = latQ N tas lt ++ l2.map fun p=>(N - p.1 + 1,t,p.2):=by
 unfold latQ
 rw [List.map_append,List.map_map]
 congr 1
 ·refine List.map_congr_left fun p hp=>?_
  have:=h p hp
  rw [List.getD_eq_getElem?_getD,List.getD_eq_getElem?_getD,List.getElem?_append_left this]
 ·refine List.map_congr_left fun p hp=>?_
  show (N - p.1 + 1,(tas ++ [t]).getD n 0,p.2) = _
  rw [← hn,List.getD_eq_getElem?_getD,List.getElem?_append_right (Nat.le_refl _),Nat.sub_self]
  rfl
theorem LoopsR.le {ls ls' : List LoopM} {r r' : List Str} (h : LoopsR ls r ls' r') : r'.length ≤ r.length:=by
 induction h with
 | stop _=>exact Nat.le_refl _
 | step _ _ _ _ hp _ ih=>
  have:=hp.le
  simp
  omega
theorem ZMj {B : Nat} : ∀ {n : Nat} {ls ls' : List LoopM} {lt lt' : List (Nat × Str)} {rest rest' : List Str},ZHb n ls lt rest = .ok (ls',lt',rest') → (∀ p ∈ lt,p.1 ≤ B) → rest.length ≤ B → ∀ p ∈ lt',p.1 ≤ B
 | 0,_,_,_,_,_,_,h,_,_=>by cases h
 | n + 1,ls,ls',lt,lt',rest,rest',h,hl,hb=>by
  unfold ZHb at h
  split at h
  ·cases h
   exact hl
  ·split at h
   ·cases h
   ·rename_i l r _
    split at h
    ·cases h
    ·rename_i q e1
     have hle:=ZLj (L':=q.1) (rest':=q.2) e1
     have hb : r.length + 1 ≤ B:=hb
     refine ZMj h (fun p hp=>?_) (by omega)
     split at hp
     ·exact hl p hp
     ·rcases List.mem_append.mp hp with hp | hp
      ·exact hl p hp
      ·rw [List.mem_singleton] at hp
       rw [hp]
       exact hb
theorem ZHl {ws r : List Str} {ts : List TrackM} {q : TrackM × List (Nat × Str) × List Str} (h : Zbb ws ts r = .ok q) : q.2.2.length ≤ r.length:=by
 obtain ⟨w,_,_,_,_,h4,_⟩:=ZWg h
 exact (ZTh h4 rfl).1.le
theorem Z9j {ts : List TrackM} {ws r : List Str} {bs : List ButtonM} {bar : Nat} {q : ButtonM × List Str} (h : ZR ts ws bs bar r = .ok q) : q.2.length ≤ r.length:=by
 obtain ⟨_,_,_,_,_,_,_,_,_,_,h8⟩:=ZSf (b:=q.1) (rest':=q.2) h
 exact (ZIh h8).le
section
variable {P : Program} {w : World} {K : PySem.W.Frag} {mg : Str → Option Value} {base : Heap}
theorem Zkh (T : Txt K mg) : FnOk P w K mg base CX0 1 T.Reader.init.f T.Reader.init.fd ["self", "lines"] (Z0j T):=by
 refine T.Reader.init.F.ok Zqh (fun vs H Q E h=>?_) (fun cdv A outer s H vs Q E hr h=>?_)
 ·obtain ⟨x,dx,al,rfl,_⟩:=h
  rfl
 ·obtain ⟨x,dx,al,rfl,hx,k⟩:=h
  refine ⟨_,(pss_cons (ps_fld (pv 0) (pv 1) rfl) (pss_cons (ps_fld (pv 0) pe_int rfl) (pss_cons (ps_fld (pv 0) pe_dnewK rfl) (pss_cons (ps_fld (pv 0) pe_dnewK rfl) (pss_cons (ps_fld (pv 0) pe_int rfl) (pss_one (ps_fld (pv 0) (pe_lst pa_nil) rfl))))))),?_⟩
  refine ⟨_,rfl,_,rfl,x,_,dx,_,rfl,hx,T.Reader.cl,T.Reader.na 0 _ rfl,by decide,?_⟩
  refine ⟨_,rfl,x,_,dx,_,rfl,upd_same,T.Reader.cl,T.Reader.na 1 _ rfl,by show 1 < 1000; decide,?_⟩
  have k2 : Keep [x] H (upd (upd H x (.ins T.Reader.C dx (putF "own_lines" (.ref al) []))) x (.ins T.Reader.C dx (putF "at" (.int 0) (putF "own_lines" (.ref al) [])))):=(Keep.refl _ _).put1.put1
  have e2 : upd (upd H x (.ins T.Reader.C dx (putF "own_lines" (.ref al) []))) x (.ins T.Reader.C dx (putF "at" (.int 0) (putF "own_lines" (.ref al) []))) x = some (.ins T.Reader.C dx [("own_lines",.ref al),("at",.int 0)]):=by
   rw [upd_same,Zyg,Zvk]
  show _
  generalize upd (upd H x (.ins T.Reader.C dx (putF "own_lines" (.ref al) []))) x (.ins T.Reader.C dx (putF "at" (.int 0) (putF "own_lines" (.ref al) []))) = H2 at *
  refine fun dt ndt=>⟨_,rfl,x,_,dx,_,rfl,Z3 e2 ndt,T.Reader.cl,T.Reader.na 2 _ rfl,by show 2 < 1000; decide,?_⟩
  have xdt : dt ≠ x:=fun q=>by rw [q,e2] at ndt; cases ndt
  have dt3 : upd (upd H2 dt (.dK [])) x (.ins T.Reader.C dx (putF "own_tracks" (.ref dt) [("own_lines",.ref al),("at",.int 0)])) dt = some (.dK []):=ZY upd_same xdt
  have k3 : Keep [x] H (upd (upd H2 dt (.dK [])) x (.ins T.Reader.C dx (putF "own_tracks" (.ref dt) [("own_lines",.ref al),("at",.int 0)]))):=(k2.new ndt).put1
  have e3 : upd (upd H2 dt (.dK [])) x (.ins T.Reader.C dx (putF "own_tracks" (.ref dt) [("own_lines",.ref al),("at",.int 0)])) x = some (.ins T.Reader.C dx [("own_lines",.ref al),("at",.int 0),("own_tracks",.ref dt)]):=by
   rw [upd_same,Z3f]
  generalize upd (upd H2 dt (.dK [])) x (.ins T.Reader.C dx (putF "own_tracks" (.ref dt) [("own_lines",.ref al),("at",.int 0)])) = H3 at *
  refine fun db ndb=>⟨_,rfl,x,_,dx,_,rfl,Z3 e3 ndb,T.Reader.cl,T.Reader.na 3 _ rfl,by show 3 < 1000; decide,?_⟩
  have xdb : db ≠ x:=fun q=>by rw [q,e3] at ndb; cases ndb
  have dtb : dt ≠ db:=fun q=>by rw [← q,dt3] at ndb; cases ndb
  refine ⟨_,rfl,x,_,dx,_,rfl,upd_same,T.Reader.cl,T.Reader.na 4 _ rfl,by rw [Zzc]; show 4 < 1000; decide,?_⟩
  rw [Zzc,Znh]
  have db4 : upd (upd (upd H3 db (.dK [])) x (.ins T.Reader.C dx [("own_lines",.ref al),("at",.int 0),("own_tracks",.ref dt),("own_buttons",.ref db)])) x (.ins T.Reader.C dx [("own_lines",.ref al),("at",.int 0),("own_tracks",.ref dt),("own_buttons",.ref db),("own_bar",.int 1)]) db = some (.dK []):=ZY (ZY upd_same xdb) xdb
  have dt4 : upd (upd (upd H3 db (.dK [])) x (.ins T.Reader.C dx [("own_lines",.ref al),("at",.int 0),("own_tracks",.ref dt),("own_buttons",.ref db)])) x (.ins T.Reader.C dx [("own_lines",.ref al),("at",.int 0),("own_tracks",.ref dt),("own_buttons",.ref db),("own_bar",.int 1)]) dt = some (.dK []):=ZY (ZY (Z3 dt3 ndb) xdt) xdt
  have k4 : Keep [x] H (upd (upd (upd H3 db (.dK [])) x (.ins T.Reader.C dx [("own_lines",.ref al),("at",.int 0),("own_tracks",.ref dt),("own_buttons",.ref db)])) x (.ins T.Reader.C dx [("own_lines",.ref al),("at",.int 0),("own_tracks",.ref dt),("own_buttons",.ref db),("own_bar",.int 1)])):=(k3.new ndb).put1.put1
  have e4 : upd (upd (upd H3 db (.dK [])) x (.ins T.Reader.C dx [("own_lines",.ref al),("at",.int 0),("own_tracks",.ref dt),("own_buttons",.ref db)])) x (.ins T.Reader.C dx [("own_lines",.ref al),("at",.int 0),("own_tracks",.ref dt),("own_buttons",.ref db),("own_bar",.int 1)]) x = some (.ins T.Reader.C dx [("own_lines",.ref al),("at",.int 0),("own_tracks",.ref dt),("own_buttons",.ref db),("own_bar",.int 1)]):=upd_same
  generalize upd (upd (upd H3 db (.dK [])) x (.ins T.Reader.C dx [("own_lines",.ref al),("at",.int 0),("own_tracks",.ref dt),("own_buttons",.ref db)])) x (.ins T.Reader.C dx [("own_lines",.ref al),("at",.int 0),("own_tracks",.ref dt),("own_buttons",.ref db),("own_bar",.int 1)]) = H4 at *
  refine ⟨by show 0 ≤ sizeLine; omega,fun lr nlr=>⟨_,rfl,x,_,dx,_,rfl,Z3 e4 nlr,T.Reader.cl,T.Reader.na 5 _ rfl,by show 5 < 1000; decide,?_⟩⟩
  have xlr : lr ≠ x:=fun q=>by rw [q,e4] at nlr; cases nlr
  rw [Zki]
  have f3:=k3.free ndb (by simpa using xdb)
  have f2:=k2.free ndt (by simpa using xdt)
  refine k _ dt db lr ((k4.new nlr).put1) f2 f3 (k4.free nlr (by simpa using xlr)) ⟨dx,upd_same⟩ ?_ ?_ ?_ dtb
  ·exact ZY (Z3 dt4 nlr) xdt
  ·exact ZY (Z3 db4 nlr) xdb
  ·exact ZY upd_same xlr
theorem Zii [OkPr P] (T : Txt K mg) : FnX P w K mg base 13 T.Reader.d_Reader_read.f T.Reader.d_Reader_read.fd ["self"] (ZSo T):=by
 refine ZJg T.Reader.d_Reader_read.F Zic (fun vs H Q E h=>?_) (fun cdv A outer s H vs Q E hg hh hr h=>?_)
 ·obtain ⟨c,rfl,_⟩:=h
  rfl
 ·obtain ⟨c,rfl,hc,hdt,hdb,hlr,nal,ndd,kb,k⟩:=h
  refine ⟨_,(pss_cons (ps_expr (Zgb Zx (pv 0) T.Reader.cl T.Reader.m_Reader_want (Zt (P:=P) T) (takes_of rfl rfl rfl rfl) hg (hr.mono (by decide)) T.Reader.d_Reader_want.b (pa_cons (pe_cmp (pc_notN (Zob ZAb (pe_meth (Ztb (pv 0)) T.Reader.cl T.Reader.m_Reader_headed (Zqb T) (hr.mono (by decide)) T.Reader.d_Reader_headed.b .nil pass0 (pa_cons pe_int (pa_cons (ZQb rfl T.c.g_TRACK) pa_nil))))) rfl) pa_nil))) (pss_cons (ps_while (passes_of rfl) (ZRg (pt_cmp (pc_notN (Zob ZAb (pe_meth (Ztb (pv 0)) T.Reader.cl T.Reader.m_Reader_headed (Zqb T) (hr.mono (by decide)) T.Reader.d_Reader_headed.b .nil pass0 (pa_cons pe_int (pa_cons (ZQb rfl T.c.g_TRACK) pa_nil))))))) (pss_one (ps_expr (Zgb ZXf (pv 0) T.Reader.cl T.Reader.m_Reader_read_track (Zyf (P:=P) T) (takes_of rfl rfl rfl rfl) hg (hr.mono (by decide)) T.Reader.d_Reader_read_track.b (pa_cons (Zob Zkb (pe_meth (Ztb (pv 0)) T.Reader.cl T.Reader.m_Reader_row (Z6 T) (hr.mono (by decide)) T.Reader.d_Reader_row.b .nil pass0 (pa_cons pe_int pa_nil))) pa_nil))))) (pss_cons (ps_expr (Zgb Zx (pv 0) T.Reader.cl T.Reader.m_Reader_want (Zt (P:=P) T) (takes_of rfl rfl rfl rfl) hg (hr.mono (by decide)) T.Reader.d_Reader_want.b (pa_cons (pe_cmp (pc_notN (Zob ZAb (pe_meth (Ztb (pv 0)) T.Reader.cl T.Reader.m_Reader_headed (Zqb T) (hr.mono (by decide)) T.Reader.d_Reader_headed.b .nil pass0 (pa_cons pe_int (pa_cons (ZQb rfl T.c.g_BUTTON) pa_nil))))) rfl) pa_nil))) (pss_cons (ps_while (passes_of rfl) (ZRg (pt_cmp (pc_notN (Zob ZAb (pe_meth (Ztb (pv 0)) T.Reader.cl T.Reader.m_Reader_headed (Zqb T) (hr.mono (by decide)) T.Reader.d_Reader_headed.b .nil pass0 (pa_cons pe_int (pa_cons (ZQb rfl T.c.g_BUTTON) pa_nil))))))) (pss_one (ps_expr (Zgb Zvf (pv 0) T.Reader.cl T.Reader.m_Reader_read_button (ZUe (P:=P) T) (takes_of rfl rfl rfl rfl) hg (hr.mono (by decide)) T.Reader.d_Reader_read_button.b (pa_cons (Zob Zkb (pe_meth (Ztb (pv 0)) T.Reader.cl T.Reader.m_Reader_row (Z6 T) (hr.mono (by decide)) T.Reader.d_Reader_row.b .nil pass0 (pa_cons pe_int pa_nil))) pa_nil))))) (pss_cons (ps_expr (Zgb Zx (pv 0) T.Reader.cl T.Reader.m_Reader_want (Zt (P:=P) T) (takes_of rfl rfl rfl rfl) hg (hr.mono (by decide)) T.Reader.d_Reader_want.b (pa_cons (pe_cmpR op_eq (ZH (Z9 T) (pv 0)) (pe_callB call_len (by rfl) T.c.z_len (by decide +kernel) (pa_cons (ZH (ZYb T) (pv 0)) pa_nil)) (nomark _)) pa_nil))) (pss_one (ps_for (passes_of rfl) rfl (pi_list (ZH (ZBf T) (pv 0))) (pg_tup rfl (pgs_cons (pg_name (i:=1) Zic.nd rfl (Or.inl rfl)) (pgs_cons (pg_name (i:=2) Zic.nd rfl (Or.inl rfl)) (pgs_cons (pg_name (i:=3) Zic.nd rfl (Or.inl rfl)) pgs_nil)))) (pss_one (ps_if (pt_cmp (pc_dnotin (hu_of hr) (pv 3) (ZH (ZS T) (pv 2))) rfl) (pss_one (Z0h (k:=0) (takes_of rfl rfl rfl rfl) rfl (T.e.U P inferInstance) (T.e.made 0 (by decide)).1 T.e.b hg (hr.mono (by decide)) rfl (T.e.g 0 _ rfl) rfl hh (ZYf (T.e.made 0 (by decide)).1.ox) (pv 1))) pss_nil))))))))),?_⟩
  have hc':=hc
  obtain ⟨pre,epre,ha,hal,sl⟩:=hc
  have e0 : pre = []:=by
   have:=congrArg List.length epre
   rw [List.length_append] at this
   exact List.length_eq_zero_iff.mp (by omega)
  subst e0
  obtain ⟨dxa,ea⟩:=ha
  have ha : Zlb T H c.a ⟨.ref c.al,.int (([] : List Str).length : Int),.ref c.dt,.ref c.db,.int ((1 : Nat) : Int),.ref c.lr⟩:=⟨dxa,ea⟩
  refine ⟨_,rfl,c.a,_,rfl,ha,?_⟩
  refine ⟨_,rfl,c.a,_,rfl,ha,c,c.lines,1,0, "track",rfl,hc',by decide,?_⟩
  cases hh1 : Zdb c.lines 0 "track" with
  | none=>
   intro H1 s1
   exact ⟨c,c.lines,1,false,rfl,hc'.same s1,nofun,fun _=>(kb _ (ZYm hh1)).at_ s1⟩
  | some ws0=>
  intro H1 q1 s1 nq1 hq1
  refine ⟨c,c.lines,1,true,rfl,hc'.same s1,fun _=>?_,nofun⟩
  have nad : c.a ≠ c.dt:=ne_of ea hdt (by intro z; cases z)
  have nab : c.a ≠ c.db:=ne_of ea hdb (by intro z; cases z)
  have nla : c.lr ≠ c.a:=ne_of hlr ea (by intro z; cases z)
  have nld : c.lr ≠ c.dt:=ne_of hlr hdt (by intro z; cases z)
  have nlb : c.lr ≠ c.db:=ne_of hlr hdb (by intro z; cases z)
  have NT4 : ∀ {Hx : Hp} {o : OReader} {ys ks kt},Zlb T Hx c.a o → Hx c.lr = some (.lst ys) → Hx c.dt = some (.dK ks) → Hx c.db = some (.dK kt) → NT [c.a,c.lr,c.dt,c.db] Hx:=by
   rintro Hx o ys ks kt ⟨dx,e1⟩ e2 e3 e4 z hz u e
   simp at hz
   rcases hz with rfl | rfl | rfl | rfl
   ·rw [e1] at e; cases e; rfl
   ·rw [e2] at e; cases e; rfl
   ·rw [e3] at e; cases e; rfl
   ·rw [e4] at e; cases e; rfl
  have S4 : ∀ s ∈ [c.a,c.lr,c.dt,c.db],∃ u,H s = some u:=by
   intro z hz
   simp at hz
   rcases hz with rfl | rfl | rfl | rfl
   ·exact ⟨_,ea⟩
   ·exact ⟨_,hlr⟩
   ·exact ⟨_,hdt⟩
   ·exact ⟨_,hdb⟩
  have fr4 : ∀ {Hx : Hp} {o : OReader} {ys ks kt},Keep [c.a,c.lr,c.dt,c.db] H Hx → Zlb T Hx c.a o → Hx c.lr = some (.lst ys) → Hx c.dt = some (.dK ks) → Hx c.db = some (.dK kt) → ∀ b,Hx b = none → H b = none:=by
   rintro Hx o ys ks kt kx ⟨dx,e1⟩ e2 e3 e4 b e
   refine kx.free e ?_
   intro z
   simp at z
   rcases z with rfl | rfl | rfl | rfl
   ·rw [e1] at e; cases e
   ·rw [e2] at e; cases e
   ·rw [e3] at e; cases e
   ·rw [e4] at e; cases e
  refine Z4e (fun m σ Hx=>∃ (rest : List Str) (ts : List TrackM) (tas : List Addr) (ys : List V) (lt : List (Nat × Nat × Str)) (n : Nat),m = rest.length ∧ σ = [some (.ref c.a),none,none,none] ∧ RdS T Hx c rest 1 ∧ Keep [c.a,c.lr,c.dt,c.db] H Hx ∧
   Hx c.dt = some (.dK (kvN (·.name) ts tas)) ∧ Hx c.db = some (.dK []) ∧ Hx c.lr = some (.lst ys) ∧ ys.length ≤ 3 * ts.length ∧ LaterQ Hx ys (latQ (c.lines.length : Int) tas lt) ∧ (∀ p ∈ lt,p.2.1 < tas.length ∧ p.1 ≤ c.lines.length) ∧
   ZL T H Hx tas ts ∧ rest.length < n ∧ Zub n ts lt rest = Zub (c.lines.length + 1) [] [] c.lines ∧ (ts.map (·.name)).Nodup ∧ ts.length ≤ 4) c.lines.length ⟨c.lines,[],[],[],[],c.lines.length + 1,rfl,rfl,hc'.same s1,Keep.of _ s1,s1 _ _ hdt,s1 _ _ hdb,s1 _ _ hlr,by simp,.nil,fun p hp=>(by cases hp),⟨rfl,fun i a M e=>by simp at e⟩,Nat.lt_succ_self _,rfl,by simp,by simp⟩ ?_
  rintro m σ Hx ⟨rest,ts,tas,ys,lt,n,rfl,rfl,Rx,kx,dtx,dbx,lrx,lyx,Px,psx,Tx,hnx,hTx,ndx,lt4⟩
  have Rx':=Rx
  obtain ⟨prex,epx,ax,alx,_⟩:=Rx'
  refine ⟨_,rfl,c.a,_,rfl,ax,c,rest,1,0, "track",rfl,Rx,by decide,?_⟩
  obtain ⟨n,rfl⟩ : ∃ n',n = n' + 1:=⟨n - 1,by omega⟩
  have exx:=ne4 (H:=Hx) ax.some ⟨_,lrx⟩ ⟨_,dtx⟩ ⟨_,dbx⟩
  have kbx : ∀ {k},Zib c.lines = .error k → ∀ {H6},Same Hx H6 → BadS (T.e.C 0) ((c.lines.length : Int) - k + 1) [] H6 E:=fun e H6 s6=>((kb _ e).later (S':=[]) kx exx (fun x hx=>by cases hx)).at_ s6
  cases hhd : Zdb rest 0 "track" with
  | none=>
   have fin2:=hTx.symm.trans (Z1j hhd)
   intro H2 s2
   refine ⟨_,rfl,?_⟩
   refine ifF rfl ?_
   refine ⟨_,rfl,c.a,_,rfl,ax.same s2,?_⟩
   refine ⟨_,rfl,c.a,_,rfl,ax.same s2,c,rest,1,0, "button",rfl,Rx.same s2,by decide,?_⟩
   cases hh2 : Zdb rest 0 "button" with
   | none=>
    intro H3 s3'
    exact ⟨c,rest,1,false,rfl,Rx.same (s2.trans s3'),nofun,fun _=>kbx (Z0m hh1 fin2 hh2) (s2.trans s3')⟩
   | some wsb=>
   intro H3 q3 s3' nq3 hq3
   have s3:=s2.trans s3'
   refine ⟨c,rest,1,true,rfl,Rx.same s3,fun _=>?_,nofun⟩
   refine Z4e (fun m σ Hy=>∃ (rb : List Str) (bs : List ButtonM) (bas : List Addr) (bar n : Nat),m = rb.length ∧ σ = [some (.ref c.a),none,none,none] ∧ RdS T Hy c rb bar ∧ Keep [c.a,c.lr,c.dt,c.db] H Hy ∧
    Hy c.dt = some (.dK (kvN (·.name) ts tas)) ∧ Hy c.db = some (.dK (kvN (·.name) bs bas)) ∧ Hy c.lr = some (.lst ys) ∧ LaterQ Hy ys (latQ (c.lines.length : Int) tas lt) ∧ ZL T H Hy tas ts ∧ ZP T H Hy bas bs ∧ 1 ≤ bar ∧ bar ≤ 12 ∧ rb.length < n ∧ ZZ ts n bs bar rb = ZZ ts (rest.length + 1) [] 1 rest ∧ bs.length ≤ 5) rest.length
    ⟨rest,[],[],1,rest.length + 1,rfl,rfl,Rx.same s3,kx.same s3,s3 _ _ dtx,s3 _ _ dbx,s3 _ _ lrx,Px.same s3,Tx.same s3,⟨rfl,fun i a M e=>by simp at e⟩,Nat.le_refl _,by decide,Nat.lt_succ_self _,rfl,by simp⟩ ?_
   rintro m σ Hy ⟨rb,bs,bas,bar,nb,rfl,rfl,Ry,ky,dty,dby,lry,Py,Ty,By,bar1,bar12,hnb,hBy,lb5⟩
   have Ry':=Ry
   obtain ⟨prey,epy,ay,aly,_⟩:=Ry'
   refine ⟨_,rfl,c.a,_,rfl,ay,c,rb,bar,0, "button",rfl,Ry,by decide,?_⟩
   obtain ⟨nb,rfl⟩ : ∃ n',nb = n' + 1:=⟨nb - 1,by omega⟩
   have exy:=ne4 (H:=Hy) ay.some ⟨_,lry⟩ ⟨_,dty⟩ ⟨_,dby⟩
   have kby : ∀ {k},Zib c.lines = .error k → ∀ {H6},Same Hy H6 → BadS (T.e.C 0) ((c.lines.length : Int) - k + 1) [] H6 E:=fun e H6 s6=>((kb _ e).later (S':=[]) ky exy (fun x hx=>by cases hx)).at_ s6
   cases hhb : Zdb rb 0 "button" with
   | none=>
    have fin4:=hBy.symm.trans (ZJi hhb)
    intro H4 s4
    refine ⟨_,rfl,?_⟩
    refine ifF rfl ?_
    have a4:=ay.same s4
    have ln : c.lines.length = prey.length + rb.length:=by rw [epy,List.length_append]
    refine ⟨_,rfl,c.a,_,rfl,a4,?_⟩
    refine ⟨_,rfl,c.a,_,rfl,a4,_,rfl,c.a,_,rfl,a4,_,_,rfl,.inl ⟨_,.inl (.inl (s4 _ _ aly)),rfl⟩,rfl,c,rb,bar,_,rfl,Ry.same s4,fun hb=>?_,fun hb=>kby (Z2m hh1 fin2 hh2 fin4 fun z=>?_) s4⟩
    rotate_left
    ·refine of_decide_eq_false hb ?_
     rw [List.length_map,ln,z]
     rfl
    have rb0 : rb = []:=by
     have:=V.int.inj (of_decide_eq_true hb)
     rw [List.length_map] at this
     exact List.length_eq_zero_iff.mp (by omega)
    refine ⟨_,rfl,c.a,_,rfl,a4,c.lr,rfl,⟨_,.inl (.inl (s4 _ _ lry))⟩,?_⟩
    refine for_it walk_list (fun i σ Hz=>Same Hy Hz ∧ (∃ v1 v2 v3,σ = [some (.ref c.a),v1,v2,v3]) ∧ ∀ j p,j < i → lt[j]? = some p → ZOe ts p = false) ⟨s4,⟨_,_,_,rfl⟩,fun j p h=>by omega⟩ (fun i σ Hz _ hz=>.inl (.inl (hz.1 _ _ lry))) ?_ ?_
    ·rintro i v σ Hz Hz' hi ⟨sz,⟨v1,v2,v3,rfl⟩,hfine⟩ ⟨rfl,ev⟩
     have ev : ys[i]? = some v:=ev
     obtain ⟨tp,nn,t,nm,rfl,eq,etp⟩:=Py.at_ ev
     obtain ⟨p,ep,eq⟩ : ∃ p,lt[i]? = some p ∧ ((c.lines.length : Int) - p.1 + 1,tas.getD p.2.1 0,p.2.2) = (nn,t,nm):=by
      unfold latQ at eq
      rw [List.getElem?_map] at eq
      cases q : lt[i]? with
      | none=>rw [q] at eq; cases eq
      | some p=>rw [q] at eq; exact ⟨p,rfl,Option.some.inj eq⟩
     obtain ⟨hp,hk⟩:=psx p (List.mem_of_getElem? ep)
     injection eq with eq1 eq
     injection eq with eq2 eq3
     have f1 : tas[p.2.1]? = some t:=by rw [List.getElem?_eq_getElem hp,← eq2,List.getD_eq_getElem?_getD,List.getElem?_eq_getElem hp]; rfl
     have hp2 : p.2.1 < ts.length:=by rw [← Ty.1]; exact hp
     have f2 : ts[p.2.1]? = some (ts[p.2.1]'hp2):=List.getElem?_eq_getElem hp2
     obtain ⟨d2,as2,_,_,⟨at2,ad2,al2⟩,_⟩:=Ty.2 _ t _ f1 f2
     have elb : ZOe ts p = !decide (nm ∈ (ts[p.2.1]'hp2).loops.map (·.name)):=by
      unfold ZOe
      rw [f2,eq3]
     refine ⟨tp,_,rfl,.inl (.inl (sz _ _ etp)),rfl,_,_,rfl,_,_,rfl,_,_,rfl,rfl,?_⟩
     refine ⟨_,rfl,_,rfl,t,_,rfl,at2.same sz,d2,_,rfl,DGet.k (k:=Sum.inr nm) (sz _ _ ad2),_,rfl,?_⟩
     by_cases hin : nm ∈ (ts[p.2.1]'hp2).loops.map (·.name)
     ·refine ifF (by rw [Z3e al2 hin]; rfl) ?_
      refine ⟨sz,⟨_,_,_,rfl⟩,fun j p' hj ej=>?_⟩
      by_cases hji : j = i
      ·subst hji
       rw [ep] at ej
       cases ej
       rw [elb,decide_eq_true hin]
       rfl
      ·exact hfine j p' (by omega) ej
     ·refine ifT (by rw [Zxd hin]; rfl) ?_
      have bad:=Z3m hh1 fin2 hh2 fin4 rb0 (Z6l ep (by rw [elb,decide_eq_false hin]; rfl) hfine)
      have:=sl.1
      refine ⟨_,rfl,nn,rfl,by omega,by omega,fun dx H5 s5 nd e5=>kby bad sz dx H5 (Keep.of _ s5) nd (by rw [e5,eq1])⟩
    ·rintro σ Hz ⟨sz,⟨v1,v2,v3,rfl⟩,hfine⟩
     have fine : lt.find? (ZOe ts) = none:=List.find?_eq_none.mpr fun p hp=>by
      obtain ⟨i,hi,ei⟩:=List.mem_iff_getElem.mp hp
      have hl:=Py.len
      unfold latQ at hl
      rw [List.length_map] at hl
      rw [hfine i p (by omega) (by rw [List.getElem?_eq_getElem hi,ei])]
      exact Bool.false_ne_true
     have pl : prey.length = c.lines.length:=by rw [ln,rb0]; rfl
     rw [pl] at ay
     exact k _ (Z4m hh1 fin2 hh2 fin4 rb0 fine) Hz tas bas (ky.same sz) (ay.same sz) (sz _ _ dty) (sz _ _ dby) (Ty.same sz) (By.same sz)
   | some wsB=>
    obtain ⟨hrow,_⟩:=ZOh hhb
    obtain ⟨l',r',rfl⟩ : ∃ l' r',rb = l' :: r':=by
     cases rb with
     | nil=>cases hrow
     | cons l' r'=>exact ⟨l',r',rfl⟩
    intro H4 q4 s4 nq4 hq4
    refine ⟨_,rfl,?_⟩
    refine ifT rfl ?_
    refine ⟨_,rfl,c.a,_,rfl,ay.same s4,_,rfl,c.a,_,rfl,ay.same s4,c,l' :: r',bar,0,rfl,Ry.same s4,by decide,?_⟩
    rw [show 2 * 0 = 0 from rfl,hrow]
    intro H5 q5 s5' nq5 hq5
    have s5:=s4.trans s5'
    obtain ⟨sww,_⟩:=Z2e hrow epy sl
    refine ⟨c,bar,q5,l',r',wsB,bs,bas,ts,tas,H,rfl,Ry.same s5,hq5,sww,lb5,bar1,bar12,s5 _ _ dby,By.1,s5 _ _ dty,ndx,lt4,Ty.same s5,ndd.symm,⟨_,ea⟩,⟨_,hdb⟩,fun k e=>BadS.same ((kb _ (Z1m hh1 fin2 hh2 (hBy.symm.trans (Zwj hhb e)))).later (S':=[c.a,c.db]) ky exy (fun x hx=>?_)) s5 (fun _ h=>.inl h),fun M rest1 hgo H6 b k6 R6 db6 B6=>?_⟩
    ·simp at hx
     rcases hx with rfl | rfl <;> exact .inl (by simp)
    have f5:=fr4 (ky.same s5) (ay.same s5) (s5 _ _ lry) (s5 _ _ dty) (s5 _ _ dby)
    have nt5 : NT [c.a,c.db] H5:=fun z hz=>NT4 (ay.same s5) (s5 _ _ lry) (s5 _ _ dty) (s5 _ _ dby) z (by simp at hz ⊢; rcases hz with h | h <;> simp [h])
    have S5 : ∀ z ∈ [c.a,c.db],∃ u,H z = some u:=fun z hz=>S4 z (by simp at hz ⊢; rcases hz with h | h <;> simp [h])
    have hle : rest1.length ≤ r'.length:=Z9j hgo
    obtain ⟨_,_,_,_,_,q1,q12,_,l5,hlcm,_⟩:=ZSf hgo
    refine ⟨rest1.length,by simp; omega,rest1,_,_,_,nb,rfl,rfl,R6,(ky.same s5).trans (k6.sub (by simp)),?_,db6,?_,(Py.same s5).keep k6 nt5,(Ty.same s5).keep k6 nt5 S5,⟨by simp [By.1],Zlj (P:=fun a M=>Zmb T H H6 a M) By.1 (fun i a M e1 e2=>((By.same s5).2 i a M e1 e2).keep k6 nt5 S5) (B6.back f5)⟩,Nat.lcm_pos bar1 q1,hlcm,by simp at hnb; omega,(Zbk hhb hgo).symm.trans hBy,by simp; omega⟩
    ·exact k6 _ _ (s5 _ _ dty) (by simp [nad.symm,ndd])
    ·exact k6 _ _ (s5 _ _ lry) (by simp [nla,nlb])
  | some wsT=>
   obtain ⟨hrow,_⟩:=ZOh hhd
   obtain ⟨l',r',rfl⟩ : ∃ l' r',rest = l' :: r':=by
    cases rest with
    | nil=>cases hrow
    | cons l' r'=>exact ⟨l',r',rfl⟩
   intro H2 q2 s2 nq2 hq2
   refine ⟨_,rfl,?_⟩
   refine ifT rfl ?_
   refine ⟨_,rfl,c.a,_,rfl,ax.same s2,_,rfl,c.a,_,rfl,ax.same s2,c,l' :: r',1,0,rfl,Rx.same s2,by decide,?_⟩
   rw [show 2 * 0 = 0 from rfl,hrow]
   intro H3 q3 s3' nq3 hq3
   have s3:=s2.trans s3'
   obtain ⟨swt,_⟩:=Z2e hrow epx sl
   refine ⟨c,1,q3,l',r',wsT,ts,tas,ys,_,rfl,Rx.same s3,hq3,swt,lt4,s3 _ _ dtx,Tx.1,s3 _ _ lrx,by omega,Px.same s3,nal,fun k e=>BadS.same ((kb _ (ZZm hh1 (hTx.symm.trans (ZEk hhd e)))).later (S':=[c.a,c.lr,c.dt]) kx exx (fun x hx=>?_)) s3 (fun _ h=>.inl h),fun M l2 rest1 hgo H4 t zs k4 R4 dt4 T4 lr4 lz4 P4=>?_⟩
   ·simp at hx
    rcases hx with rfl | rfl | rfl <;> exact .inl (by simp)
   have hlen : rest1.length ≤ r'.length:=ZHl hgo
   obtain ⟨_,_,_,hnn,h4,hls,_⟩:=ZWg hgo
   have hl2 : ∀ p ∈ l2,p.1 ≤ r'.length:=ZMj (B:=r'.length) hls (fun p hp=>by cases hp) (Nat.le_refl _)
   have hbnd : r'.length ≤ c.lines.length:=by rw [epx,List.length_append,List.length_cons]; omega
   have f3:=fr4 (kx.same s3) (ax.same s3) (s3 _ _ lrx) (s3 _ _ dtx) (s3 _ _ dbx)
   have nt3 : NT [c.a,c.lr,c.dt] H3:=fun z hz=>NT4 (ax.same s3) (s3 _ _ lrx) (s3 _ _ dtx) (s3 _ _ dbx) z (by simp at hz ⊢; rcases hz with h | h | h <;> simp [h])
   refine ⟨rest1.length,by simp; omega,rest1,_,_,zs,_,n,rfl,rfl,R4,(kx.same s3).trans (k4.sub (by simp)),dt4,?_,lr4,by simp; omega,?_,?_,?_,by simp at hnx; omega,(ZJl hhd hgo).symm.trans hTx,?_,by simp; omega⟩
   ·exact k4 _ _ (s3 _ _ dbx) (by simp [nab.symm,nlb.symm,ndd.symm])
   ·rw [Zdm Tx.1 fun p hp=>(psx p hp).1]
    exact P4
   ·intro p hp
    rw [List.length_append]
    rcases List.mem_append.mp hp with hp | hp
    ·have:=psx p hp
     exact ⟨by omega,this.2⟩
    ·obtain ⟨q,hq,rfl⟩:=List.mem_map.mp hp
     have:=Tx.1
     exact ⟨by show ts.length < _; simp; omega,Nat.le_trans (hl2 q (by assumption)) hbnd⟩
   ·refine ⟨by simp [Tx.1],Zlj (P:=fun a M=>ZPb T H H4 a M) Tx.1 (fun i a M e1 e2=>((Tx.same s3).2 i a M e1 e2).keep k4 nt3 fun z hz=>S4 z (by simp at hz ⊢; rcases hz with h | h | h <;> simp [h])) (T4.back f3)⟩
   ·rw [List.map_append]
    exact ZId ndx hnn
end
end Ev
end
section
namespace Ev
open PySem PySem.Spec PyProof.Rows L2 PL
section
variable {K : PySem.W.Frag} {mg : Str → Option Value}
abbrev noH : Hp:=fun _=>none
def TrkT (T : Txt K mg) (H : Hp) (t d : Addr) (nm : Str) (loops : List LoopM) (as : List Addr) : Prop:=Z4j T H t ⟨.str nm,.ref d⟩ ∧ Rd H d (.dK (kvN (·.name) loops as)) ∧ as.length = loops.length
def Zyh (T : Txt K mg) (H0 H : Hp) (t : Addr) (M : TrackM) : Prop:=∃ d as,H0 t = none ∧ H0 d = none ∧ TrkT T H t d M.name M.loops as ∧ ∀ (i : Nat) (a : Addr) (L : LoopM),as[i]? = some a → M.loops[i]? = some L → ZXb T H0 H a L
def ZDe (T : Txt K mg) (H0 H : Hp) (as : List Addr) (ts : List TrackM) : Prop:=as.length = ts.length ∧ ∀ (i : Nat) (a : Addr) (M : TrackM),as[i]? = some a → ts[i]? = some M → Zyh T H0 H a M
def BtnT (T : Txt K mg) (H : Hp) (b d : Addr) (M : ButtonM) (ds : List (Str × Str × Str)) (as : List Addr) : Prop:=
 ZFi T H b ⟨.str M.name,.int (M.quantum : Int),.ref d⟩ ∧ Rd H d (.dK (kvN (·.1) ds as)) ∧ as.length = ds.length ∧ ∀ (i : Nat) (a : Addr) x,as[i]? = some a → ds[i]? = some x → Dp K H (.ref a) (Zen x)
def ZHf (T : Txt K mg) (H0 H : Hp) (b : Addr) (M : ButtonM) : Prop:=∃ d as,H0 b = none ∧ H0 d = none ∧ BtnT T H b d M M.deeds as
def Zed (T : Txt K mg) (H0 H : Hp) (as : List Addr) (bs : List ButtonM) : Prop:=as.length = bs.length ∧ ∀ (i : Nat) (a : Addr) (M : ButtonM),as[i]? = some a → bs[i]? = some M → ZHf T H0 H a M
theorem ZXb.sameR {T : Txt K mg} {H0 H H' : Hp} {a : Addr} {L : LoopM} (h : ZXb T H0 H a L) (s : ZC H H') : ZXb T H0 H' a L:=by
 obtain ⟨pl,n1,n2,ts,⟨dx,h1⟩,h2,h3⟩:=h
 exact ⟨pl,n1,n2,ts,⟨dx,s.at h1 (fun _ e=>by cases e)⟩,s.at h2 (fun _ e=>by cases e),s.dpAll h3⟩
theorem Zyh.sameR {T : Txt K mg} {H0 H H' : Hp} {t : Addr} {M : TrackM} (h : Zyh T H0 H t M) (s : ZC H H') : Zyh T H0 H' t M:=by
 obtain ⟨d,as,n1,n2,⟨⟨dx,h1⟩,h2,h3⟩,h4⟩:=h
 exact ⟨d,as,n1,n2,⟨⟨dx,s.at h1 (fun _ e=>by cases e)⟩,s.rd h2,h3⟩,fun i a L e1 e2=>(h4 i a L e1 e2).sameR s⟩
theorem ZDe.sameR {T : Txt K mg} {H0 H H' : Hp} {as : List Addr} {ts : List TrackM} (h : ZDe T H0 H as ts) (s : ZC H H') : ZDe T H0 H' as ts:=⟨h.1,fun i a M e1 e2=>(h.2 i a M e1 e2).sameR s⟩
theorem ZHf.sameR {T : Txt K mg} {H0 H H' : Hp} {b : Addr} {M : ButtonM} (h : ZHf T H0 H b M) (s : ZC H H') : ZHf T H0 H' b M:=by
 obtain ⟨d,as,n1,n2,⟨dx,h1⟩,h2,h3,h4⟩:=h
 exact ⟨d,as,n1,n2,⟨dx,s.at h1 (fun _ e=>by cases e)⟩,s.rd h2,h3,fun i a x e1 e2=>s.dp (h4 i a x e1 e2)⟩
theorem Zed.sameR {T : Txt K mg} {H0 H H' : Hp} {as : List Addr} {bs : List ButtonM} (h : Zed T H0 H as bs) (s : ZC H H') : Zed T H0 H' as bs:=⟨h.1,fun i a M e1 e2=>(h.2 i a M e1 e2).sameR s⟩
theorem Zyh.same {T : Txt K mg} {H0 H H' : Hp} {t : Addr} {M : TrackM} (h : Zyh T H0 H t M) (s : Same H H') : Zyh T H0 H' t M:=h.sameR s.r
theorem ZDe.same {T : Txt K mg} {H0 H H' : Hp} {as : List Addr} {ts : List TrackM} (h : ZDe T H0 H as ts) (s : Same H H') : ZDe T H0 H' as ts:=h.sameR s.r
theorem ZHf.same {T : Txt K mg} {H0 H H' : Hp} {b : Addr} {M : ButtonM} (h : ZHf T H0 H b M) (s : Same H H') : ZHf T H0 H' b M:=h.sameR s.r
theorem Zed.same {T : Txt K mg} {H0 H H' : Hp} {as : List Addr} {bs : List ButtonM} (h : Zed T H0 H as bs) (s : Same H H') : Zed T H0 H' as bs:=h.sameR s.r
theorem ZL.t {T : Txt K mg} {H0 H : Hp} {as : List Addr} {ts : List TrackM} (h : ZL T H0 H as ts) : ZDe T H0 H as ts:=⟨h.1,fun i a M e1 e2=>by
 obtain ⟨d,as,n1,n2,⟨h1,h2,h3⟩,h4⟩:=h.2 i a M e1 e2
 exact ⟨d,as,n1,n2,⟨h1,.inl h2,h3⟩,h4⟩⟩
theorem ZP.t {T : Txt K mg} {H0 H : Hp} {as : List Addr} {bs : List ButtonM} (h : ZP T H0 H as bs) : Zed T H0 H as bs:=⟨h.1,fun i a M e1 e2=>by
 obtain ⟨d,as,n1,n2,h1,h2,h3,h4⟩:=h.2 i a M e1 e2
 exact ⟨d,as,n1,n2,h1,.inl h2,h3,h4⟩⟩
def ZCe (T : Txt K mg) (H : Hp) (a : Addr) (text : Str) (B : BoardM) : Prop:=∃ dt db tas bas,Z4n T H a ⟨.str text,.ref dt,.ref db,.int (B.bar : Int)⟩ ∧ Rd H dt (.dK (kvN (·.name) B.tracks tas)) ∧ Rd H db (.dK (kvN (·.name) B.buttons bas)) ∧
 ZDe T noH H tas B.tracks ∧ Zed T noH H bas B.buttons ∧ B.Well
theorem ZCe.sameR {T : Txt K mg} {H H' : Hp} {a : Addr} {text : Str} {B : BoardM} (h : ZCe T H a text B) (s : ZC H H') : ZCe T H' a text B:=by
 obtain ⟨dt,db,tas,bas,⟨dx,h1⟩,h2,h3,h4,h5,h6⟩:=h
 exact ⟨dt,db,tas,bas,⟨dx,s.at h1 (fun _ e=>by cases e)⟩,s.rd h2,s.rd h3,h4.sameR s,h5.sameR s,h6⟩
theorem ZCe.same {T : Txt K mg} {H H' : Hp} {a : Addr} {text : Str} {B : BoardM} (h : ZCe T H a text B) (s : Same H H') : ZCe T H' a text B:=h.sameR s.r
def linesOf (text : Str) : List Str:=Txt.split text "\n"
def inB (B : BoardM) : PyData → Bool
 | .str s=>decide (s ∈ B.buttons.map (·.name))
 | _=>false
end
def Part (H0 H G : Hp) : Prop:=∀ b o,H b = some o → H0 b = none ∨ ZCf o = true → G b = some o
section
variable {K : PySem.W.Frag} {mg : Str → Option Value} {T : Txt K mg} {H0 H G : Hp}
theorem ZGn (p : Part H0 H G) {a : Addr} {xs : List V} (h : SqT K H a xs) : SqT K G a xs:=by
 rcases h with (h | ⟨o,h⟩) | h
 ·exact .inl (.inl (p _ _ h (.inr rfl)))
 ·exact .inl (.inr ⟨o,p _ _ h (.inr rfl)⟩)
 ·exact .inr h
mutual
theorem ZYl (p : Part H0 H G) : ∀ {v : V} {d : PyData},Dp K H v d → noL d = true → Dp K G v d
 | _,_,.non,_=>.non
 | _,_,.bl b,_=>.bl b
 | _,_,.int i,_=>.int i
 | _,_,.str x,_=>.str x
 | _,_,.lst h t,q=>by cases q
 | _,_,.tup h t,q=>.tup (ZGn p h) (dpAll_part p t q)
theorem dpAll_part (p : Part H0 H G) : ∀ {vs : List V} {ds : List PyData},DpAll K H vs ds → noLs ds = true → DpAll K G vs ds
 | _,_,.nil,_=>.nil
 | _,_,.cons h t,q=>by
  have q' : (noL _ && noLs _) = true:=q
  rw [Bool.and_eq_true] at q'
  exact .cons (ZYl p h q'.1) (dpAll_part p t q'.2)
end
theorem ZXb.part {a : Addr} {L : LoopM} (h : ZXb T H0 H a L) (p : Part H0 H G) : ZXb T noH G a L:=by
 obtain ⟨pl,n1,n2,ts,⟨dx,h1⟩,h2,h3⟩:=h
 exact ⟨pl,rfl,rfl,ts,⟨dx,p _ _ h1 (.inl n1)⟩,p _ _ h2 (.inl n2),dpAll_part p h3 (ZHc Z2c _)⟩
theorem ZPb.part {a : Addr} {M : TrackM} (h : ZPb T H0 H a M) (p : Part H0 H G) : ZPb T noH G a M:=by
 obtain ⟨d,as,n1,n2,⟨⟨dx,h1⟩,h2,h3⟩,h4⟩:=h
 exact ⟨d,as,rfl,rfl,⟨⟨dx,p _ _ h1 (.inl n1)⟩,p _ _ h2 (.inl n2),h3⟩,fun i a L e1 e2=>(h4 i a L e1 e2).part p⟩
theorem ZL.part {as : List Addr} {ts : List TrackM} (h : ZL T H0 H as ts) (p : Part H0 H G) : ZL T noH G as ts:=⟨h.1,fun i a M e1 e2=>(h.2 i a M e1 e2).part p⟩
theorem Zmb.part {b : Addr} {M : ButtonM} (h : Zmb T H0 H b M) (p : Part H0 H G) : Zmb T noH G b M:=by
 obtain ⟨d,as,n1,n2,⟨dx,h1⟩,h2,h3,h4⟩:=h
 exact ⟨d,as,rfl,rfl,⟨dx,p _ _ h1 (.inl n1)⟩,p _ _ h2 (.inl n2),h3,fun i a x e1 e2=>ZYl p (h4 i a x e1 e2) rfl⟩
theorem ZP.part {as : List Addr} {bs : List ButtonM} (h : ZP T H0 H as bs) (p : Part H0 H G) : ZP T noH G as bs:=⟨h.1,fun i a M e1 e2=>(h.2 i a M e1 e2).part p⟩
end
def ZXj {K : PySem.W.Frag} {mg : Str → Option Value} (T : Txt K mg) : Sp:=fun vs H Q E=>∃ (x dx : Addr) (v : V),vs = [.ref x,v] ∧ H x = some (.ins T.Board.C dx []) ∧
 ((∃ d,Dp K H v d ∧ (∀ t,d ≠ .str t) ∧ BadS (T.e.C 0) 0 [x] H E) ∨
 ∃ text,v = .str text ∧ ZIk (linesOf text) ∧ text.length ≤ 1000000 ∧ (∀ k,Zib (linesOf text) = .error k → BadS (T.e.C 0) (((linesOf text).length : Int) - k + 1) [x] H E) ∧
  ∀ B,Zib (linesOf text) = .ok B → ∀ H',Keep [x] H H' → (∀ G,(∀ b o,H' b = some o → H b = none ∨ ZCf o = true ∨ b = x → G b = some o) → ZCe T G x text B) → Q .non H')
section
variable {P : Program} {w : World} {K : PySem.W.Frag} {mg : Str → Option Value} {base : Heap}
theorem ZUh [OkPr P] (T : Txt K mg) : FnX P w K mg base 16 T.Board.init.f T.Board.init.fd ["self", "text"] (ZXj T):=by
 refine ZJg T.Board.init.F ZVe (fun vs H Q E h=>?_) (fun cdv A outer s H vs Q E hg hh hr h=>?_)
 ·obtain ⟨x,dx,v,rfl,_⟩:=h
  rfl
 ·obtain ⟨x,dx,v,rfl,hx,h⟩:=h
  refine ⟨_,(pss_cons (ps_if (pt_not (pt_val (pe_callB call_isi (by rfl) T.c.z_isinstance (by decide +kernel) (pa_cons (pv 1) (pa_cons (pe_bltn (v:=.ty "str") rfl T.c.z_str (by decide +kernel) rfl) pa_nil))))) (pss_one (Z0h (k:=0) (takes_of rfl rfl rfl rfl) rfl (T.e.U P inferInstance) (T.e.made 0 (by decide)).1 T.e.b hg (hr.mono (by decide)) rfl (T.e.g 0 _ rfl) rfl hh (ZYf (T.e.made 0 (by decide)).1.ox) pe_int)) pss_nil) (pss_cons (ps_set (i:=2) ZVe.nd rfl (Or.inl rfl) (pe_make T.Reader.made (Zkh T) (hr.mono (by decide)) rfl T.Reader.gC T.Reader.init.b .nil pass0 (pa_cons (pe_split (pv 1) (ZQb rfl T.c.g_FEED)) pa_nil))) (pss_cons (ps_expr (Zxm Z4i (pv 2) T.Reader.cl T.Reader.m_Reader_read (Zii (P:=P) T) (takes_of rfl rfl rfl rfl) hg (hr.mono (by decide)) T.Reader.d_Reader_read.b)) (pss_cons (ps_fld (pv 0) (pv 1) rfl) (pss_cons (ps_fld (pv 0) (ZH (ZJ T) (pv 2)) rfl) (pss_cons (ps_fld (pv 0) (ZH (Zeb T) (pv 2)) rfl) (pss_one (ps_fld (pv 0) (ZH (ZOb T) (pv 2)) rfl)))))))),?_⟩
  rcases h with ⟨d,hd,hns,kb⟩ | ⟨text,rfl,hs,hn,kb,k⟩
  ·refine ⟨_,rfl,_,_,_,_,_,rfl,.ty _,ZSm hd,Zno d,_,rfl,?_⟩
   refine ifT (by cases d <;> first | rfl | exact absurd rfl (hns _)) ?_
   exact ⟨_,rfl,by omega,by omega,fun dx H3 s3 nd e3=>kb dx H3 (Keep.of _ s3) nd e3⟩
  refine ⟨_,rfl,_,_,_,_,_,rfl,.ty _,ZSm (.str text),Zno _,_,rfl,?_⟩
  refine ifF rfl ?_
  refine ⟨_,rfl,⟨_,rfl⟩,_,_,rfl,rfl,rfl,by rw [sizeLine_eq]; omega,fun al nal=>?_⟩
  have s1 : Same H (upd H al (.lst ((linesOf text).map V.str))):=ZA nal
  have al1 : upd H al (.lst ((linesOf text).map V.str)) al = some (.lst ((linesOf text).map V.str)):=upd_same
  have xal : x ≠ al:=ne_of_none hx nal
  refine fun ca dxr nca ndx ne=>⟨ca,dxr,al,rfl,upd_same,fun H2 dt db lr k2 ndt ndb nlr a2 dt2 db2 lr2 ndd=>⟨rfl,?_⟩⟩
  have s2:=Znc nca ndx k2
  have out : ∀ {z : Addr},upd (upd (upd H al (.lst ((linesOf text).map V.str))) dxr (.own ca)) ca (.ins T.Reader.C dxr []) z = none → H z = none:=fun {z} e=>by
   have n1 : z ≠ ca:=fun q=>by rw [q,upd_same] at e; cases e
   rw [upd_ne n1] at e
   have n2 : z ≠ dxr:=fun q=>by rw [q,upd_same] at e; cases e
   rw [upd_ne n2] at e
   exact s1.fresh e
  have hca : H ca = none:=s1.fresh nca
  have hdt0:=out ndt
  have hdb0:=out ndb
  have hlr0:=out nlr
  have lral : lr ≠ al:=fun q=>by
   have n1 : al ≠ ca:=ne_of_none al1 nca
   have n2 : al ≠ dxr:=ne_of_none al1 ndx
   rw [q,upd_ne n1,upd_ne n2] at nlr
   exact nomatch al1.symm.trans nlr
  have s02:=s1.trans s2
  refine ⟨_,rfl,ca,_,rfl,a2,⟨ca,al,dt,db,lr,linesOf text⟩,rfl,⟨[],rfl,a2,s2 _ _ al1,hs⟩,dt2,db2,lr2,lral,ndd,fun k e=>(kb k e).same s02 (fun y hy=>?_),fun B hB' H3 tas bas k3 a3 dt3 db3 T3 B3=>?_⟩
  ·simp at hy
   rcases hy with rfl | rfl | rfl | rfl
   ·exact .inr hca
   ·exact .inr hlr0
   ·exact .inr hdt0
   ·exact .inr hdb0
  have hB:=ZNl hB'
  have wB:=hB.well
  have k03 : Keep [x] H H3:=fun b o e n=>k3 b o (s02 b o e) (by
   simp
   exact ⟨ne_of_none e hca,ne_of_none e hlr0,ne_of_none e hdt0,ne_of_none e hdb0⟩)
  have x3 : H3 x = some (.ins T.Board.C dx []):=k3 x _ (s02 _ _ hx) (by
   simp
   exact ⟨ne_of_none hx hca,ne_of_none hx hlr0,ne_of_none hx hdt0,ne_of_none hx hdb0⟩)
  have nxca : ca ≠ x:=fun q=>by rw [q,hx] at hca; cases hca
  have nxdt : dt ≠ x:=fun q=>by rw [q,hx] at hdt0; cases hdt0
  have nxdb : db ≠ x:=fun q=>by rw [q,hx] at hdb0; cases hdb0
  refine ⟨_,rfl,_,rfl,x,_,dx,_,rfl,x3,T.Board.cl,T.Board.na 0 _ rfl,by decide,?_⟩
  refine ⟨_,rfl,ca,_,rfl,a3.put nxca,_,rfl,x,_,dx,_,rfl,upd_same,T.Board.cl,T.Board.na 1 _ rfl,by show 1 < 1000; decide,?_⟩
  refine ⟨_,rfl,ca,_,rfl,(a3.put nxca).put nxca,_,rfl,x,_,dx,_,rfl,upd_same,T.Board.cl,T.Board.na 2 _ rfl,by show 2 < 1000; decide,?_⟩
  refine ⟨_,rfl,ca,_,rfl,((a3.put nxca).put nxca).put nxca,_,rfl,x,_,dx,_,rfl,upd_same,T.Board.cl,T.Board.na 3 _ rfl,by show 3 < 1000; decide,?_⟩
  rw [Zlh,Zxg,Z2f,ZYh]
  have NTx : ∀ {Hx : Hp} {fs},Hx x = some (.ins T.Board.C dx fs) → NT [x] Hx:=by
   intro Hx fs e z hz u e'
   rw [List.mem_singleton] at hz
   rw [hz,e] at e'
   cases e'
   rfl
  have H0x : ∀ z ∈ [x],∃ u,H z = some u:=fun z hz=>by
   rw [List.mem_singleton] at hz
   exact ⟨_,by rw [hz]; exact hx⟩
  have fr2 : ∀ b,H2 b = none → H b = none:=fun b e=>s02.fresh e
  have hT:=T3.back (H0:=H) fr2
  have hBt:=B3.back (H0:=H) fr2
  have kf : ∀ {u1 u2 u3 u4 : HO},Keep [x] H3 (upd (upd (upd (upd H3 x u1) x u2) x u3) x u4):=fun {u1 u2 u3 u4}=>(Keep.refl _ _).put1.put1.put1.put1
  refine k B hB' _ (((k03.put1).put1).put1.put1) fun G hG=>?_
  have pt : ∀ {Hx : Hp},(∀ b o,Hx b = some o → H b = none ∨ ZCf o = true ∨ b = x → G b = some o) → Part H Hx G:=fun hG b o e q=>hG b o e (q.imp id .inl)
  exact ⟨dt,db,tas,bas,⟨dx,hG _ _ upd_same (.inr (.inr rfl))⟩,.inl (hG _ _ (kf _ _ dt3 (by simpa using nxdt)) (.inl hdt0)),.inl (hG _ _ (kf _ _ db3 (by simpa using nxdb)) (.inl hdb0)),((hT.keep kf (NTx x3) H0x).part (pt hG)).t,((hBt.keep kf (NTx x3) H0x).part (pt hG)).t,wB⟩
end
end Ev
end
section
namespace PL
open PySem PySem.Spec PyProof.Rows L2 Ev
section
variable {K : PySem.W.Frag} {mg : Str → Option Value}
def RB (T : Txt K mg) : OR:=⟨fun t B G a=>ZCe T G a t B,fun c=>match c with
 | 0=>some (T.Loop.C,["name", "length", "span", "then", "places"])
 | 1=>some (T.Track.C,["name", "own_loops"])
 | 2=>some (T.Button.C,["name", "quantum", "deeds"])
 | _=>none,excN T.e,[(T.p__law_is_judged,lamq "_law_is_judged" ZI)],none⟩
theorem ZTg (T : Txt K mg) : Znb (RB T):=fun _ _ _ _ _ s h=>h.sameR s
end
def ZWj (t : Str) : Bool:=decide (t.length ≤ 1000000) && (decide ((Ev.linesOf t).length ≤ 50000) && (Ev.linesOf t).all fun l=>decide (l.length ≤ 50000))
theorem ZNm {t : Str} (h : ZWj t = true) : ZIk (Ev.linesOf t) ∧ t.length ≤ 1000000:=by
 unfold ZWj at h
 rw [Bool.and_eq_true,Bool.and_eq_true,decide_eq_true_iff,decide_eq_true_iff] at h
 exact ⟨⟨h.2.1,fun l hl=>of_decide_eq_true (List.all_eq_true.mp h.2.2 l hl)⟩,h.1⟩
def mkB : D → Option RX
 | .str t=>if ZWj t = true then some (match Zib (Ev.linesOf t) with
   | .ok B=>.ok (.brd t B)
   | .error k=>.ex 0 (.int (((Ev.linesOf t).length : Int) - k + 1))) else none
 | d=>match d.py with
  | some _=>some (.ex 0 (.int 0))
  | none=>none
def fMkB (fl : FO) : FE:=fun s=>(fl s).bind fun p=>match p.1 with
 | [d]=>(mkB d).map fun r=>(r,p.2)
 | _=>none
theorem Z8i {P : Program} [OkPr P] {X : Cx} {e : Expr} {fl : FO} {W : WX} {p pos : Pos} {T : Txt X.K X.mg} (hR : Znb (RB T)) (T' : Txt X.K X.mg) (tk : Takes X W) (hgd : X.A.guards = some []) (hr : Room (16 + 1) X.A) (hg : Gl X "Board") (ha : PA X [e] (tL X.K (RB T) fl)) (hT : T' = T:=by rfl) (hP : X.prog = P:=by rfl)
  (he : starEach [e] X.env = (false,eval e X.env) :: starEach [] X.env:=by rfl) (hpl : (backTo pos (starEach [] X.env)).any (·.1) = false:=by rfl) : PE X (.Call (.Name "Board" p) [e] [] pos) (tX X.K (RB T) W (fMkB fl)):=by
 subst hP
 refine pd_w (Zvn T.Board.made (ZUh (P:=X.prog) T) tk hgd hr hg T.Board.gC T.Board.init.b ha (he:=he) (hpl:=hpl)) fun σ H Q ⟨b,G,ρ,s,r,s',rl,e,k⟩=>?_
 obtain ⟨⟨ds,s1⟩,e1,e⟩:=Ze e
 refine ⟨b,G,ρ,s,ds,s1,rl,e1,fun vs G1 ρ1 H1 r1 f1 d1=>?_⟩
 dsimp only at e
 split at e
 ·rename_i d
  obtain ⟨z,e2,e⟩:=Zm e
  cases e
  cases d1 with
  | @cons v _ _ _ h1 t1=>
   cases t1
   intro x dx nx ndx ne
   have bad : ∀ n : Int,r = .ex 0 (.int n) → BadS (T.e.C 0) n [x] (upd (upd H1 dx (.own x)) x (.ins T.Board.C dx [])) fun cls d H'=>W cls d σ H':=fun n ez dxe H3 k3 nd3 e3=>by
    subst ez
    have s13:=Znc nx ndx k3
    obtain ⟨le,gh,c2⟩:=Zqj hR r1.sub r1.cells s13
    obtain ⟨r2,f2⟩:=r1.call hR le gh c2
    have n1 : dxe ≠ x:=fun z=>by rw [z,upd_same] at nd3; cases nd3
    rw [upd_ne n1] at nd3
    have n2 : dxe ≠ dx:=fun z=>by rw [z,upd_same] at nd3; cases nd3
    rw [upd_ne n2] at nd3
    exact k _ dxe _ _ _ (Zeo T.e (c:=0) (by decide)) r2 (f1.trans f2) ⟨.int n,by rw [ZXe nd3]; exact e3,.int n⟩
   by_cases hstr : ∃ t,d = .str t
   ·obtain ⟨t,rfl⟩:=hstr
    unfold mkB at e2
    dsimp only at e2
    split at e2
    ·rename_i hsm
     cases e2
     obtain ⟨hs,hn⟩:=ZNm hsm
     cases h1
     refine ⟨x,dx,.str t,rfl,upd_same,.inr ⟨t,rfl,hs,hn,fun kk ek=>bad _ (by rw [ek]),fun B hB H2 k2 hBd=>⟨rfl,?_⟩⟩⟩
     rw [hB] at k
     have s12:=Znc nx ndx k2
     obtain ⟨le,gh,c2⟩:=Zqj hR r1.sub r1.cells s12
     obtain ⟨r2,f2⟩:=r1.call hR le gh c2
     refine k (.ref x) _ _ _ r2 (f1.trans f2) (.brd (hBd _ fun c o ec q=>?_))
     have hn : H1 c = none ∨ ZCf o = true:=by
      rcases q with q | q | q
      ·left
       have n1 : c ≠ x:=fun z=>by rw [z,upd_same] at q; cases q
       rw [upd_ne n1] at q
       have n2 : c ≠ dx:=fun z=>by rw [z,upd_same] at q; cases q
       rw [upd_ne n2] at q
       exact q
      ·exact .inr q
      ·left; rw [q]; exact nx
     by_cases h : H1 c = none
     ·rw [ZXe h]; exact ec
     ·rcases hn with q | q
      ·exact absurd q h
      ·exact c2.tups c o ec q
    ·cases e2
   ·have en : ∃ q,d.py = some q ∧ (∀ t,q ≠ .str t) ∧ r = .ex 0 (.int 0):=by
     unfold mkB at e2
     cases d with
     | str t=>exact absurd ⟨t,rfl⟩ hstr
     | _=>
      dsimp only at e2
      split at e2
      ·rename_i q eq
       cases e2
       refine ⟨q,eq,fun t z=>?_,rfl⟩
       subst z
       first
       | (cases eq; done)
       | (obtain ⟨_,_,z⟩:=Option.map_eq_some_iff.mp eq; cases z)
      ·cases e2
    obtain ⟨q,eq,hq,er⟩:=en
    have hd:=RD.dp h1 eq
    have s13 : Same G1 (upd (upd H1 dx (.own x)) x (.ins T.Board.C dx [])):=r1.sub.trans ((ZA ndx).trans (ZA (by rw [upd_ne (Ne.symm ne)]; exact nx)))
    exact ⟨x,dx,v,rfl,upd_same,.inl ⟨q,s13.dp hd,hq,bad 0 er⟩⟩
 ·cases e
end PL
end
section
namespace PL
open PySem PySem.Spec PyProof.Rows L2 Ev NdefX LamX
theorem ZRo : FnScope (tN "error") ["_law_look"] (defScope ZRb):=⟨rfl,rfl,rfl,by decide +kernel,rfl,by decide +kernel,by decide +kernel⟩
theorem ZXo {K : PySem.W.Frag} {mg : Str → Option Value} (T : Txt K mg) : ToldF K mg "_law_told" ZRb T.d__law_told.f T.d__law_told.fd T.e.D "error":=
 ⟨T.d__law_told.F,ZRo,rfl,rfl,rfl,rfl,by decide +kernel,by decide +kernel,rfl,T.e.last "PressError" rfl,⟨_,_,_,_,_,_,_,_,_,_,_,_,_,_,_,_,_,_,_,_,_,⟨0,0,0,0⟩,_,_,_,_,_,rfl,fun _ _ _=>⟨by rfl,by rfl⟩⟩⟩
end PL
end
section
namespace PL
open PySem PySem.Spec PyProof.Rows L2 Ev NdefX LamX
section
variable {P : Program} {w : World} {K : PySem.W.Frag} {mg : Str → Option Value} {base : Heap}
def Z1g : FS:=(Zkn (ZG (Zb (fVar 3) (Zb (fBin dMod (ZV dInt (Zb (fBin dAdd (fBin dAdd (fBin dMul (fVar 4) (fC (.int 60737))) (fBin dMul (fBin dMul (fC (.int 8015)) (fVar 1)) (fVar 1))) (fC (.int 83))) fNil)) (fC (.int 2305843009213693921))) (Zb (fC (.int 0)) fNil)))))
def Z0g : FS:=(fSeq (fSet 4 (fBin dMod (ZV dInt (Zb (fVar 2) fNil)) (fC (.int 2305843009213693951)))) Z1g)
def ZZg : FS:=(fSeq (fSet 3 (fBin dMul (fBin dMod (ZV dInt (Zb (ZV dAbs (Zb (fVar 2) fNil)) fNil)) (fBin dPow (fBin dPow (fC (.int 10)) (fC (.int 60))) (fC (.int 5)))) (ZV dInt (Zb (fBin dGe (ZV dAbs (Zb (fVar 2) fNil)) (fBin dPow (fC (.int 10)) (fC (.int 18)))) fNil)))) Z0g)
def ZCg : FS:=(fSeq (fSet 2 (fIf (fTst (fBin dLt (fVar 1) (ZV dLen (Zb (fVar 0) fNil)))) (fBin dIx (fVar 0) (fVar 1)) (fBin dAdd (fBin dMul (fC (.int 47)) (fVar 1)) (fC (.int 20))))) ZZg)
def ZKc : FFO:=runO 2 5 ZCg
theorem ZJj : ∀ (ds : List D) cs r,ZKc ds cs = some r → ds.length = 2:=ZBn
theorem Zmk (T : Txt K mg) : FnOk P w K mg base CX0 1 T.d__law_pot.f T.d__law_pot.fd ["_law_script", "_law_place"] (spO K (RB T) 2 ZKc):=by
 have hR:=ZTg T
 exact Zbp T.d__law_pot.F Z2d rfl rfl fun cdv A outer s H E hr=>(Zl (ZM (i:=2) Z2d.nd rfl (Or.inl rfl) (Ztm (PL.pt_cmp hR Z1p (pdv hR 1) (Z3c hR ZKk (by rfl) T.c.z_len (by decide +kernel) (Za hR (pdv hR 0) Zd)) (nomark _)) (Z7 hR (ixd hR) (pdv hR 0) (pdv hR 1) (fun _ _=>rfl)) (Zf hR (Zg hR) (Zf hR (ZJd hR) Zh (pdv hR 1)) Zh))) (Zl (ZM (i:=3) Z2d.nd rfl (Or.inl rfl) (Zf hR (ZJd hR) (Zf hR ZDf (ZW hR Z5d (by rfl) T.c.z_int (by decide +kernel) (Za hR (Z3c hR ZQn (by rfl) T.c.z_abs (by decide +kernel) (Za hR (pdv hR 2) Zd)) Zd)) (Zf hR ZXk (Zf hR ZXk Zh Zh) Zh)) (ZW hR Z5d (by rfl) T.c.z_int (by decide +kernel) (Za hR (Zsm hR ZZp (Z3c hR ZQn (by rfl) T.c.z_abs (by decide +kernel) (Za hR (pdv hR 2) Zd)) (Zf hR ZXk Zh Zh) (nomark _)) Zd)))) (Zl (ZM (i:=4) Z2d.nd rfl (Or.inl rfl) (Zf hR ZDf (ZW hR Z5d (by rfl) T.c.z_int (by decide +kernel) (Za hR (pdv hR 2) Zd)) Zh)) (Z0 (Ztn (Zo hR (Za hR (pdv hR 3) (Za hR (Zf hR ZDf (ZW hR Z5d (by rfl) T.c.z_int (by decide +kernel) (Za hR (Zf hR (Zg hR) (Zf hR (Zg hR) (Zf hR (ZJd hR) (pdv hR 4) Zh) (Zf hR (ZJd hR) (Zf hR (ZJd hR) Zh (pdv hR 1)) (pdv hR 1))) Zh) Zd)) Zh) (Za hR Zh Zd)))))))))
def ZRd : FS:=(fRet (fBin dMod (ZV dInt (Zb (fBin Z8k (fVar 4) (fC (.int 131))) fNil)) (fVar 1)))
def ZQd : FS:=(fSeq (fSet 4 (fBin dMod (ZV dInt (Zb (fBin dMul (fVar 4) (fBin dAdd (fBin dMod (ZV dInt (Zb (fVar 4) fNil)) (fC (.int 10067))) (fBin dMul (fC (.int 97)) (fIxC (fVar 0) (fC (.int 2)))))) fNil)) (fC (.int 2305843009213693907)))) ZRd)
def ZPd : FS:=(fSeq (fSet 4 (fBin dMod (ZV dInt (Zb (fBin dPow (ZV dInt (Zb (fBin dAdd (fBin dAdd (fIxC (fVar 0) (fC (.int 1))) (fBin dMul (fBin dMul (fC (.int 98029)) (fIxC (fVar 0) (fC (.int 2)))) (fIxC (fVar 0) (fC (.int 2))))) (fC (.int 43))) fNil)) (fC (.int 3))) fNil)) (fVar 3))) ZQd)
def ZOd : FS:=(fSeq (fSet 3 (fBin dIx (fFz (ZG (Zb (fC (.int 2147483647)) (Zb (fC (.int 2147483629)) (Zb (fC (.int 2147483587)) (Zb (fC (.int 2147483579)) (Zb (fC (.int 2147483563)) fNil))))))) (fBin dMod (ZV dInt (Zb (fIxC (fVar 0) (fC (.int 2))) fNil)) (fC (.int 5))))) ZPd)
def ZNd : FS:=(fSeq (Z4l (fVar 0) (fC (.int 2)) (fBin dAdd (fIxC (fVar 0) (fC (.int 2))) (fC (.int 1)))) ZOd)
def ZGf : FS:=(fSeq (fIfS (fTst (fBin dGt (fIxC (fVar 0) (fC (.int 0))) (fC (.int 0)))) (fSeq (fSet 2 (fBin dMod (ZV dInt (Zb (fIxC (fVar 0) (fC (.int 0))) fNil)) (fVar 1))) (fSeq (Z4l (fVar 0) (fC (.int 0)) (fBin Z8k (fIxC (fVar 0) (fC (.int 0))) (fVar 1))) (fRet (fVar 2)))) Z9k) ZNd)
def Zwb : FF:=runF 2 5 ZGf
theorem ZPj (T : Txt K mg) : FnOk P w K mg base CX0 1 T.d__law_take.f T.d__law_take.fd ["_law_pot_here", "_law_upto"] (spD K (RB T) 2 Zwb):=by
 have hR:=ZTg T
 exact Zbl T.d__law_take.F Zrc rfl rfl fun cdv A outer s H E hr=>(Zl (Zvm (PL.pt_cmp hR Z0p (Zvg hR (pdv hR 0) Zh (fun _ _=>rfl)) Zh (nomark _)) (Zl (ZM (i:=2) Zrc.nd rfl (Or.inl rfl) (Zf hR ZDf (ZW hR Z5d (by rfl) T.c.z_int (by decide +kernel) (Za hR (Zvg hR (pdv hR 0) Zh (fun _ _=>rfl)) Zd)) (pdv hR 1))) (Zl (Z0k hR (ps_asg (Zf hR Zom (Zvg hR (pdv hR 0) Zh (fun _ _=>rfl)) (pdv hR 1)) (pg_sub (pdv hR 0) Zh set_list))) (Z0 (Z4c (pdv hR 2))))) Zqk) (Zl (Z0k hR (ps_asg (Zf hR (Zg hR) (Zvg hR (pdv hR 0) Zh (fun _ _=>rfl)) Zh) (pg_sub (pdv hR 0) Zh set_list))) (Zl (ZM (i:=3) Zrc.nd rfl (Or.inl rfl) (Z7 hR (ixd hR) (ZK hR (Zo hR (Za hR Zh (Za hR Zh (Za hR Zh (Za hR Zh (Za hR Zh Zd))))))) (Zf hR ZDf (ZW hR Z5d (by rfl) T.c.z_int (by decide +kernel) (Za hR (Zvg hR (pdv hR 0) Zh (fun _ _=>rfl)) Zd)) Zh) (fun _ _=>rfl))) (Zl (ZM (i:=4) Zrc.nd rfl (Or.inl rfl) (Zf hR ZDf (ZW hR Z5d (by rfl) T.c.z_int (by decide +kernel) (Za hR (Zf hR ZXk (ZW hR Z5d (by rfl) T.c.z_int (by decide +kernel) (Za hR (Zf hR (Zg hR) (Zf hR (Zg hR) (Zvg hR (pdv hR 0) Zh (fun _ _=>rfl)) (Zf hR (ZJd hR) (Zf hR (ZJd hR) Zh (Zvg hR (pdv hR 0) Zh (fun _ _=>rfl))) (Zvg hR (pdv hR 0) Zh (fun _ _=>rfl)))) Zh) Zd)) Zh) Zd)) (pdv hR 3))) (Zl (ZM (i:=4) Zrc.nd rfl (Or.inl rfl) (Zf hR ZDf (ZW hR Z5d (by rfl) T.c.z_int (by decide +kernel) (Za hR (Zf hR (ZJd hR) (pdv hR 4) (Zf hR (Zg hR) (Zf hR ZDf (ZW hR Z5d (by rfl) T.c.z_int (by decide +kernel) (Za hR (pdv hR 4) Zd)) Zh) (Zf hR (ZJd hR) Zh (Zvg hR (pdv hR 0) Zh (fun _ _=>rfl))))) Zd)) Zh)) (Z0 (Z4c (Zf hR ZDf (ZW hR Z5d (by rfl) T.c.z_int (by decide +kernel) (Za hR (Zf hR Zom (pdv hR 4) Zh) Zd)) (pdv hR 1)))))))))
theorem ZWi : ∀ (ds : List D) cs r,Zwb ds cs = some r → ds.length = 2:=Z1b
def Zpj : FS:=(fRet (fFz (fLrg (ZV ZSl (Zb (fC (.int 1)) (Zb (ZV ZTl (Zb (fVar 1) (Zb (ZV dLen (Zb (fVar 0) fNil)) fNil))) fNil))))))
def Zcg : FF:=runF 2 2 Zpj
theorem Zgi (T : Txt K mg) : FnOk P w K mg base CX0 1 T.d__law_cells.f T.d__law_cells.fd ["_law_script", "_law_limit"] (spD K (RB T) 2 Zcg):=by
 have hR:=ZTg T
 exact Zbl T.d__law_cells.F Zjj rfl rfl fun cdv A outer s H E hr=>(Z0 (Z4c (ZK hR (Zwp hR rfl rfl T.c.z_list rfl T.c.z_range (Z3c hR (Z7n rfl) (by rfl) T.c.z_max (by decide +kernel) (Za hR Zh (Za hR (Z3c hR (Z8n rfl) (by rfl) T.c.z_min (by decide +kernel) (Za hR (pdv hR 1) (Za hR (Z3c hR ZKk (by rfl) T.c.z_len (by decide +kernel) (Za hR (pdv hR 0) Zd)) Zd))) Zd)))))))
def Zfd : List D → Option D:=ZEf Zcg
theorem Z5i (T : Txt K mg) : FnOk P w K mg base CX0 1 T.d__law_cells.f T.d__law_cells.fd ["_law_script", "_law_limit"] (spD K (RB T) 2 (Z0d Zfd)):=(Zgi T).imp (ZXi Z1b (ZTg T))
theorem Zdi : ∀ (ds : List D) cs r,Z0d Zfd ds cs = some r → ds.length = 2:=Zvh Z1b
def Z3d : FS:=(fRet (fFz (fLc [3] (fRg1 (Zb (fC (.int 10)) fNil)) (gNm 3) fYes (fBin dIx (fVar 1) (fBin dMod (ZV dInt (Zb (fBin dAdd (fVar 2) (fBin dMul (fC (.int 5)) (fVar 3))) fNil)) (fC (.int 26)))))))
def Z6h : FS:=(fSeq (fAsg (fTup (Zb (fFz (ZCj ZNk (Zb (fC (.str "abcdefghijklmnopqrstuvwxyz")) fNil))) (Zb (fFn Zwb (Zb (fVar 0) (Zb (fC (.int 26)) fNil))) fNil))) (gTp 2 (gCn (gNm 1) (gCn (gNm 2) gNl)))) Z3d)
def ZKb : FF:=runF 1 4 Z6h
theorem ZWh (T : Txt K mg) : FnOk P w K mg base CX0 2 T.d__law_letters.f T.d__law_letters.fd ["_law_pot_here"] (spD K (RB T) 1 ZKb):=by
 have hR:=ZTg T
 exact Zbl T.d__law_letters.F ZFb rfl rfl fun cdv A outer s H E hr=>(Zl (ZGo (p:=⟨0,0,0,0⟩) (ps_asg (Zr hR (Za hR (ZK hR (Zhl hR (Z6m hR rfl) (by rfl) T.c.z_list (by decide +kernel) (Za hR Zi Zd))) (Za hR (Zpk hR ZWi (pe_call (ZPj T) (hr.mono (by decide)) rfl T.g__law_take T.d__law_take.F.kp T.d__law_take.b .nil pass0 (Za hR (pdv hR 0) (Za hR Zh Zd)))) Zd))) (ZOg (pg_tup rfl (Z8 (Zy (pg_name (i:=1) ZFb.nd rfl (Or.inr rfl))) (Z8 (Zy (pg_name (i:=2) ZFb.nd rfl (Or.inr rfl))) Z1e)))))) (Z0 (Z4c (ZK hR (ZBo (own:=[("_law_lap",3)]) hR rfl ZFb.nd (Zym (pi_range1 rfl T.c.z_range (Za hR Zh Zd))) (blkOk_by (own:=[("_law_lap",3)]) (N:=["_law_pot_here", "_law_small", "_law_first", "_law_lap"]) (sc:=defScope Zab) (by decide +kernel)) (fun _ _ _ _ _=>(Zy (pg_name (i:=3) ZFb.nd rfl (Or.inl rfl)))) (by decide) (fun _ _ _ _ _=>Z4f hR pts_nil) (fun _ _ _ _ _=>(Z7 hR (ixd hR) (pdv hR 1) (Zf hR ZDf (ZW hR Z5d (by rfl) T.c.z_int (by decide +kernel) (Za hR (Zf hR (Zg hR) (pdv hR 2) (Zf hR (ZJd hR) Zh (pdv hR 3))) Zd)) Zh) (fun _ _=>rfl))))))))
theorem Zdh : ∀ (ds : List D) cs r,ZKb ds cs = some r → ds.length = 1:=Z1b
def Z9f : FS:=(fRet (Zgn (fUn (dIsX (ZRn 5 0)) (fVar 2)) (fBin dEq (ZV ZOk (Zb (fUn Zbo (fVar 2)) fNil)) (ZV ZOk (Zb (fVar 3) fNil)))))
def Z8f : FS:=(fSeq (fSet 3 (fIf (fTst (fBin dIs (fVar 1) (fC .non))) (fBin dAdd (ZV dLen (Zb (fVar 0) fNil)) (fC (.int 1))) (fBin dSub (ZV dLen (Zb (fVar 0) fNil)) (fBin ZHh (fUn Zdn (fVar 0)) (fVar 1))))) Z9f)
def Z7f : FS:=(fSeq (fIfS (fTst (fBin dEq (fVar 1) (fC (.str "")))) (fRet (fBin dIs (fVar 2) (fC .non))) Z9k) Z8f)
def Z4g : FS:=(fSeq (fSet 2 (fBin dIx (Zal (fMkB (Zb (fBin Zck (fC (.str "\n")) (fVar 0)) fNil))) (fC (.int 0)))) Z7f)
def ZO : FF:=runF 2 4 Z4g
theorem ZNg [OkPr P] (T : Txt K mg) (TB : TabB base mg T.c__law_is_judged T.p__law_is_judged) : FnG P w K mg base 23 T.d__law_is_judged.f T.d__law_is_judged.fd ["_law_lines", "_law_bad"] (spD K (RB T) 2 ZO):=by
 have hR:=ZTg T
 exact Zko T.fc__law_is_judged Zfc rfl rfl fun A outer s H E hg hr=>(Zl (ZM (i:=2) Zfc.nd rfl (Or.inl rfl) (Z7 hR (ixd hR) (Zsn (k:=20) hR (byN T.e rfl) (List.mem_singleton.mpr rfl) (fun _ h=>congrArg Prod.snd (List.mem_singleton.mp h)) (ZXo T) rfl T.g__law_told T.d__law_told.b hg (hr.mono (by decide)) TB rfl (lamS_by (by kernel_rfl)) rfl (fun _ _ _ _ _=>rfl) (fun A outer s H E f c' hg hh hr=>(Z8i (P:=P) hR T (takes_of rfl rfl rfl rfl) hg (hr.mono (by decide)) rfl (Za hR (ZAo hR Zi (pdv hR 0)) Zd)))) Zh (fun _ _=>rfl))) (Zl (Zvm (PL.pt_cmp hR (Zop hr.units) (pdv hR 1) Zi (nomark _)) (Z0 (Z4c (Zsm hR Zpp (pdv hR 2) ZYk (nomark _)))) Zqk) (Zl (ZM (i:=3) Zfc.nd rfl (Or.inl rfl) (Ztm (PL.pt_cmp hR Zpp (pdv hR 1) ZYk (nomark _)) (Zf hR (Zg hR) (Z3c hR ZKk (by rfl) T.c.z_len (by decide +kernel) (Za hR (pdv hR 0) Zd)) Zh) (Zf hR Zqp (Z3c hR ZKk (by rfl) T.c.z_len (by decide +kernel) (Za hR (pdv hR 0) Zd)) (Zum (pe_bm PySem.F.plainAttrs_list PySem.F.slot_list_index PySem.F.type_list_index mt_index (ZDo hR (pdv hR 0)) (pa_cons (pdv hR 1) pa_nil)) hR)))) (Z0 (Z4c (Ztp (Zvp (c:=.ref (T.e.C 0)) (isxN T.e rfl (j:=0) (by decide)) rfl T.c.z_isinstance (pdv hR 2) (pe_glob rfl (T.e.g 0 _ rfl) rfl) (fun _ h=>h)) (Zyp (Zsm hR (Zop hr.units) (Z3c hR (ZLk hR hg hr) (by rfl) T.c.z_repr (by decide +kernel) (Za hR (ZFo (valN T.e rfl) (pdv hR 2)) Zd)) (Z3c hR (ZLk hR hg hr) (by rfl) T.c.z_repr (by decide +kernel) (Za hR (pdv hR 3) Zd)) (nomark _)))))))))
theorem Zrg : ∀ (ds : List D) cs r,ZO ds cs = some r → ds.length = 2:=Z1b
def ZBe : FS:=(fRet (fBin dAdd (fVar 7) (fFz (ZG (Zb (fTup (Zb (fBin dAdd (fSl (fVar 1) Zxb (Zwc (fC (.int 1)))) (fFz (ZG (Zb (fVar 11) (Zb (fVar 2) fNil))))) (Zb (fVar 11) fNil))) fNil)))))
def ZAe : FS:=(fSeq (fSet 11 (fBin dAdd (fBin dAdd (fC (.str "  loop ")) (fBin dIx (fVar 0) (fC (.int 1)))) (fC (.str " 2 lasts 1")))) ZBe)
def Zze : FS:=(fSeq (fFor (fItT (fTup (Zb (fTup (Zb (fC (.str "1")) (Zb (fC (.bl true)) fNil))) (Zb (fTup (Zb (fC (.str "3")) (Zb (fC (.bl true)) fNil))) (Zb (fTup (Zb (fC (.str "0")) (Zb (fC (.bl false)) fNil))) (Zb (fTup (Zb (fC (.str "4")) (Zb (fC (.bl false)) fNil))) (Zb (fTup (Zb (fC (.str "x")) (Zb (fC (.bl false)) fNil))) fNil))))))) (gTp 2 (gCn (gNm 12) (gCn (gNm 10) gNl))) (fFor (fItT (fTup (Zb (fC (.str "ends ")) (Zb (fBin dAdd (fBin dAdd (fC (.str "goes ")) (fBin dIx (fVar 0) (fC (.int 1)))) (fC (.str " "))) fNil)))) (gNm 13) (fSeq (fSet 11 (fBin dAdd (fBin dAdd (fBin dAdd (fBin dAdd (fC (.str "  loop ")) (fBin dIx (fVar 0) (fC (.int 1)))) (fC (.str " 6 "))) (fVar 13)) (fVar 12))) (fApp 7 (fTup (Zb (fBin dAdd (fSl (fVar 1) Zxb (Zwc (fC (.int 1)))) (fFz (ZG (Zb (fVar 11) (Zb (fVar 2) fNil))))) (Zb (fIf (fTst (fVar 10)) (fC (.str "")) (fVar 11)) fNil))))))) ZAe)
def Zye : FS:=(fSeq (fFor (fItT (fTup (Zb (fTup (Zb (fC (.str "1")) (Zb (fC (.bl true)) fNil))) (Zb (fTup (Zb (fC (.str "6")) (Zb (fC (.bl true)) fNil))) (Zb (fTup (Zb (fC (.str "0")) (Zb (fC (.bl false)) fNil))) (Zb (fTup (Zb (fC (.str "7")) (Zb (fC (.bl false)) fNil))) (Zb (fTup (Zb (fC (.str "06")) (Zb (fC (.bl false)) fNil))) (Zb (fTup (Zb (fC (.str "")) (Zb (fC (.bl false)) fNil))) fNil)))))))) (gTp 2 (gCn (gNm 9) (gCn (gNm 10) gNl))) (fSeq (fSet 11 (fBin dAdd (fBin dAdd (fBin dAdd (fBin dAdd (fC (.str "  loop ")) (fBin dIx (fVar 0) (fC (.int 1)))) (fC (.str " "))) (fVar 9)) (fC (.str " lasts")))) (fApp 7 (fTup (Zb (fBin dAdd (fSl (fVar 1) Zxb (Zwc (fC (.int 1)))) (fFz (ZG (Zb (fVar 11) (Zb (fVar 2) fNil))))) (Zb (fIf (fTst (fVar 10)) (fC (.str "")) (fVar 11)) fNil)))))) Zze)
def Znf : FS:=(fSeq (fApp 7 (fTup (Zb (fBin dAdd (fBin dAdd (fSl (fVar 1) Zxb (Zwc (fC (.int 1)))) (fVar 8)) (fFz (ZG (Zb (fVar 2) fNil)))) (Zb (fBin dIx (fVar 8) (fC (.int 3))) fNil)))) Zye)
def Zmf : FS:=(fSeq (fApp 7 (fTup (Zb (fBin dAdd (fBin dAdd (fSl (fVar 1) Zxb (Zwc (fC (.int 1)))) (fSl (fVar 8) Zxb (Zwc (fC (.int 3))))) (fFz (ZG (Zb (fVar 2) fNil)))) (Zb (fC (.str "")) fNil)))) Znf)
def Zlf : FS:=(fSeq (Zch 8 (fLc [4] (fItL (fSl (fVar 0) (Zwc (fC (.int 1))) (Zwc (fC (.int 5))))) (gNm 4) fYes (fBin dAdd (fBin dAdd (fC (.str "  loop ")) (fVar 4)) (fC (.str " 1 lasts"))))) Zmf)
def Zkf : FS:=(fSeq (Zch 7 (Zin ZRl (fVar 7) (fFz (ZG (Zb (fTup (Zb (fFz (ZG (Zb (fBin dAdd (fC (.str "track ")) (fBin dIx (fVar 0) (fC (.int 0)))) fNil))) (Zb (fC .non) fNil))) (Zb (fTup (Zb (fFz (ZG (Zb (fBin dIx (fVar 1) (fC (.int 0))) (Zb (fVar 2) fNil)))) (Zb (fVar 2) fNil))) fNil)))))) Zlf)
def Zjf : FS:=(fSeq (fApp 7 (fTup (Zb (fBin dAdd (fBin dAdd (fVar 5) (fBin dIx (fVar 3) (fC (.int 4)))) (fFz (ZG (Zb (fVar 2) fNil)))) (Zb (fBin dAdd (fC (.str "track ")) (fBin dIx (fVar 0) (fC (.int 4)))) fNil)))) Zkf)
def Zif : FS:=(fSeq (Zch 7 (ZG (Zb (fTup (Zb (fBin dAdd (fVar 1) (fFz (ZG (Zb (fVar 2) fNil)))) (Zb (fC (.str "")) fNil))) (Zb (fTup (Zb (fBin dAdd (fVar 5) (fFz (ZG (Zb (fVar 2) fNil)))) (Zb (fC (.str "")) fNil))) (Zb (fTup (Zb (fFz (ZG (Zb (fVar 2) fNil))) (Zb (fVar 2) fNil))) (Zb (fTup (Zb (fVar 1) (Zb (fC .non) fNil))) fNil)))))) Zjf)
def Zhf : FS:=(fSeq (fFor (fItL (fSl (fVar 3) Zxb (Zwc (fC (.int 4))))) (gNm 6) (fSet 5 (fBin dAdd (fVar 5) (fVar 6)))) Zif)
def Zgf : FS:=(fSeq (fSet 5 (fFz (ZG fNil))) Zhf)
def Zff : FS:=(fSeq (Zch 3 (fLc [4] (fItL (fSl (fVar 0) Zxb (Zwc (fC (.int 5))))) (gNm 4) fYes (fFz (ZG (Zb (fBin dAdd (fC (.str "track ")) (fVar 4)) (Zb (fBin dAdd (fBin dAdd (fC (.str "  loop ")) (fBin dIx (fVar 0) (fC (.int 1)))) (fC (.str " 1 lasts"))) fNil)))))) Zgf)
def Zbg : FS:=(fSeq (fPar 1 2 (Zb (fFz (ZG (Zb (fBin dAdd (fC (.str "track ")) (fBin dIx (fVar 0) (fC (.int 0)))) (Zb (fBin dAdd (fBin dAdd (fC (.str "  loop ")) (fBin dIx (fVar 0) (fC (.int 1)))) (fC (.str " 2 lasts"))) fNil)))) (Zb (fBin dAdd (fBin dAdd (fC (.str "button ")) (fBin dIx (fVar 0) (fC (.int 9)))) (fC (.str " every 1"))) fNil))) Zff)
def ZPc : FF:=runF 1 14 Zbg
theorem Zxf (T : Txt K mg) : FnOk P w K mg base CX0 1 T.d__law_track_cases.f T.d__law_track_cases.fd ["_law_n"] (spD K (RB T) 1 ZPc):=by
 have hR:=ZTg T
 exact Zbl T.d__law_track_cases.F Zk rfl rfl fun cdv A outer s H E hr=>(Zl (Zwm (ps_par (i:=1) (j:=2) (by rfl) Zk.nd rfl rfl (by decide) rfl rfl (Za hR (ZK hR (Zo hR (Za hR (Zf hR (Zg hR) Zi (Z7 hR (ixd hR) (pdv hR 0) Zh (fun _ _=>rfl))) (Za hR (Zf hR (Zg hR) (Zf hR (Zg hR) Zi (Z7 hR (ixd hR) (pdv hR 0) Zh (fun _ _=>rfl))) Zi) Zd)))) (Za hR (Zf hR (Zg hR) (Zf hR (Zg hR) Zi (Z7 hR (ixd hR) (pdv hR 0) Zh (fun _ _=>rfl))) Zi) Zd)) (by rfl))) (Zl (Zwg (i:=3) (own:=[("_law_name",4)]) hR rfl Zk.nd rfl rfl (sw_true rfl rfl rfl (by decide +kernel)) (Zhc (pi_list (ZLd hR (pdv hR 0) Zfb (ZE Zh)))) (blkOk_by (own:=[("_law_name",4)]) (N:=["_law_n", "_law_one", "_law_button", "_law_tracks", "_law_name", "_law_four", "_law_rows", "_law_found", "_law_loops", "_law_length", "_law_is_fine", "_law_line", "_law_rounds", "_law_way"]) (sc:=defScope Zz) (by decide +kernel)) (fun _ _ _ _ _=>(Zy (pg_name (i:=4) Zk.nd rfl (Or.inl rfl)))) (by decide) (fun _ _ _ _ _=>Z4f hR pts_nil) (fun _ _ _ _ _=>(ZK hR (Zo hR (Za hR (Zf hR (Zg hR) Zi (pdv hR 4)) (Za hR (Zf hR (Zg hR) (Zf hR (Zg hR) Zi (Z7 hR (ixd hR) (pdv hR 0) Zh (fun _ _=>rfl))) Zi) Zd)))))) (Zl (ZM (i:=5) Zk.nd rfl (Or.inl rfl) (ZK hR (Zo hR Zd))) (Zl (Zwd hR (Zhc (pi_list (ZLd hR (pdv hR 3) Zfb (ZE Zh)))) (Zy (pg_name (i:=6) Zk.nd rfl (Or.inl rfl))) (Z0 (ZM (i:=5) Zk.nd rfl (Or.inl rfl) (Zf hR (Zg hR) (pdv hR 5) (pdv hR 6)))) rfl PassesOwn.never) (Zl (Z0e (i:=7) Zk.nd rfl (Or.inl rfl) (Zo hR (Za hR (Zr hR (Za hR (Zf hR (Zg hR) (pdv hR 1) (ZK hR (Zo hR (Za hR (pdv hR 2) Zd)))) (Za hR Zi Zd))) (Za hR (Zr hR (Za hR (Zf hR (Zg hR) (pdv hR 5) (ZK hR (Zo hR (Za hR (pdv hR 2) Zd)))) (Za hR Zi Zd))) (Za hR (Zr hR (Za hR (ZK hR (Zo hR (Za hR (pdv hR 2) Zd))) (Za hR (pdv hR 2) Zd))) (Za hR (Zr hR (Za hR (pdv hR 1) (Za hR ZYk Zd))) Zd)))))) (Zl (ZBb hR (ps_expr (pe_bm PySem.F.plainAttrs_list PySem.F.slot_list_append PySem.F.type_list_append mt_append (pv 7) (pa_cons (Zr hR (Za hR (Zf hR (Zg hR) (Zf hR (Zg hR) (pdv hR 5) (Z7 hR (ixd hR) (pdv hR 3) Zh (fun _ _=>rfl))) (ZK hR (Zo hR (Za hR (pdv hR 2) Zd)))) (Za hR (Zf hR (Zg hR) Zi (Z7 hR (ixd hR) (pdv hR 0) Zh (fun _ _=>rfl))) Zd))) pa_nil)))) (Zl (Z0e (i:=7) Zk.nd rfl (Or.inl rfl) (Zok hR (Zlk hR) (pdv hR 7) (ZK hR (Zo hR (Za hR (Zr hR (Za hR (ZK hR (Zo hR (Za hR (Zf hR (Zg hR) Zi (Z7 hR (ixd hR) (pdv hR 0) Zh (fun _ _=>rfl))) Zd))) (Za hR ZYk Zd))) (Za hR (Zr hR (Za hR (ZK hR (Zo hR (Za hR (Z7 hR (ixd hR) (pdv hR 1) Zh (fun _ _=>rfl)) (Za hR (pdv hR 2) Zd)))) (Za hR (pdv hR 2) Zd))) Zd)))))) (Zl (Zwg (i:=8) (own:=[("_law_name",4)]) hR rfl Zk.nd rfl rfl (sw_true rfl rfl rfl (by decide +kernel)) (Zhc (pi_list (ZLd hR (pdv hR 0) (ZE Zh) (ZE Zh)))) (blkOk_by (own:=[("_law_name",4)]) (N:=["_law_n", "_law_one", "_law_button", "_law_tracks", "_law_name", "_law_four", "_law_rows", "_law_found", "_law_loops", "_law_length", "_law_is_fine", "_law_line", "_law_rounds", "_law_way"]) (sc:=defScope Zz) (by decide +kernel)) (fun _ _ _ _ _=>(Zy (pg_name (i:=4) Zk.nd rfl (Or.inl rfl)))) (by decide) (fun _ _ _ _ _=>Z4f hR pts_nil) (fun _ _ _ _ _=>(Zf hR (Zg hR) (Zf hR (Zg hR) Zi (pdv hR 4)) Zi))) (Zl (ZBb hR (ps_expr (pe_bm PySem.F.plainAttrs_list PySem.F.slot_list_append PySem.F.type_list_append mt_append (pv 7) (pa_cons (Zr hR (Za hR (Zf hR (Zg hR) (Zf hR (Zg hR) (ZLd hR (pdv hR 1) Zfb (ZE Zh)) (ZLd hR (pdv hR 8) Zfb (ZE Zh))) (ZK hR (Zo hR (Za hR (pdv hR 2) Zd)))) (Za hR Zi Zd))) pa_nil)))) (Zl (ZBb hR (ps_expr (pe_bm PySem.F.plainAttrs_list PySem.F.slot_list_append PySem.F.type_list_append mt_append (pv 7) (pa_cons (Zr hR (Za hR (Zf hR (Zg hR) (Zf hR (Zg hR) (ZLd hR (pdv hR 1) Zfb (ZE Zh)) (pdv hR 8)) (ZK hR (Zo hR (Za hR (pdv hR 2) Zd)))) (Za hR (Z7 hR (ixd hR) (pdv hR 8) Zh (fun _ _=>rfl)) Zd))) pa_nil)))) (Zl (Zwd hR (ZXh (pi_tup (Zr hR (Za hR (Zr hR (Za hR Zi (Za hR Z1d Zd))) (Za hR (Zr hR (Za hR Zi (Za hR Z1d Zd))) (Za hR (Zr hR (Za hR Zi (Za hR Z1d Zd))) (Za hR (Zr hR (Za hR Zi (Za hR Z1d Zd))) (Za hR (Zr hR (Za hR Zi (Za hR Z1d Zd))) (Za hR (Zr hR (Za hR Zi (Za hR Z1d Zd))) Zd))))))))) (ZOg (pg_tup rfl (Z8 (Zy (pg_name (i:=9) Zk.nd rfl (Or.inl rfl))) (Z8 (Zy (pg_name (i:=10) Zk.nd rfl (Or.inl rfl))) Z1e)))) (Zl (ZM (i:=11) Zk.nd rfl (Or.inl rfl) (Zf hR (Zg hR) (Zf hR (Zg hR) (Zf hR (Zg hR) (Zf hR (Zg hR) Zi (Z7 hR (ixd hR) (pdv hR 0) Zh (fun _ _=>rfl))) Zi) (pdv hR 9)) Zi)) (Z0 (ZBb hR (ps_expr (pe_bm PySem.F.plainAttrs_list PySem.F.slot_list_append PySem.F.type_list_append mt_append (pv 7) (pa_cons (Zr hR (Za hR (Zf hR (Zg hR) (ZLd hR (pdv hR 1) Zfb (ZE Zh)) (ZK hR (Zo hR (Za hR (pdv hR 11) (Za hR (pdv hR 2) Zd))))) (Za hR (Ztm (ZZk (pdv hR 10)) Zi (pdv hR 11)) Zd))) pa_nil)))))) rfl PassesOwn.never) (Zl (Zwd hR (ZXh (pi_tup (Zr hR (Za hR (Zr hR (Za hR Zi (Za hR Z1d Zd))) (Za hR (Zr hR (Za hR Zi (Za hR Z1d Zd))) (Za hR (Zr hR (Za hR Zi (Za hR Z1d Zd))) (Za hR (Zr hR (Za hR Zi (Za hR Z1d Zd))) (Za hR (Zr hR (Za hR Zi (Za hR Z1d Zd))) Zd)))))))) (ZOg (pg_tup rfl (Z8 (Zy (pg_name (i:=12) Zk.nd rfl (Or.inl rfl))) (Z8 (Zy (pg_name (i:=10) Zk.nd rfl (Or.inl rfl))) Z1e)))) (Z0 (Zwd hR (ZXh (pi_tup (Zr hR (Za hR Zi (Za hR (Zf hR (Zg hR) (Zf hR (Zg hR) Zi (Z7 hR (ixd hR) (pdv hR 0) Zh (fun _ _=>rfl))) Zi) Zd))))) (Zy (pg_name (i:=13) Zk.nd rfl (Or.inl rfl))) (Zl (ZM (i:=11) Zk.nd rfl (Or.inl rfl) (Zf hR (Zg hR) (Zf hR (Zg hR) (Zf hR (Zg hR) (Zf hR (Zg hR) Zi (Z7 hR (ixd hR) (pdv hR 0) Zh (fun _ _=>rfl))) Zi) (pdv hR 13)) (pdv hR 12))) (Z0 (ZBb hR (ps_expr (pe_bm PySem.F.plainAttrs_list PySem.F.slot_list_append PySem.F.type_list_append mt_append (pv 7) (pa_cons (Zr hR (Za hR (Zf hR (Zg hR) (ZLd hR (pdv hR 1) Zfb (ZE Zh)) (ZK hR (Zo hR (Za hR (pdv hR 11) (Za hR (pdv hR 2) Zd))))) (Za hR (Ztm (ZZk (pdv hR 10)) Zi (pdv hR 11)) Zd))) pa_nil)))))) rfl PassesOwn.never)) rfl PassesOwn.never) (Zl (ZM (i:=11) Zk.nd rfl (Or.inl rfl) (Zf hR (Zg hR) (Zf hR (Zg hR) Zi (Z7 hR (ixd hR) (pdv hR 0) Zh (fun _ _=>rfl))) Zi)) (Z0 (Z4c (Zf hR (Zg hR) (pdv hR 7) (ZK hR (Zo hR (Za hR (Zr hR (Za hR (Zf hR (Zg hR) (ZLd hR (pdv hR 1) Zfb (ZE Zh)) (ZK hR (Zo hR (Za hR (pdv hR 11) (Za hR (pdv hR 2) Zd))))) (Za hR (pdv hR 11) Zd))) Zd)))))))))))))))))))
def Z5 : List D → Option D:=ZEf ZPc
theorem Z1f (T : Txt K mg) : FnOk P w K mg base CX0 1 T.d__law_track_cases.f T.d__law_track_cases.fd ["_law_n"] (spD K (RB T) 1 (Z0d Z5)):=(Zxf T).imp (ZXi Z1b (ZTg T))
theorem Ztf : ∀ (ds : List D) cs r,Z0d Z5 ds cs = some r → ds.length = 1:=Zvh Z1b
def Zxe : FS:=(fRet (fBin dAdd (fVar 5) (fFz (ZG (Zb (fTup (Zb (fBin dAdd (fVar 1) (fFz (ZG (Zb (fVar 7) (Zb (fVar 2) fNil))))) (Zb (fC (.str "")) fNil))) (Zb (fTup (Zb (fBin dAdd (fVar 1) (fFz (ZG (Zb (fBin dAdd (fVar 7) (fC (.str "a"))) (Zb (fVar 2) fNil))))) (Zb (fBin dAdd (fVar 7) (fC (.str "a"))) fNil))) fNil))))))
def Zwe : FS:=(fSeq (fSet 7 (fBin dAdd (fC (.str "    0 ")) (fVar 8))) Zxe)
def Zve : FS:=(fSeq (fFor (fItT (fTup (Zb (fTup (Zb (fC (.str "track ")) (Zb (fVar 8) (Zb (fBin dAdd (fVar 8) (fC (.str "a"))) fNil)))) (Zb (fTup (Zb (fC (.str "track ")) (Zb (fC (.str "z")) (Zb (fC (.str "")) fNil)))) fNil)))) (gTp 3 (gCn (gNm 7) (gCn (gNm 9) (gCn (gNm 10) gNl)))) (fSeq (fApp 5 (fTup (Zb (fFz (ZG (Zb (fBin dAdd (fVar 7) (fVar 9)) (Zb (fBin dAdd (fBin dAdd (fC (.str "  loop ")) (fBin dIx (fVar 0) (fC (.int 1)))) (fC (.str " 1 lasts"))) (Zb (fVar 2) fNil))))) (Zb (fC (.str "")) fNil)))) (fApp 5 (fTup (Zb (fFz (ZG (Zb (fBin dAdd (fVar 7) (fVar 10)) (Zb (fBin dAdd (fBin dAdd (fC (.str "  loop ")) (fBin dIx (fVar 0) (fC (.int 1)))) (fC (.str " 1 lasts"))) (Zb (fVar 2) fNil))))) (Zb (fBin dAdd (fVar 7) (fVar 10)) fNil)))))) Zwe)
def Zef : FS:=(fSeq (fSet 8 (fBin dMul (fC (.str "a")) (fC (.int 8)))) Zve)
def Zdf : FS:=(fSeq (fFor (fItL (fVar 6)) (gNm 7) (fApp 5 (fTup (Zb (fBin dAdd (fVar 1) (fFz (ZG (Zb (fVar 7) (Zb (fVar 2) fNil))))) (Zb (fVar 7) fNil))))) Zef)
def Zcf : FS:=(fSeq (fSet 6 (fFz (ZG (Zb (fC (.str "    0 a b c d")) (Zb (fC (.str "    0 b a")) (Zb (fC (.str "    0 a a")) (Zb (fC (.str "    00 a")) (Zb (fC (.str "    x a")) (Zb (fC (.str "    0 A")) (Zb (fC (.str "   0 a")) (Zb (fC (.str "      0 a")) fNil))))))))))) Zdf)
def Zbf : FS:=(fSeq (Zch 5 (Zin ZRl (fVar 5) (fFz (ZG (Zb (fTup (Zb (fBin dAdd (fBin dAdd (fVar 1) (fFz (ZG (Zb (fC (.str "    0")) fNil)))) (fFz (ZG (Zb (fVar 2) fNil)))) (Zb (fC (.str "    0")) fNil))) (Zb (fTup (Zb (fBin dAdd (fBin dAdd (fVar 1) (fFz (ZG (Zb (fC (.str "    0 a b c")) fNil)))) (fFz (ZG (Zb (fVar 2) fNil)))) (Zb (fC (.str "")) fNil))) fNil)))))) Zcf)
def Zaf : FS:=(fSeq (fApp 5 (fTup (Zb (fBin dAdd (fBin dAdd (fVar 1) (fUn Zcn (fVar 3))) (fFz (ZG (Zb (fVar 2) fNil)))) (Zb (fBin dIx (fVar 3) (fC (.int 0))) fNil)))) Zbf)
def Z9e : FS:=(fSeq (fApp 5 (fTup (Zb (fBin dAdd (fBin dAdd (fVar 1) (fBin dMul (fSl (fVar 3) Zxb (Zwc (fC (.int 1)))) (fC (.int 2)))) (fFz (ZG (Zb (fVar 2) fNil)))) (Zb (fBin dIx (fVar 3) (fC (.int 0))) fNil)))) Zaf)
def Z8e : FS:=(fSeq (fApp 5 (fTup (Zb (fBin dAdd (fBin dAdd (fVar 1) (fSl (fVar 3) (Zwc (fC (.int 1))) (Zwc (fC (.int 3))))) (fFz (ZG (Zb (fVar 2) fNil)))) (Zb (fC (.str "")) fNil)))) Z9e)
def Z7e : FS:=(fSeq (Zch 5 (ZG (Zb (fTup (Zb (fBin dAdd (fBin dAdd (fVar 1) (fSl (fVar 3) Zxb (Zwc (fC (.int 3))))) (fFz (ZG (Zb (fVar 2) fNil)))) (Zb (fC (.str "")) fNil))) (Zb (fTup (Zb (fBin dAdd (fBin dAdd (fVar 1) (fVar 3)) (fFz (ZG (Zb (fVar 2) fNil)))) (Zb (fBin dIx (fVar 3) (fC (.int 3))) fNil))) fNil)))) Z8e)
def Z6e : FS:=(fSeq (Zch 3 (fLc [4] (fRg1 (Zb (fC (.int 4)) fNil)) (gNm 4) fYes (fBin dAdd (fBin dAdd (fBin dAdd (fC (.str "    ")) (ZV dStr (Zb (fVar 4) fNil))) (fC (.str " "))) (fBin dIx (fVar 0) (fC (.int 2)))))) Z7e)
def Zag : FS:=(fSeq (fPar 1 2 (Zb (fFz (ZG (Zb (fBin dAdd (fC (.str "track ")) (fBin dIx (fVar 0) (fC (.int 0)))) (Zb (fBin dAdd (fBin dAdd (fC (.str "  loop ")) (fBin dIx (fVar 0) (fC (.int 1)))) (fC (.str " 3 lasts"))) fNil)))) (Zb (fBin dAdd (fBin dAdd (fC (.str "button ")) (fBin dIx (fVar 0) (fC (.int 9)))) (fC (.str " every 1"))) fNil))) Z6e)
def ZOc : FF:=runF 1 11 Zag
theorem Zwf (T : Txt K mg) : FnOk P w K mg base CX0 1 T.d__law_place_cases.f T.d__law_place_cases.fd ["_law_n"] (spD K (RB T) 1 ZOc):=by
 have hR:=ZTg T
 exact Zbl T.d__law_place_cases.F Zn rfl rfl fun cdv A outer s H E hr=>(Zl (Zwm (ps_par (i:=1) (j:=2) (by rfl) Zn.nd rfl rfl (by decide) rfl rfl (Za hR (ZK hR (Zo hR (Za hR (Zf hR (Zg hR) Zi (Z7 hR (ixd hR) (pdv hR 0) Zh (fun _ _=>rfl))) (Za hR (Zf hR (Zg hR) (Zf hR (Zg hR) Zi (Z7 hR (ixd hR) (pdv hR 0) Zh (fun _ _=>rfl))) Zi) Zd)))) (Za hR (Zf hR (Zg hR) (Zf hR (Zg hR) Zi (Z7 hR (ixd hR) (pdv hR 0) Zh (fun _ _=>rfl))) Zi) Zd)) (by rfl))) (Zl (Zwg (i:=3) (own:=[("_law_place",4)]) hR rfl Zn.nd rfl rfl (sw_true rfl rfl rfl (by decide +kernel)) (Zym (pi_range1 rfl T.c.z_range (Za hR Zh Zd))) (blkOk_by (own:=[("_law_place",4)]) (N:=["_law_n", "_law_one", "_law_button", "_law_rows", "_law_place", "_law_found", "_law_some", "_law_line", "_law_fair", "_law_good", "_law_bad"]) (sc:=defScope ZF) (by decide +kernel)) (fun _ _ _ _ _=>(Zy (pg_name (i:=4) Zn.nd rfl (Or.inl rfl)))) (by decide) (fun _ _ _ _ _=>Z4f hR pts_nil) (fun _ _ _ _ _=>(Zf hR (Zg hR) (Zf hR (Zg hR) (Zf hR (Zg hR) Zi (ZW hR ZOl (by rfl) T.c.z_str (by decide +kernel) (Za hR (pdv hR 4) Zd))) Zi) (Z7 hR (ixd hR) (pdv hR 0) Zh (fun _ _=>rfl))))) (Zl (Z0e (i:=5) Zn.nd rfl (Or.inl rfl) (Zo hR (Za hR (Zr hR (Za hR (Zf hR (Zg hR) (Zf hR (Zg hR) (pdv hR 1) (ZLd hR (pdv hR 3) Zfb (ZE Zh))) (ZK hR (Zo hR (Za hR (pdv hR 2) Zd)))) (Za hR Zi Zd))) (Za hR (Zr hR (Za hR (Zf hR (Zg hR) (Zf hR (Zg hR) (pdv hR 1) (pdv hR 3)) (ZK hR (Zo hR (Za hR (pdv hR 2) Zd)))) (Za hR (Z7 hR (ixd hR) (pdv hR 3) Zh (fun _ _=>rfl)) Zd))) Zd)))) (Zl (ZBb hR (ps_expr (pe_bm PySem.F.plainAttrs_list PySem.F.slot_list_append PySem.F.type_list_append mt_append (pv 5) (pa_cons (Zr hR (Za hR (Zf hR (Zg hR) (Zf hR (Zg hR) (pdv hR 1) (ZLd hR (pdv hR 3) (ZE Zh) (ZE Zh))) (ZK hR (Zo hR (Za hR (pdv hR 2) Zd)))) (Za hR Zi Zd))) pa_nil)))) (Zl (ZBb hR (ps_expr (pe_bm PySem.F.plainAttrs_list PySem.F.slot_list_append PySem.F.type_list_append mt_append (pv 5) (pa_cons (Zr hR (Za hR (Zf hR (Zg hR) (Zf hR (Zg hR) (pdv hR 1) (Zf hR (ZJd hR) (ZLd hR (pdv hR 3) Zfb (ZE Zh)) Zh)) (ZK hR (Zo hR (Za hR (pdv hR 2) Zd)))) (Za hR (Z7 hR (ixd hR) (pdv hR 3) Zh (fun _ _=>rfl)) Zd))) pa_nil)))) (Zl (ZBb hR (ps_expr (pe_bm PySem.F.plainAttrs_list PySem.F.slot_list_append PySem.F.type_list_append mt_append (pv 5) (pa_cons (Zr hR (Za hR (Zf hR (Zg hR) (Zf hR (Zg hR) (pdv hR 1) (ZCo hR (pdv hR 3))) (ZK hR (Zo hR (Za hR (pdv hR 2) Zd)))) (Za hR (Z7 hR (ixd hR) (pdv hR 3) Zh (fun _ _=>rfl)) Zd))) pa_nil)))) (Zl (Z0e (i:=5) Zn.nd rfl (Or.inl rfl) (Zok hR (Zlk hR) (pdv hR 5) (ZK hR (Zo hR (Za hR (Zr hR (Za hR (Zf hR (Zg hR) (Zf hR (Zg hR) (pdv hR 1) (ZK hR (Zo hR (Za hR Zi Zd)))) (ZK hR (Zo hR (Za hR (pdv hR 2) Zd)))) (Za hR Zi Zd))) (Za hR (Zr hR (Za hR (Zf hR (Zg hR) (Zf hR (Zg hR) (pdv hR 1) (ZK hR (Zo hR (Za hR Zi Zd)))) (ZK hR (Zo hR (Za hR (pdv hR 2) Zd)))) (Za hR Zi Zd))) Zd)))))) (Zl (ZM (i:=6) Zn.nd rfl (Or.inl rfl) (ZK hR (Zo hR (Za hR Zi (Za hR Zi (Za hR Zi (Za hR Zi (Za hR Zi (Za hR Zi (Za hR Zi (Za hR Zi Zd))))))))))) (Zl (Zwd hR (Zhc (pi_list (pdv hR 6))) (Zy (pg_name (i:=7) Zn.nd rfl (Or.inl rfl))) (Z0 (ZBb hR (ps_expr (pe_bm PySem.F.plainAttrs_list PySem.F.slot_list_append PySem.F.type_list_append mt_append (pv 5) (pa_cons (Zr hR (Za hR (Zf hR (Zg hR) (pdv hR 1) (ZK hR (Zo hR (Za hR (pdv hR 7) (Za hR (pdv hR 2) Zd))))) (Za hR (pdv hR 7) Zd))) pa_nil))))) rfl PassesOwn.never) (Zl (ZM (i:=8) Zn.nd rfl (Or.inl rfl) (Zf hR (ZJd hR) Zi Zh)) (Zl (Zwd hR (ZXh (pi_tup (Zr hR (Za hR (Zr hR (Za hR Zi (Za hR (pdv hR 8) (Za hR (Zf hR (Zg hR) (pdv hR 8) Zi) Zd)))) (Za hR (Zr hR (Za hR Zi (Za hR Zi (Za hR Zi Zd)))) Zd))))) (ZOg (pg_tup rfl (Z8 (Zy (pg_name (i:=7) Zn.nd rfl (Or.inl rfl))) (Z8 (Zy (pg_name (i:=9) Zn.nd rfl (Or.inl rfl))) (Z8 (Zy (pg_name (i:=10) Zn.nd rfl (Or.inl rfl))) Z1e))))) (Zl (ZBb hR (ps_expr (pe_bm PySem.F.plainAttrs_list PySem.F.slot_list_append PySem.F.type_list_append mt_append (pv 5) (pa_cons (Zr hR (Za hR (ZK hR (Zo hR (Za hR (Zf hR (Zg hR) (pdv hR 7) (pdv hR 9)) (Za hR (Zf hR (Zg hR) (Zf hR (Zg hR) Zi (Z7 hR (ixd hR) (pdv hR 0) Zh (fun _ _=>rfl))) Zi) (Za hR (pdv hR 2) Zd))))) (Za hR Zi Zd))) pa_nil)))) (Z0 (ZBb hR (ps_expr (pe_bm PySem.F.plainAttrs_list PySem.F.slot_list_append PySem.F.type_list_append mt_append (pv 5) (pa_cons (Zr hR (Za hR (ZK hR (Zo hR (Za hR (Zf hR (Zg hR) (pdv hR 7) (pdv hR 10)) (Za hR (Zf hR (Zg hR) (Zf hR (Zg hR) Zi (Z7 hR (ixd hR) (pdv hR 0) Zh (fun _ _=>rfl))) Zi) (Za hR (pdv hR 2) Zd))))) (Za hR (Zf hR (Zg hR) (pdv hR 7) (pdv hR 10)) Zd))) pa_nil)))))) rfl PassesOwn.never) (Zl (ZM (i:=7) Zn.nd rfl (Or.inl rfl) (Zf hR (Zg hR) Zi (pdv hR 8))) (Z0 (Z4c (Zf hR (Zg hR) (pdv hR 5) (ZK hR (Zo hR (Za hR (Zr hR (Za hR (Zf hR (Zg hR) (pdv hR 1) (ZK hR (Zo hR (Za hR (pdv hR 7) (Za hR (pdv hR 2) Zd))))) (Za hR Zi Zd))) (Za hR (Zr hR (Za hR (Zf hR (Zg hR) (pdv hR 1) (ZK hR (Zo hR (Za hR (Zf hR (Zg hR) (pdv hR 7) Zi) (Za hR (pdv hR 2) Zd))))) (Za hR (Zf hR (Zg hR) (pdv hR 7) Zi) Zd))) Zd)))))))))))))))))))
def Z4 : List D → Option D:=ZEf ZOc
theorem Z0f (T : Txt K mg) : FnOk P w K mg base CX0 1 T.d__law_place_cases.f T.d__law_place_cases.fd ["_law_n"] (spD K (RB T) 1 (Z0d Z4)):=(Zwf T).imp (ZXi Z1b (ZTg T))
theorem Zsf : ∀ (ds : List D) cs r,Z0d Z4 ds cs = some r → ds.length = 1:=Zvh Z1b
def Zde : FS:=(fRet (fBin dAdd (fVar 4) (fFz (ZG (Zb (fTup (Zb (fBin dAdd (fBin dAdd (fVar 1) (fSl (fVar 2) Zxb (Zwc (fC (.int 1))))) (fVar 1)) (Zb (fBin dAdd (fC (.str "track ")) (fBin dIx (fVar 0) (fC (.int 0)))) fNil))) fNil)))))
def Zce : FS:=(fSeq (fFor (fItL (fBin dAdd (fFz (fLc [14] (fItL (fVar 13)) (gNm 14) fYes (fBin dAdd (fBin dAdd (fC (.str "  ")) (fBin dIx (fVar 0) (fC (.int 0)))) (fVar 14)))) (fFz (ZG (Zb (fBin dAdd (fBin dAdd (fC (.str "  ")) (fBin dIx (fVar 0) (fC (.int 3)))) (fC (.str " stops"))) fNil))))) (gNm 11) (fApp 4 (fTup (Zb (fBin dAdd (fBin dAdd (fVar 1) (fSl (fVar 2) Zxb (Zwc (fC (.int 1))))) (fFz (ZG (Zb (fVar 11) fNil)))) (Zb (fVar 11) fNil))))) Zde)
def Zbe : FS:=(fSeq (fSet 13 (fFz (ZG (Zb (fBin dAdd (fC (.str " stops ")) (fBin dIx (fVar 0) (fC (.int 1)))) (Zb (fC (.str " plays")) (Zb (fBin dAdd (fC (.str " keeps ")) (fBin dIx (fVar 0) (fC (.int 2)))) (Zb (fC (.str " ends")) (Zb (fBin dAdd (fBin dAdd (fC (.str " plays ")) (fBin dIx (fVar 0) (fC (.int 1)))) (fC (.str " 1"))) fNil)))))))) Zce)
def Zae : FS:=(fSeq (fApp 4 (fTup (Zb (fBin dAdd (fBin dAdd (fVar 1) (fVar 9)) (fFz (ZG (Zb (fVar 12) fNil)))) (Zb (fC (.str "")) fNil)))) Zbe)
def Z9d : FS:=(fSeq (fSet 9 (fBin dAdd (fBin dAdd (fSl (fVar 2) Zxb (Zwc (fC (.int 1)))) (fFz (ZG (Zb (fBin dAdd (fBin dAdd (fC (.str "  ")) (fBin dIx (fVar 0) (fC (.int 0)))) (fC (.str " stops"))) fNil)))) (fSl (fVar 2) (Zwc (fC (.int 1))) (Zwc (fC (.int 2)))))) Zae)
def Zue : FS:=(fSeq (fApp 4 (fTup (Zb (fBin dAdd (fBin dAdd (fVar 1) (fSl (fVar 2) Zxb (Zwc (fC (.int 1))))) (fBin dMul (fFz (ZG (Zb (fVar 12) fNil))) (fC (.int 2)))) (Zb (fVar 12) fNil)))) Z9d)
def Zte : FS:=(fSeq (Zch 4 (Zin ZRl (fVar 4) (fFz (ZG (Zb (fTup (Zb (fBin dAdd (fBin dAdd (fVar 1) (fSl (fVar 2) Zxb (Zwc (fC (.int 1))))) (fFz (ZG (Zb (fVar 12) fNil)))) (Zb (fC (.str "")) fNil))) (Zb (fTup (Zb (fBin dAdd (fVar 1) (fFz (ZG (Zb (fVar 12) fNil)))) (Zb (fVar 12) fNil))) fNil)))))) Zue)
def Zse : FS:=(fSeq (fSet 12 (fBin dAdd (fBin dAdd (fBin dAdd (fC (.str "  ")) (fBin dIx (fVar 0) (fC (.int 0)))) (fC (.str " plays "))) (fBin dIx (fVar 0) (fC (.int 1))))) Zte)
def Zre : FS:=(fSeq (fApp 4 (fTup (Zb (fBin dAdd (fVar 1) (fFz (ZG (Zb (fBin dAdd (fBin dAdd (fC (.str "button ")) (fBin dIx (fVar 0) (fC (.int 2)))) (fC (.str " at 1"))) fNil)))) (Zb (fBin dAdd (fBin dAdd (fC (.str "button ")) (fBin dIx (fVar 0) (fC (.int 2)))) (fC (.str " at 1"))) fNil)))) Zse)
def Zqe : FS:=(fSeq (fFor (fItT (fTup (Zb (fC (.str "0")) (Zb (fC (.str "13")) (Zb (fC (.str "01")) (Zb (fC (.str "x")) (Zb (fC (.str "-1")) fNil))))))) (gNm 10) (fSeq (fSet 11 (fBin dAdd (fBin dAdd (fBin dAdd (fC (.str "button ")) (fBin dIx (fVar 0) (fC (.int 2)))) (fC (.str " every "))) (fVar 10))) (fApp 4 (fTup (Zb (fBin dAdd (fVar 1) (fFz (ZG (Zb (fVar 11) fNil)))) (Zb (fVar 11) fNil)))))) Zre)
def Zpe : FS:=(fSeq (fFor (fItL (fVar 5)) (gTp 3 (gCn (gNm 6) (gCn (gNm 7) (gCn (gNm 8) gNl)))) (fSeq (fSet 9 (fFz (ZG (Zb (fBin dAdd (fBin dAdd (fBin dAdd (fC (.str "button ")) (fBin dIx (fVar 0) (fC (.int 2)))) (fC (.str " every "))) (ZV dStr (Zb (fVar 6) fNil))) (Zb (fBin dAdd (fBin dAdd (fBin dAdd (fC (.str "button ")) (fBin dIx (fVar 0) (fC (.int 3)))) (fC (.str " every "))) (ZV dStr (Zb (fVar 7) fNil))) fNil))))) (fApp 4 (fTup (Zb (fBin dAdd (fVar 1) (fVar 9)) (Zb (fIf (fTst (fVar 8)) (fC (.str "")) (fBin dIx (fVar 9) (fC (.int 1)))) fNil)))))) Zqe)
def Zoe : FS:=(fSeq (fSet 5 (fFz (ZG (Zb (fTup (Zb (fC (.int 4)) (Zb (fC (.int 6)) (Zb (fC (.bl true)) fNil)))) (Zb (fTup (Zb (fC (.int 12)) (Zb (fC (.int 12)) (Zb (fC (.bl true)) fNil)))) (Zb (fTup (Zb (fC (.int 5)) (Zb (fC (.int 2)) (Zb (fC (.bl true)) fNil)))) (Zb (fTup (Zb (fC (.int 3)) (Zb (fC (.int 4)) (Zb (fC (.bl true)) fNil)))) (Zb (fTup (Zb (fC (.int 5)) (Zb (fC (.int 3)) (Zb (fC (.bl false)) fNil)))) (Zb (fTup (Zb (fC (.int 8)) (Zb (fC (.int 6)) (Zb (fC (.bl false)) fNil)))) fNil))))))))) Zpe)
def Zne : FS:=(fSeq (Zch 4 (ZG (Zb (fTup (Zb (fBin dAdd (fVar 1) (fSl (fVar 2) Zxb (Zwc (fC (.int 5))))) (Zb (fC (.str "")) fNil))) (Zb (fTup (Zb (fBin dAdd (fVar 1) (fVar 2)) (Zb (fBin dIx (fVar 2) (fC (.int 5))) fNil))) fNil)))) Zoe)
def Zme : FS:=(fSeq (Zch 2 (fLc [3] (fItL (fSl (fVar 0) (Zwc (fC (.int 2))) (Zwc (fC (.int 8))))) (gNm 3) fYes (fBin dAdd (fBin dAdd (fC (.str "button ")) (fVar 3)) (fC (.str " every 1"))))) Zne)
def ZFf : FS:=(fSeq (fSet 1 (fFz (ZG (Zb (fBin dAdd (fC (.str "track ")) (fBin dIx (fVar 0) (fC (.int 0)))) (Zb (fBin dAdd (fBin dAdd (fC (.str "  loop ")) (fBin dIx (fVar 0) (fC (.int 1)))) (fC (.str " 2 lasts"))) fNil))))) Zme)
def Zxc : FF:=runF 1 15 ZFf
theorem ZTe (T : Txt K mg) : FnOk P w K mg base CX0 1 T.d__law_button_cases.f T.d__law_button_cases.fd ["_law_n"] (spD K (RB T) 1 Zxc):=by
 have hR:=ZTg T
 exact Zbl T.d__law_button_cases.F Zj rfl rfl fun cdv A outer s H E hr=>(Zl (ZM (i:=1) Zj.nd rfl (Or.inl rfl) (ZK hR (Zo hR (Za hR (Zf hR (Zg hR) Zi (Z7 hR (ixd hR) (pdv hR 0) Zh (fun _ _=>rfl))) (Za hR (Zf hR (Zg hR) (Zf hR (Zg hR) Zi (Z7 hR (ixd hR) (pdv hR 0) Zh (fun _ _=>rfl))) Zi) Zd))))) (Zl (Zwg (i:=2) (own:=[("_law_name",3)]) hR rfl Zj.nd rfl rfl (sw_true rfl rfl rfl (by decide +kernel)) (Zhc (pi_list (ZLd hR (pdv hR 0) (ZE Zh) (ZE Zh)))) (blkOk_by (own:=[("_law_name",3)]) (N:=["_law_n", "_law_head", "_law_buttons", "_law_name", "_law_found", "_law_pairs", "_law_first", "_law_second", "_law_is_fine", "_law_rows", "_law_quantum", "_law_line", "_law_deed", "_law_some", "_law_word"]) (sc:=defScope Zv) (by decide +kernel)) (fun _ _ _ _ _=>(Zy (pg_name (i:=3) Zj.nd rfl (Or.inl rfl)))) (by decide) (fun _ _ _ _ _=>Z4f hR pts_nil) (fun _ _ _ _ _=>(Zf hR (Zg hR) (Zf hR (Zg hR) Zi (pdv hR 3)) Zi))) (Zl (Z0e (i:=4) Zj.nd rfl (Or.inl rfl) (Zo hR (Za hR (Zr hR (Za hR (Zf hR (Zg hR) (pdv hR 1) (ZLd hR (pdv hR 2) Zfb (ZE Zh))) (Za hR Zi Zd))) (Za hR (Zr hR (Za hR (Zf hR (Zg hR) (pdv hR 1) (pdv hR 2)) (Za hR (Z7 hR (ixd hR) (pdv hR 2) Zh (fun _ _=>rfl)) Zd))) Zd)))) (Zl (ZM (i:=5) Zj.nd rfl (Or.inl rfl) (ZK hR (Zo hR (Za hR (Zr hR (Za hR Zh (Za hR Zh (Za hR Z1d Zd)))) (Za hR (Zr hR (Za hR Zh (Za hR Zh (Za hR Z1d Zd)))) (Za hR (Zr hR (Za hR Zh (Za hR Zh (Za hR Z1d Zd)))) (Za hR (Zr hR (Za hR Zh (Za hR Zh (Za hR Z1d Zd)))) (Za hR (Zr hR (Za hR Zh (Za hR Zh (Za hR Z1d Zd)))) (Za hR (Zr hR (Za hR Zh (Za hR Zh (Za hR Z1d Zd)))) Zd))))))))) (Zl (Zwd hR (Zhc (pi_list (pdv hR 5))) (ZOg (pg_tup rfl (Z8 (Zy (pg_name (i:=6) Zj.nd rfl (Or.inl rfl))) (Z8 (Zy (pg_name (i:=7) Zj.nd rfl (Or.inl rfl))) (Z8 (Zy (pg_name (i:=8) Zj.nd rfl (Or.inl rfl))) Z1e))))) (Zl (ZM (i:=9) Zj.nd rfl (Or.inl rfl) (ZK hR (Zo hR (Za hR (Zf hR (Zg hR) (Zf hR (Zg hR) (Zf hR (Zg hR) Zi (Z7 hR (ixd hR) (pdv hR 0) Zh (fun _ _=>rfl))) Zi) (ZW hR ZOl (by rfl) T.c.z_str (by decide +kernel) (Za hR (pdv hR 6) Zd))) (Za hR (Zf hR (Zg hR) (Zf hR (Zg hR) (Zf hR (Zg hR) Zi (Z7 hR (ixd hR) (pdv hR 0) Zh (fun _ _=>rfl))) Zi) (ZW hR ZOl (by rfl) T.c.z_str (by decide +kernel) (Za hR (pdv hR 7) Zd))) Zd))))) (Z0 (ZBb hR (ps_expr (pe_bm PySem.F.plainAttrs_list PySem.F.slot_list_append PySem.F.type_list_append mt_append (pv 4) (pa_cons (Zr hR (Za hR (Zf hR (Zg hR) (pdv hR 1) (pdv hR 9)) (Za hR (Ztm (ZZk (pdv hR 8)) Zi (Z7 hR (ixd hR) (pdv hR 9) Zh (fun _ _=>rfl))) Zd))) pa_nil)))))) rfl PassesOwn.never) (Zl (Zwd hR (ZXh (pi_tup (Zr hR (Za hR Zi (Za hR Zi (Za hR Zi (Za hR Zi (Za hR Zi Zd)))))))) (Zy (pg_name (i:=10) Zj.nd rfl (Or.inl rfl))) (Zl (ZM (i:=11) Zj.nd rfl (Or.inl rfl) (Zf hR (Zg hR) (Zf hR (Zg hR) (Zf hR (Zg hR) Zi (Z7 hR (ixd hR) (pdv hR 0) Zh (fun _ _=>rfl))) Zi) (pdv hR 10))) (Z0 (ZBb hR (ps_expr (pe_bm PySem.F.plainAttrs_list PySem.F.slot_list_append PySem.F.type_list_append mt_append (pv 4) (pa_cons (Zr hR (Za hR (Zf hR (Zg hR) (pdv hR 1) (ZK hR (Zo hR (Za hR (pdv hR 11) Zd)))) (Za hR (pdv hR 11) Zd))) pa_nil)))))) rfl PassesOwn.never) (Zl (ZBb hR (ps_expr (pe_bm PySem.F.plainAttrs_list PySem.F.slot_list_append PySem.F.type_list_append mt_append (pv 4) (pa_cons (Zr hR (Za hR (Zf hR (Zg hR) (pdv hR 1) (ZK hR (Zo hR (Za hR (Zf hR (Zg hR) (Zf hR (Zg hR) Zi (Z7 hR (ixd hR) (pdv hR 0) Zh (fun _ _=>rfl))) Zi) Zd)))) (Za hR (Zf hR (Zg hR) (Zf hR (Zg hR) Zi (Z7 hR (ixd hR) (pdv hR 0) Zh (fun _ _=>rfl))) Zi) Zd))) pa_nil)))) (Zl (ZM (i:=12) Zj.nd rfl (Or.inl rfl) (Zf hR (Zg hR) (Zf hR (Zg hR) (Zf hR (Zg hR) Zi (Z7 hR (ixd hR) (pdv hR 0) Zh (fun _ _=>rfl))) Zi) (Z7 hR (ixd hR) (pdv hR 0) Zh (fun _ _=>rfl)))) (Zl (Z0e (i:=4) Zj.nd rfl (Or.inl rfl) (Zok hR (Zlk hR) (pdv hR 4) (ZK hR (Zo hR (Za hR (Zr hR (Za hR (Zf hR (Zg hR) (Zf hR (Zg hR) (pdv hR 1) (ZLd hR (pdv hR 2) Zfb (ZE Zh))) (ZK hR (Zo hR (Za hR (pdv hR 12) Zd)))) (Za hR Zi Zd))) (Za hR (Zr hR (Za hR (Zf hR (Zg hR) (pdv hR 1) (ZK hR (Zo hR (Za hR (pdv hR 12) Zd)))) (Za hR (pdv hR 12) Zd))) Zd)))))) (Zl (ZBb hR (ps_expr (pe_bm PySem.F.plainAttrs_list PySem.F.slot_list_append PySem.F.type_list_append mt_append (pv 4) (pa_cons (Zr hR (Za hR (Zf hR (Zg hR) (Zf hR (Zg hR) (pdv hR 1) (ZLd hR (pdv hR 2) Zfb (ZE Zh))) (Zf hR (ZJd hR) (ZK hR (Zo hR (Za hR (pdv hR 12) Zd))) Zh)) (Za hR (pdv hR 12) Zd))) pa_nil)))) (Zl (ZM (i:=9) Zj.nd rfl (Or.inl rfl) (Zf hR (Zg hR) (Zf hR (Zg hR) (ZLd hR (pdv hR 2) Zfb (ZE Zh)) (ZK hR (Zo hR (Za hR (Zf hR (Zg hR) (Zf hR (Zg hR) Zi (Z7 hR (ixd hR) (pdv hR 0) Zh (fun _ _=>rfl))) Zi) Zd)))) (ZLd hR (pdv hR 2) (ZE Zh) (ZE Zh)))) (Zl (ZBb hR (ps_expr (pe_bm PySem.F.plainAttrs_list PySem.F.slot_list_append PySem.F.type_list_append mt_append (pv 4) (pa_cons (Zr hR (Za hR (Zf hR (Zg hR) (Zf hR (Zg hR) (pdv hR 1) (pdv hR 9)) (ZK hR (Zo hR (Za hR (pdv hR 12) Zd)))) (Za hR Zi Zd))) pa_nil)))) (Zl (ZM (i:=13) Zj.nd rfl (Or.inl rfl) (ZK hR (Zo hR (Za hR (Zf hR (Zg hR) Zi (Z7 hR (ixd hR) (pdv hR 0) Zh (fun _ _=>rfl))) (Za hR Zi (Za hR (Zf hR (Zg hR) Zi (Z7 hR (ixd hR) (pdv hR 0) Zh (fun _ _=>rfl))) (Za hR Zi (Za hR (Zf hR (Zg hR) (Zf hR (Zg hR) Zi (Z7 hR (ixd hR) (pdv hR 0) Zh (fun _ _=>rfl))) Zi) Zd)))))))) (Zl (Zwd hR (Zhc (pi_list (Zf hR (Zg hR) (ZK hR (ZBo (own:=[("_law_word",14)]) hR rfl Zj.nd (Zhc (pi_list (pdv hR 13))) (blkOk_by (own:=[("_law_word",14)]) (N:=["_law_n", "_law_head", "_law_buttons", "_law_name", "_law_found", "_law_pairs", "_law_first", "_law_second", "_law_is_fine", "_law_rows", "_law_quantum", "_law_line", "_law_deed", "_law_some", "_law_word"]) (sc:=defScope Zv) (by decide +kernel)) (fun _ _ _ _ _=>(Zy (pg_name (i:=14) Zj.nd rfl (Or.inl rfl)))) (by decide) (fun _ _ _ _ _=>Z4f hR pts_nil) (fun _ _ _ _ _=>(Zf hR (Zg hR) (Zf hR (Zg hR) Zi (Z7 hR (ixd hR) (pdv hR 0) Zh (fun _ _=>rfl))) (pdv hR 14))))) (ZK hR (Zo hR (Za hR (Zf hR (Zg hR) (Zf hR (Zg hR) Zi (Z7 hR (ixd hR) (pdv hR 0) Zh (fun _ _=>rfl))) Zi) Zd)))))) (Zy (pg_name (i:=11) Zj.nd rfl (Or.inl rfl))) (Z0 (ZBb hR (ps_expr (pe_bm PySem.F.plainAttrs_list PySem.F.slot_list_append PySem.F.type_list_append mt_append (pv 4) (pa_cons (Zr hR (Za hR (Zf hR (Zg hR) (Zf hR (Zg hR) (pdv hR 1) (ZLd hR (pdv hR 2) Zfb (ZE Zh))) (ZK hR (Zo hR (Za hR (pdv hR 11) Zd)))) (Za hR (pdv hR 11) Zd))) pa_nil))))) rfl PassesOwn.never) (Z0 (Z4c (Zf hR (Zg hR) (pdv hR 4) (ZK hR (Zo hR (Za hR (Zr hR (Za hR (Zf hR (Zg hR) (Zf hR (Zg hR) (pdv hR 1) (ZLd hR (pdv hR 2) Zfb (ZE Zh))) (pdv hR 1)) (Za hR (Zf hR (Zg hR) Zi (Z7 hR (ixd hR) (pdv hR 0) Zh (fun _ _=>rfl))) Zd))) Zd))))))))))))))))))))
def ZU : List D → Option D:=ZEf Zxc
theorem Zzf (T : Txt K mg) : FnOk P w K mg base CX0 1 T.d__law_button_cases.f T.d__law_button_cases.fd ["_law_n"] (spD K (RB T) 1 (Z0d ZU)):=(ZTe T).imp (ZXi Z1b (ZTg T))
theorem ZPe : ∀ (ds : List D) cs r,Z0d ZU ds cs = some r → ds.length = 1:=Zvh Z1b
def Z5n : FS:=(fRet (fC (.bl true)))
def ZSp : FS:=(fSeq (fFor (fItL (fFn (Z0d Zfd) (Zb (fVar 0) (Zb (fC (.int 3)) fNil)))) (gNm 1) (fSeq (fSet 2 (fFn ZKb (Zb (Z0l (fFnO ZKc (Zb (fVar 0) (Zb (fVar 1) fNil)))) fNil))) (fSeq (fSet 3 (fBin dAdd (fBin dAdd (fFn (Z0d Z5) (Zb (fVar 2) fNil)) (fFn (Z0d Z4) (Zb (fVar 2) fNil))) (fFn (Z0d ZU) (Zb (fVar 2) fNil)))) (fIfS (fNot (fTst (ZV dAll (Zb (fFz (fLc [4,5] (fItL (fVar 3)) (gTp 2 (gCn (gNm 4) (gCn (gNm 5) gNl))) fYes (fFn ZO (Zb (fVar 4) (Zb (fVar 5) fNil))))) fNil)))) (fRet (fC (.bl false))) Z9k)))) Z5n)
def Z2o : FF:=runF 1 6 ZSp
theorem Zrp [OkPr P] (T : Txt K mg) (TB : TabB base mg T.c__law_is_judged T.p__law_is_judged) : FnG P w K mg base 24 T.d_law.f T.d_law.fd ["_law_script"] (spD K (RB T) 1 Z2o):=by
 have hR:=ZTg T
 exact Zap T.d_law.F Z3h rfl rfl fun cdv A outer s H E hg hr=>(Zl (Zwd hR (Zhc (pi_list (Zpk hR Zdi (pe_call (Z5i T) (hr.mono (by decide)) rfl T.g__law_cells T.d__law_cells.F.kp T.d__law_cells.b .nil pass0 (Za hR (pdv hR 0) (Za hR Zh Zd)))))) (Zy (pg_name (i:=1) Z3h.nd rfl (Or.inl rfl))) (Zl (ZM (i:=2) Z3h.nd rfl (Or.inl rfl) (Zpk hR Zdh (pe_call (ZWh T) (hr.mono (by decide)) rfl T.g__law_letters T.d__law_letters.F.kp T.d__law_letters.b .nil pass0 (Za hR (Zzo hR (Zup hR ZJj (pe_call (Zmk T) (hr.mono (by decide)) rfl T.g__law_pot T.d__law_pot.F.kp T.d__law_pot.b .nil pass0 (Za hR (pdv hR 0) (Za hR (pdv hR 1) Zd))))) Zd)))) (Zl (ZM (i:=3) Z3h.nd rfl (Or.inl rfl) (Zf hR (Zg hR) (Zf hR (Zg hR) (Zpk hR Ztf (pe_call (Z1f T) (hr.mono (by decide)) rfl T.g__law_track_cases T.d__law_track_cases.F.kp T.d__law_track_cases.b .nil pass0 (Za hR (pdv hR 2) Zd))) (Zpk hR Zsf (pe_call (Z0f T) (hr.mono (by decide)) rfl T.g__law_place_cases T.d__law_place_cases.F.kp T.d__law_place_cases.b .nil pass0 (Za hR (pdv hR 2) Zd)))) (Zpk hR ZPe (pe_call (Zzf T) (hr.mono (by decide)) rfl T.g__law_button_cases T.d__law_button_cases.F.kp T.d__law_button_cases.b .nil pass0 (Za hR (pdv hR 2) Zd))))) (Z0 (Zvm (Zxp (ZZk (Z3c hR (Z6o rfl) (by rfl) T.c.z_all (by decide +kernel) (Za hR (ZK hR (ZBo (own:=[("_law_lines",4),("_law_bad",5)]) hR rfl Z3h.nd (Zhc (pi_list (pdv hR 3))) (blkOk_by (own:=[("_law_lines",4),("_law_bad",5)]) (N:=["_law_script", "_law_place", "_law_n", "_law_rows", "_law_lines", "_law_bad"]) (sc:=defScope ZAk) (by decide +kernel)) (fun _ _ _ _ _=>(ZOg (pg_tup rfl (Z8 (Zy (pg_name (i:=4) Z3h.nd rfl (Or.inl rfl))) (Z8 (Zy (pg_name (i:=5) Z3h.nd rfl (Or.inl rfl))) Z1e))))) (by decide) (fun _ _ _ _ _=>Z4f hR pts_nil) (fun _ _ _ _ _=>(Zpk hR Zrg (Zun (ZNg (P:=P) T TB) hg (hr.mono (by decide)) rfl T.g__law_is_judged T.d__law_is_judged.F.kp T.d__law_is_judged.b (Za hR (pdv hR 4) (Za hR (pdv hR 5) Zd))))))) Zd)))) (Z0 (Z4c Z1d)) Zqk)))) rfl PassesOwn.never) (Z0 (Z4c Z1d)))
end
end PL
end
section
namespace PL
open PySem PySem.Spec PyProof.Rows L2 Ev
theorem Zxi {i : Int} {b : Nat} (h : i.natAbs < 2 ^ b) (hb : 0 < b) : i.natAbs.log2 < b:=PySem.Flt.log2_lt_of hb h
theorem ZKe {i j : Int} (h1 : i.natAbs < 2 ^ 400) (h2 : j.natAbs < 2 ^ 400) : dMul (.int i) (.int j) = some (.int (i * j)):=by
 have a:=Zxi h1 (by decide)
 have b:=Zxi h2 (by decide)
 show (if _ then _ else _) = _
 rw [if_pos (by omega)]
theorem ZKi {i j : Int} (h0 : 0 ≤ j) (h2 : j ≤ 1000) (h1 : i.natAbs < 2 ^ 400) : dPow (.int i) (.int j) = some (.int (i ^ j.toNat)):=by
 have a:=Zxi h1 (by decide)
 show (if _ then _ else _) = _
 rw [if_pos ⟨h0,h2,by omega⟩]
theorem ZZd {i j : Int} (h : 0 < j) : dMod (.int i) (.int j) = some (.int (i % j)):=by
 show (if _ then _ else _) = _
 rw [if_pos h]
theorem ZMk {i j : Int} (h : 0 < j) (h1 : j.natAbs < 2 ^ 400) : Z8k (.int i) (.int j) = some (.int (i / j)):=by
 have a:=Zxi h1 (by decide)
 show (if _ then _ else _) = _
 rw [if_pos ⟨h,by omega⟩]
theorem Z4o {α : Type} (a : α) (l : List α) : atI (a :: l) 0 = some a:=atI_nat (j:=0) rfl
theorem ZTp {α : Type} (a b : α) (l : List α) : atI (a :: b :: l) 1 = some b:=atI_nat (j:=1) rfl
theorem ZUp {α : Type} (a b c : α) (l : List α) : atI (a :: b :: c :: l) 2 = some c:=atI_nat (j:=2) rfl
structure PotOk (b : Nat) (ds : List D) : Prop where
 ex : ∃ o m c : Int,ds = [.int o,.int m,.int c] ∧ 0 ≤ o ∧ 0 ≤ m ∧ m < 2305843009213693951 ∧ 0 ≤ c ∧ c + b ≤ 1000000
theorem ZWo {b : Nat} {pot : List D} {n : Int} {cs : List (List D)} {i : Nat} (hc : cs[i]? = some pot) (h : PotOk (b + 1) pot) (hn : 0 < n) (hn2 : n ≤ 1000000) : ∃ r pot',Zwb [.cell i,.int n] cs = some (.int r,cs.set i pot') ∧ 0 ≤ r ∧ r < n ∧ PotOk b pot':=by
 obtain ⟨o,m,c,rfl,h0,h1,h2,h3,h4⟩:=h
 have hs : ∀ x,(cs.set i x)[i]? = some x:=fun x=>ZFp hc
 by_cases ho : 0 < o
 ·refine ⟨o % n,[.int (o / n),.int m,.int c],?_,Int.emod_nonneg _ (by omega),Int.emod_lt_of_pos _ hn,⟨o / n,m,c,rfl,Int.ediv_nonneg h0 (by omega),h1,h2,h3,by omega⟩⟩
  have e1:=ZZd (i:=o) hn
  have e2:=ZMk (i:=o) hn (by omega)
  simp [Zwb,runF,ZGf,ZNd,ZOd,ZPd,ZQd,ZRd,Zod,fSeq,fIfS,fTst,fBin,fIxC,fVar,fC,fSet,Z4l,fRet,ZV,Zb,fNil,dInt,dGt,ho,e1,e2,hc,Z4o,ZPh]
 ·have ho' : o = 0:=by omega
  have hcell:=hc
  have hc : c + 1 ≤ 1000000:=by omega
  have b1 : (98029 * (c + 1)).natAbs < 2 ^ 400:=by
   have : (98029 * (c + 1)).natAbs ≤ 98029000000:=by omega
   exact Nat.lt_of_le_of_lt this (by decide)
  have b2 : (c + 1).natAbs < 2 ^ 400:=Nat.lt_of_le_of_lt (show (c + 1).natAbs ≤ 1000000 by omega) (by decide)
  have q2 : 0 ≤ 98029 * (c + 1) * (c + 1) ∧ 98029 * (c + 1) * (c + 1) ≤ 98029000000 * 1000000:=⟨Int.mul_nonneg (by omega) (by omega),Int.mul_le_mul (by omega) hc (by omega) (by omega)⟩
  have b3 : (m + 98029 * (c + 1) * (c + 1) + 43).natAbs < 2 ^ 400:=Nat.lt_of_le_of_lt (show (m + 98029 * (c + 1) * (c + 1) + 43).natAbs ≤ 2305843009213693951 + 98029000000 * 1000000 + 43 by omega) (by decide)
  have e1 : dMul (.int 98029) (.int (c + 1)) = some (.int (98029 * (c + 1))):=ZKe (by decide) b2
  have e2 : dMul (.int (98029 * (c + 1))) (.int (c + 1)) = some (.int (98029 * (c + 1) * (c + 1))):=ZKe b1 b2
  have e3 : dPow (.int (m + 98029 * (c + 1) * (c + 1) + 43)) (.int 3) = some (.int ((m + 98029 * (c + 1) * (c + 1) + 43) ^ 3)):=ZKi (by decide) (by decide) b3
  have e4 : dMod (.int (c + 1)) (.int 5) = some (.int ((c + 1) % 5)):=ZZd (by decide)
  have fin : ∀ pr : Int,0 < pr → pr < 2147483648 → dIx (.lst [D.int 2147483647,.int 2147483629,.int 2147483587,.int 2147483579,.int 2147483563]) (.int ((c + 1) % 5)) = some (.int pr) →
    ∃ r pot',Zwb [.cell i,.int n] cs = some (.int r,cs.set i pot') ∧ 0 ≤ r ∧ r < n ∧ PotOk b pot':=fun pr hp1 hp2 e5=>by
   have hx : 0 ≤ (m + 98029 * (c + 1) * (c + 1) + 43) ^ 3 % pr ∧ (m + 98029 * (c + 1) * (c + 1) + 43) ^ 3 % pr < pr:=⟨Int.emod_nonneg _ (by omega),Int.emod_lt_of_pos _ hp1⟩
   have e6 : dMod (.int ((m + 98029 * (c + 1) * (c + 1) + 43) ^ 3)) (.int pr) = some (.int ((m + 98029 * (c + 1) * (c + 1) + 43) ^ 3 % pr)):=ZZd hp1
   generalize (m + 98029 * (c + 1) * (c + 1) + 43) ^ 3 % pr = y at *
   have hy : 0 ≤ y % 10067 + 97 * (c + 1) ∧ y % 10067 + 97 * (c + 1) ≤ 200000000:=by omega
   have e7 : dMod (.int y) (.int 10067) = some (.int (y % 10067)):=ZZd (by decide)
   have e8 : dMul (.int 97) (.int (c + 1)) = some (.int (97 * (c + 1))):=ZKe (by decide) b2
   have e9 : dMul (.int y) (.int (y % 10067 + 97 * (c + 1))) = some (.int (y * (y % 10067 + 97 * (c + 1)))):=ZKe (Nat.lt_of_le_of_lt (show y.natAbs ≤ 2147483648 by omega) (by decide)) (Nat.lt_of_le_of_lt (show (y % 10067 + 97 * (c + 1)).natAbs ≤ 200000000 by omega) (by decide))
   have e10 : dMod (.int (y * (y % 10067 + 97 * (c + 1)))) (.int 2305843009213693907) = some (.int (y * (y % 10067 + 97 * (c + 1)) % 2305843009213693907)):=ZZd (by decide)
   have hz : 0 ≤ y * (y % 10067 + 97 * (c + 1)) % 2305843009213693907:=Int.emod_nonneg _ (by decide)
   generalize y * (y % 10067 + 97 * (c + 1)) % 2305843009213693907 = z at *
   have e11 : Z8k (.int z) (.int 131) = some (.int (z / 131)):=ZMk (by decide) (by decide)
   have e12 : dMod (.int (z / 131)) (.int n) = some (.int (z / 131 % n)):=ZZd hn
   refine ⟨z / 131 % n,[.int o,.int m,.int (c + 1)],?_,Int.emod_nonneg _ (by omega),Int.emod_lt_of_pos _ hn,⟨o,m,c + 1,rfl,h0,h1,h2,by omega,by omega⟩⟩
   simp [Zwb,runF,ZGf,ZNd,ZOd,ZPd,ZQd,ZRd,Zod,fSeq,fIfS,fTst,fBin,fIxC,fVar,fC,fSet,Z4l,fRet,ZV,Zb,fNil,Z9k,fFz,ZG,dInt,dGt,dAdd,ho,e1,e2,e3,e4,e5,e6,e7,e8,e9,e10,e11,e12,hcell,hs,Z4o,ZTp,ZUp,ZPh]
  have h5 : (c + 1) % 5 = 0 ∨ (c + 1) % 5 = 1 ∨ (c + 1) % 5 = 2 ∨ (c + 1) % 5 = 3 ∨ (c + 1) % 5 = 4:=by omega
  rcases h5 with h | h | h | h | h
  ·exact fin 2147483647 (by decide) (by decide) (by rw [h]; rfl)
  ·exact fin 2147483629 (by decide) (by decide) (by rw [h]; rfl)
  ·exact fin 2147483587 (by decide) (by decide) (by rw [h]; rfl)
  ·exact fin 2147483579 (by decide) (by decide) (by rw [h]; rfl)
  ·exact fin 2147483563 (by decide) (by decide) (by rw [h]; rfl)
theorem Zbn {i j : Int} (h1 : i.natAbs < 2 ^ 4000) (h2 : j.natAbs < 2 ^ 4000) : dMul (.int i) (.int j) = some (.int (i * j)):=by
 have a:=Zxi h1 (by decide)
 have b:=Zxi h2 (by decide)
 show (if _ then _ else _) = _
 rw [if_pos (by omega)]
theorem ZCp : ∃ P : Int,0 < P ∧ P.natAbs < 2 ^ 4000 ∧ fBin dPow (fBin dPow (fC (.int 10)) (fC (.int 60))) (fC (.int 5)) = fC (.int P):=by
 refine ⟨((10 : Int) ^ (60 : Int).toNat) ^ (5 : Int).toNat,by decide,by decide,?_⟩
 funext s
 have a1 : dPow (.int 10) (.int 60) = some (.int (10 ^ (60 : Int).toNat)):=ZKi (by decide) (by decide) (by decide)
 have a2 : dPow (.int (10 ^ (60 : Int).toNat)) (.int 5) = some (.int ((10 ^ (60 : Int).toNat) ^ (5 : Int).toNat)):=ZKi (by decide) (by decide) (by decide)
 show ((fBin dPow (fC (.int 10)) (fC (.int 60)) s).bind _) = _
 have e : fBin dPow (fC (.int 10)) (fC (.int 60)) s = some (.int (10 ^ (60 : Int).toNat),s):=by
  show (((dPow (.int 10) (.int 60)).map fun z=>(z,s)) : Option (D × S)) = _
  rw [a1]
  rfl
 rw [e]
 show (((dPow (.int (10 ^ (60 : Int).toNat)) (.int 5)).map fun z=>(z,s)) : Option (D × S)) = _
 rw [a2]
 rfl
theorem ZNo : ∃ P : Int,fBin dPow (fC (.int 10)) (fC (.int 18)) = fC (.int P):=by
 refine ⟨(10 : Int) ^ (18 : Int).toNat,?_⟩
 funext s
 show (((dPow (.int 10) (.int 18)).map fun z=>(z,s)) : Option (D × S)) = _
 rw [ZKi (by decide) (by decide) (by decide)]
 rfl
theorem ZBp (ns : List Int) (p : Nat) (hp : p ≤ 1000) (cs : List (List D)) : ∃ pot,ZKc [.scr ns,.int p] cs = some (pot,cs) ∧ PotOk 1000000 pot:=by
 have fin : ∀ x : Int,(fIf (fTst (fBin dLt (fVar 1) (ZV dLen (Zb (fVar 0) fNil)))) (fBin dIx (fVar 0) (fVar 1)) (fBin dAdd (fBin dMul (fC (.int 47)) (fVar 1)) (fC (.int 20)))) ⟨[some (.d (.scr ns)),some (.d (.int p)),none,none,none],cs⟩ = some (.int x,⟨[some (.d (.scr ns)),some (.d (.int p)),none,none,none],cs⟩) → ∃ pot,ZKc [.scr ns,.int p] cs = some (pot,cs) ∧ PotOk 1000000 pot:=fun x e0=>by
  obtain ⟨PW,hP0,hP1,hP⟩:=ZCp
  obtain ⟨QW,hQ⟩:=ZNo
  generalize hy : (if x < 0 then -x else x) = y at *
  have hy0 : 0 ≤ y:=by rw [← hy]; split <;> omega
  have a4 : dMod (.int y) (.int (PW)) = some (.int (y % PW)):=ZZd hP0
  have h1 : 0 ≤ y % PW ∧ y % PW < PW:=⟨Int.emod_nonneg _ (by omega),Int.emod_lt_of_pos _ hP0⟩
  generalize y % PW = r at *
  have hr : r.natAbs < 2 ^ 4000:=by
   exact Nat.lt_of_le_of_lt (show r.natAbs ≤ PW.natAbs by omega) hP1
  have a5 : ∀ k : Int,0 ≤ k → k ≤ 1 → dMul (.int r) (.int k) = some (.int (r * k)):=fun k k0 k1=>Zbn hr (Nat.lt_of_le_of_lt (show k.natAbs ≤ 1 by omega) (by decide))
  have a6 : dMod (.int x) (.int 2305843009213693951) = some (.int (x % 2305843009213693951)):=ZZd (by decide)
  have h2 : 0 ≤ x % 2305843009213693951 ∧ x % 2305843009213693951 < 2305843009213693951:=⟨Int.emod_nonneg _ (by decide),Int.emod_lt_of_pos _ (by decide)⟩
  generalize x % 2305843009213693951 = sm at *
  have a7 : dMul (.int sm) (.int 60737) = some (.int (sm * 60737)):=ZKe (Nat.lt_of_le_of_lt (show sm.natAbs ≤ 2305843009213693951 by omega) (by decide)) (by decide)
  have a8 : dMul (.int 8015) (.int (p : Int)) = some (.int (8015 * (p : Int))):=ZKe (by decide) (Nat.lt_of_le_of_lt (show ((p : Int)).natAbs ≤ 1000 by omega) (by decide))
  have a9 : dMul (.int (8015 * (p : Int))) (.int (p : Int)) = some (.int (8015 * (p : Int) * (p : Int))):=ZKe (Nat.lt_of_le_of_lt (show (8015 * (p : Int)).natAbs ≤ 8015000 by omega) (by decide)) (Nat.lt_of_le_of_lt (show ((p : Int)).natAbs ≤ 1000 by omega) (by decide))
  have a10 : dMod (.int (sm * 60737 + 8015 * (p : Int) * (p : Int) + 83)) (.int 2305843009213693921) = some (.int ((sm * 60737 + 8015 * (p : Int) * (p : Int) + 83) % 2305843009213693921)):=ZZd (by decide)
  have h3 : 0 ≤ (sm * 60737 + 8015 * (p : Int) * (p : Int) + 83) % 2305843009213693921 ∧ (sm * 60737 + 8015 * (p : Int) * (p : Int) + 83) % 2305843009213693921 < 2305843009213693921:=⟨Int.emod_nonneg _ (by decide),Int.emod_lt_of_pos _ (by decide)⟩
  have e1 : fSet 2 (fIf (fTst (fBin dLt (fVar 1) (ZV dLen (Zb (fVar 0) fNil)))) (fBin dIx (fVar 0) (fVar 1)) (fBin dAdd (fBin dMul (fC (.int 47)) (fVar 1)) (fC (.int 20)))) ⟨[some (.d (.scr ns)),some (.d (.int p)),none,none,none],cs⟩ = some (.nx ⟨[some (.d (.scr ns)),some (.d (.int p)),some (.d (.int x)),none,none],cs⟩):=by
   unfold fSet
   rw [e0]
   rfl
  refine ⟨[.int (r * (if QW ≤ y then 1 else 0)),.int ((sm * 60737 + 8015 * (p : Int) * (p : Int) + 83) % 2305843009213693921),.int 0],?_,⟨_,_,_,rfl,?_,h3.1,by omega,by decide,by decide⟩⟩
  ·show (runO 2 5 ZCg) _ _ = _
   unfold runO ZCg
   simp only [ZZg,Z0g,Z1g,hP,hQ]
   unfold fSeq
   show ((fSet 2 _ ⟨[some (.d (.scr ns)),some (.d (.int p)),none,none,none],cs⟩).bind _).bind _ = _
   rw [e1]
   by_cases hb : QW ≤ y
   ·have a5':=a5 1 (by decide) (by decide)
    simp [fSet,fBin,fVar,fC,ZV,Zb,fNil,Zkn,ZG,dInt,dAbs,dGe,dAdd,hy,a4,a5',a6,a7,a8,a9,a10,hb]
   ·have a5':=a5 0 (by decide) (by decide)
    simp [fSet,fBin,fVar,fC,ZV,Zb,fNil,Zkn,ZG,dInt,dAbs,dGe,dAdd,hy,a4,a5',a6,a7,a8,a9,a10,hb]
  ·split <;> omega
 by_cases hl : p < ns.length
 ·refine fin (ns[p]'hl) ?_
  have e : atI ns (p : Int) = some (ns[p]'hl):=atI_nat (List.getElem?_eq_getElem hl)
  have hl' : (p : Int) < ns.length:=by omega
  simp [fIf,fTst,fBin,fVar,ZV,Zb,fNil,dLt,dLen,dIx,e,hl']
 ·refine fin (47 * p + 20) ?_
  have hl' : ¬ (p : Int) < ns.length:=by omega
  have a8 : dMul (.int 47) (.int (p : Int)) = some (.int (47 * (p : Int))):=ZKe (by decide) (Nat.lt_of_le_of_lt (show ((p : Int)).natAbs ≤ 1000 by omega) (by decide))
  simp [fIf,fTst,fBin,fVar,fC,ZV,Zb,fNil,dLt,dLen,dAdd,a8,hl']
theorem PotOk.fewer {b b' : Nat} {ds : List D} (h : PotOk b ds) (q : b' ≤ b) : PotOk b' ds:=by
 obtain ⟨o,m,c,e,h0,h1,h2,h3,h4⟩:=h
 exact ⟨o,m,c,e,h0,h1,h2,h3,by omega⟩
end PL
end
section
namespace PL
open PySem PySem.Spec PyProof.Rows L2 Ev
def ZVf (ys : List Str) : Bool:=!ys.isEmpty && (decide (ys.length ≤ 500) && (decide ((ys.map (·.length)).sum + ys.length ≤ 100000) && ys.all fun y=>decide (y.length ≤ 1000) && !y.cps.toList.contains 10))
theorem ZGj (s : Nat) : ∀ ws : List (List Nat),(TL.joinL [s] ws).length ≤ (ws.map (·.length)).sum + ws.length
 | []=>Nat.zero_le _
 | [w]=>by
  show w.length ≤ (w.length + 0) + 1
  omega
 | w :: v :: r=>by
  have ih:=ZGj s (v :: r)
  show (w ++ ([s] ++ TL.joinL [s] (v :: r))).length ≤ _
  rw [List.length_append,List.length_append,List.map_cons,List.sum_cons,List.length_cons]
  simp only [List.length_cons,List.length_nil] at ih ⊢
  omega
theorem Zwi {ys : List Str} (h : ZVf ys = true) : ys ≠ [] ∧ Zck (.str "\n") (.lst (ys.map .str)) = some (.str (Txt.join "\n" ys)) ∧ Ev.linesOf (Txt.join "\n" ys) = ys ∧ ZWj (Txt.join "\n" ys) = true:=by
 unfold ZVf at h
 simp only [Bool.and_eq_true,Bool.not_eq_true',decide_eq_true_eq,List.all_eq_true] at h
 obtain ⟨h1,h2,h3,h4⟩:=h
 have h0 : ys ≠ []:=fun z=>by rw [z] at h1; cases h1
 have hn : ∀ y ∈ ys,10 ∉ y.cps.toList:=fun y hy z=>by
  have q:=(h4 y hy).2
  rw [List.contains_iff_mem.mpr z] at q
  cases q
 have el:=Zfl h0 hn
 have one : (("\n" : Str)).length = 1:=by decide +kernel
 have ej : Txt.join "\n" ys = SX.S (TL.joinL [10] (ys.map fun y=>y.cps.toList)):=by
  have q:=SX.join_S [10] (ys.map fun y=>y.cps.toList)
  have e : ys = (ys.map fun y=>y.cps.toList).map SX.S:=by
   rw [List.map_map]
   exact (List.map_id' ys).symm
  rw [← e] at q
  have en : ("\n" : Str) = SX.S [10]:=by decide +kernel
  rw [en]
  exact q
 have lj : (Txt.join "\n" ys).length ≤ (ys.map (·.length)).sum + ys.length:=by
  have q:=ZGj 10 (ys.map fun y=>y.cps.toList)
  rw [ej,SX.S_len]
  rw [List.map_map,List.length_map] at q
  exact q
 refine ⟨h0,Zan (by rw [one]; omega),el,?_⟩
 unfold ZWj
 have el : Ev.linesOf (Txt.join "\n" ys) = ys:=el
 rw [el,decide_eq_true (by omega),decide_eq_true (by omega)]
 exact List.all_eq_true.mpr fun y hy=>decide_eq_true (by have:=(h4 y hy).1; omega)
theorem Zlm {ys : List Str} (h : ZVf ys = true) : (Znj (ys.map fun y=>y.cps.toList) = none → ∃ d,mkB (.str (Txt.join "\n" ys)) = some (.ok d)) ∧ ∀ k,Znj (ys.map fun y=>y.cps.toList) = some k → mkB (.str (Txt.join "\n" ys)) = some (.ex 0 (.int ((ys.length : Int) - k + 1))):=by
 obtain ⟨h0,h1,h2,h3⟩:=Zwi h
 rw [← ZHn]
 unfold mkB
 dsimp only
 rw [if_pos h3,h2]
 unfold ZIn
 cases Zib ys with
 | ok B=>exact ⟨fun _=>⟨_,rfl⟩,fun k e=>nomatch e⟩
 | error k=>
  refine ⟨fun e=>(nomatch e),fun k' e=>?_⟩
  cases e
  rfl
theorem Z3k {fb : FE} {s s1 : S} {r : RX} (h : fb s = some (r,s1)) : Zal fb s = some (outT r,s1):=by unfold Zal; rw [h]; rfl
theorem Z3l {fl : FO} {s s1 : S} {d : D} {r : RX} (h : fl s = some ([d],s1)) (h2 : mkB d = some r) : fMkB fl s = some (r,s1):=by
 unfold fMkB
 rw [h,Option.bind_some]
 dsimp only
 rw [h2]
 rfl
def ZHg (ys : List Str) : D:=match Znj (ys.map fun y=>y.cps.toList) with
 | none=>.non
 | some k=>.err 0 (.int ((ys.length : Int) - k + 1))
theorem Zxj {ys : List Str} (h : ZVf ys = true) {s : S} {fa : FD} (ha : fa s = some (.lst (ys.map .str),s)) : fBin dIx (Zal (fMkB (Zb (fBin Zck (fC (.str "\n")) fa) fNil))) (fC (.int 0)) s = some (ZHg ys,s):=by
 obtain ⟨_,h1,_,_⟩:=Zwi h
 obtain ⟨m1,m2⟩:=Zlm h
 have fl : Zb (fBin Zck (fC (.str "\n")) fa) fNil s = some ([.str (Txt.join "\n" ys)],s):=ZZe (Zvc (d:=.str "\n") rfl ha h1) rfl
 unfold ZHg
 cases e : Znj (ys.map fun y=>y.cps.toList) with
 | none=>
  obtain ⟨d,m⟩:=m1 e
  exact Zvc (Z3k (Z3l fl m)) rfl rfl
 | some k=>exact Zvc (Z3k (Z3l fl (m2 k e))) rfl rfl
def abcL : List Str:=["a", "b", "c", "d", "e", "f", "g", "h", "i", "j", "k", "l", "m", "n", "o", "p", "q", "r", "s", "t", "u", "v", "w", "x", "y", "z"]
def ZXp (k : Nat) : List Str:=(List.range 10).map fun j=>abcL.getD ((k + 5 * j) % 26) ""
def ZQe (k : Nat) : D:=.lst ((ZXp k).map .str)
theorem Zqo (k : Nat) (hk : k < 26) (i : Nat) (cs : List (List D)) : Z3d ⟨[some (.d (.cell i)),some (.d (.lst (abcL.map .str))),some (.d (.int (k : Int))),none],cs⟩ = some (.rt (ZQe k) ⟨[some (.d (.cell i)),some (.d (.lst (abcL.map .str))),some (.d (.int (k : Int))),none],cs⟩):=by
 rcases (show k = 0 ∨ k = 1 ∨ k = 2 ∨ k = 3 ∨ k = 4 ∨ k = 5 ∨ k = 6 ∨ k = 7 ∨ k = 8 ∨ k = 9 ∨ k = 10 ∨ k = 11 ∨ k = 12 ∨ k = 13 ∨ k = 14 ∨ k = 15 ∨ k = 16 ∨ k = 17 ∨ k = 18 ∨ k = 19 ∨ k = 20 ∨ k = 21 ∨ k = 22 ∨ k = 23 ∨ k = 24 ∨ k = 25 by omega) with
  rfl | rfl | rfl | rfl | rfl | rfl | rfl | rfl | rfl | rfl | rfl | rfl | rfl | rfl | rfl | rfl | rfl | rfl | rfl | rfl | rfl | rfl | rfl | rfl | rfl | rfl <;> kernel_rfl
theorem Zel {b : Nat} {pot : List D} {cs : List (List D)} {i : Nat} (hc : cs[i]? = some pot) (h : PotOk (b + 1) pot) : ∃ k pot',k < 26 ∧ ZKb [.cell i] cs = some (ZQe k,cs.set i pot'):=by
 obtain ⟨r,pot',e,r0,r1,_⟩:=ZWo hc h (n:=26) (by decide) (by decide)
 obtain ⟨k,rfl⟩ : ∃ k : Nat,r = (k : Int):=⟨r.toNat,by omega⟩
 refine ⟨k,pot',by omega,?_⟩
 have e1 : fTup (Zb (fFz (ZCj ZNk (Zb (fC (.str "abcdefghijklmnopqrstuvwxyz")) fNil))) (Zb (fFn Zwb (Zb (fVar 0) (Zb (fC (.int 26)) fNil))) fNil)) ⟨[some (.d (.cell i)),none,none,none],cs⟩ =
   some (.tup [.lst (abcL.map .str),.int (k : Int)],⟨[some (.d (.cell i)),none,none,none],cs.set i pot'⟩):=by
  refine Zjo (ZZe (d:=.lst (abcL.map .str)) (s1:=⟨[some (.d (.cell i)),none,none,none],cs⟩) ?_ (ZZe (ZKh (ds:=[.cell i,.int 26]) (s1:=⟨[some (.d (.cell i)),none,none,none],cs⟩) rfl e) rfl)) (by show 2 ≤ 100000; decide)
  exact Z1l (ZZl (ds:=[.str "abcdefghijklmnopqrstuvwxyz"]) rfl (by kernel_rfl))
 refine Z1h (n:=4) (s:=⟨[some (.d (.cell i)),some (.d (.lst (abcL.map .str))),some (.d (.int (k : Int))),none],cs.set i pot'⟩) rfl (ZNe (s1:=⟨[some (.d (.cell i)),some (.d (.lst (abcL.map .str))),some (.d (.int (k : Int))),none],cs.set i pot'⟩) ?_ (Zqo k (by omega) i _))
 exact (congrArg (fun o=>Option.bind o fun p=>(gTp 2 (gCn (gNm 1) (gCn (gNm 2) gNl)) p.1 p.2).map Out.nx) e1).trans rfl
end PL
end
section
namespace PL
open PySem PySem.Spec PyProof.Rows L2 Ev
def dueP (ls : List D) (bad : D) : Option D:=match bad with
 | .non=>dAdd (.int ls.length) (.int 1)
 | b=>(ZHh (.lst ls.reverse) b).bind fun i=>dSub (.int ls.length) i
def Z1n (ys : List Str) (n : Int) : Bool:=match Znj (ys.map fun y=>y.cps.toList) with
 | some k=>decide ((ys.length : Int) - k + 1 = n)
 | none=>false
def Zfn (ys : List Str) (d : Option D) : Bool:=match d with
 | some (.int n)=>decide (0 ≤ n) && (decide (n ≤ 1000) && Z1n ys n)
 | _=>false
def ZPo (r : D) : Bool:=match r with
 | .tup [.lst ls,.str b]=>match ZIf D.isStr ls with
  | some ys=>ZVf ys && (if b = "" then (Znj (ys.map fun y=>y.cps.toList)).isNone else Zfn ys (dueP ls (.str b)))
  | none=>false
 | .tup [.lst ls,.non]=>match ZIf D.isStr ls with
  | some ys=>ZVf ys && Zfn ys (dueP ls .non)
  | none=>false
 | _=>false
def Z5p (k : Nat) : Option D:=(Z5 [ZQe k]).bind fun a=>(Z4 [ZQe k]).bind fun b=>(dAdd a b).bind fun ab=>(ZU [ZQe k]).bind fun c=>dAdd ab c
def Zcb (k : Nat) : Bool:=match Z5p k with
 | some (.lst rows)=>decide (rows.length < 1000) && rows.all ZPo
 | _=>false
theorem ZCm : Zcb 0 = true:=by decide +kernel
theorem ZDm : Zcb 1 = true:=by decide +kernel
theorem ZEm : Zcb 2 = true:=by decide +kernel
theorem ZFm : Zcb 3 = true:=by decide +kernel
theorem ZGm : Zcb 4 = true:=by decide +kernel
theorem ZHm : Zcb 5 = true:=by decide +kernel
theorem ZIm : Zcb 6 = true:=by decide +kernel
theorem ZJm : Zcb 7 = true:=by decide +kernel
theorem ZKm : Zcb 8 = true:=by decide +kernel
theorem ZLm : Zcb 9 = true:=by decide +kernel
theorem Zll : Zcb 10 = true:=by decide +kernel
theorem Zml : Zcb 11 = true:=by decide +kernel
theorem Znl : Zcb 12 = true:=by decide +kernel
theorem Zol : Zcb 13 = true:=by decide +kernel
theorem Zpl : Zcb 14 = true:=by decide +kernel
theorem Zql : Zcb 15 = true:=by decide +kernel
theorem Zrl : Zcb 16 = true:=by decide +kernel
theorem Zsl : Zcb 17 = true:=by decide +kernel
theorem Ztl : Zcb 18 = true:=by decide +kernel
theorem Zul : Zcb 19 = true:=by decide +kernel
theorem Zvl : Zcb 20 = true:=by decide +kernel
theorem Zwl : Zcb 21 = true:=by decide +kernel
theorem Zxl : Zcb 22 = true:=by decide +kernel
theorem Zyl : Zcb 23 = true:=by decide +kernel
theorem Zzl : Zcb 24 = true:=by decide +kernel
theorem ZAl : Zcb 25 = true:=by decide +kernel
theorem ZQo (k : Nat) (hk : k < 26) : Zcb k = true:=by
 rcases (show k = 0 ∨ k = 1 ∨ k = 2 ∨ k = 3 ∨ k = 4 ∨ k = 5 ∨ k = 6 ∨ k = 7 ∨ k = 8 ∨ k = 9 ∨ k = 10 ∨ k = 11 ∨ k = 12 ∨ k = 13 ∨ k = 14 ∨ k = 15 ∨ k = 16 ∨ k = 17 ∨ k = 18 ∨ k = 19 ∨ k = 20 ∨ k = 21 ∨ k = 22 ∨ k = 23 ∨ k = 24 ∨ k = 25 by omega) with rfl | rfl | rfl | rfl | rfl | rfl | rfl | rfl | rfl | rfl | rfl | rfl | rfl | rfl | rfl | rfl | rfl | rfl | rfl | rfl | rfl | rfl | rfl | rfl | rfl | rfl
 ·exact ZCm
 ·exact ZDm
 ·exact ZEm
 ·exact ZFm
 ·exact ZGm
 ·exact ZHm
 ·exact ZIm
 ·exact ZJm
 ·exact ZKm
 ·exact ZLm
 ·exact Zll
 ·exact Zml
 ·exact Znl
 ·exact Zol
 ·exact Zpl
 ·exact Zql
 ·exact Zrl
 ·exact Zsl
 ·exact Ztl
 ·exact Zul
 ·exact Zvl
 ·exact Zwl
 ·exact Zxl
 ·exact Zyl
 ·exact Zzl
 ·exact ZAl
theorem Zhn {fa fb : FD} {s s1 : S} {o : Option (D × S)} (h : fa s = some (.bl true,s1)) (h2 : fb s1 = o) : Zgn fa fb s = o:=by unfold Zgn; rw [h]; exact h2
theorem Zui {g : D → Option D} {fa : FD} {s s1 : S} {d e : D} (h : fa s = some (d,s1)) (h2 : g d = some e) : fUn g fa s = some (e,s1):=by unfold fUn; rw [h,Option.bind_some,h2]; rfl
theorem Zvi {ys : List Str} {bad : D} (hl : ZVf ys = true) (hd : Zfn ys (dueP (ys.map .str) bad) = true) (h1 : dEq bad (.str "") = some (.bl false)) (h2 : bad = .non ∨ ∃ b,bad = .str b) (cs : List (List D)) : ZO [.lst (ys.map .str),bad] cs = some (.bl true,cs):=by
 unfold Zfn at hd
 split at hd
 ·rename_i n en
  rw [Bool.and_eq_true,Bool.and_eq_true,decide_eq_true_iff,decide_eq_true_iff] at hd
  obtain ⟨b0,b1,hs⟩:=hd
  have e1:=Zxj hl (s:=⟨[some (.d (.lst (ys.map .str))),some (.d bad),none,none],cs⟩) (fa:=fVar 0) rfl
  have cb:=ZVk b0 (by omega : n ≤ 1000000)
  unfold Z1n at hs
  have ec : ZHg ys = .err 0 (.int n):=by
   unfold ZHg
   split at hs
   ·rename_i k ek
    rw [ek]
    dsimp only
    rw [of_decide_eq_true hs]
   ·cases hs
  rw [ec] at e1
  have er : ZOk [.int n] = some (.str (PyData.shown (.int n))):=by
   show (if ZTf (.int n) = true then _ else _) = _
   rw [if_pos cb]
   rfl
  have ed : fIf (fTst (fBin dIs (fVar 1) (fC .non))) (fBin dAdd (ZV dLen (Zb (fVar 0) fNil)) (fC (.int 1))) (fBin dSub (ZV dLen (Zb (fVar 0) fNil)) (fBin ZHh (fUn Zdn (fVar 0)) (fVar 1))) ⟨[some (.d (.lst (ys.map .str))),some (.d bad),some (.d (.err 0 (.int n))),none],cs⟩ =
    some (.int n,⟨[some (.d (.lst (ys.map .str))),some (.d bad),some (.d (.err 0 (.int n))),none],cs⟩):=by
   rcases h2 with rfl | ⟨b,rfl⟩
   ·exact ZTn (c:=true) (ZOi (Zvc (d:=.non) (e:=.non) rfl rfl rfl)) (by rw [if_pos rfl]; exact Zvc rfl rfl en)
   ·obtain ⟨i,ei,en⟩:=Ze en
    exact ZTn (c:=false) (ZOi (Zvc (d:=.str b) (e:=.non) rfl rfl rfl)) (by rw [if_neg Bool.false_ne_true]; exact Zvc rfl (Zvc rfl rfl ei) en)
  refine Z1h (n:=4) (s:=⟨[some (.d (.lst (ys.map .str))),some (.d bad),some (.d (.err 0 (.int n))),some (.d (.int n))],cs⟩) rfl (ZNe (ZLh e1) (ZNe (ZSn (s1:=⟨[some (.d (.lst (ys.map .str))),some (.d bad),some (.d (.err 0 (.int n))),none],cs⟩) (ZOi (Zvc (d:=bad) (e:=.str "") rfl rfl h1)) rfl) (ZNe (ZLh ed) (Z5l ?_))))
  refine Zhn (Zui rfl rfl) (Zvc (d:=.str (PyData.shown (.int n))) (e:=.str (PyData.shown (.int n))) (ZNi (ZZe (Zui (d:=.err 0 (.int n)) (e:=.int n) rfl rfl) rfl) er) (ZNi rfl er) ?_)
  show some (D.bl (decide (_ = _))) = _
  rw [decide_eq_true rfl]
 ·cases hd
theorem Zbm {r : D} (h : ZPo r = true) : ∃ ls bad,r = .tup [ls,bad] ∧ ∀ cs,ZO [ls,bad] cs = some (.bl true,cs):=by
 unfold ZPo at h
 split at h
 ·rename_i ls b
  split at h
  ·rename_i ys e
   have e:=Zyd e
   subst e
   rw [Bool.and_eq_true] at h
   obtain ⟨hl,h⟩:=h
   refine ⟨_,_,rfl,fun cs=>?_⟩
   split at h
   ·rename_i hb
    subst hb
    have e1:=Zxj hl (s:=⟨[some (.d (.lst (ys.map .str))),some (.d (.str "")),none,none],cs⟩) (fa:=fVar 0) rfl
    have ec : ZHg ys = .non:=by
     unfold ZHg
     cases ek : Znj (ys.map fun y=>y.cps.toList) with
     | none=>rfl
     | some k=>rw [ek] at h; cases h
    rw [ec] at e1
    refine Z1h (n:=4) (s:=⟨[some (.d (.lst (ys.map .str))),some (.d (.str "")),some (.d .non),none],cs⟩) rfl (ZNe (ZLh e1) ?_)
    kernel_rfl
   ·rename_i hb
    exact Zvi hl h (by show some (D.bl (decide (b = ""))) = _; rw [decide_eq_false hb]) (.inr ⟨b,rfl⟩) cs
  ·cases h
 ·rename_i ls
  split at h
  ·rename_i ys e
   have e:=Zyd e
   subst e
   rw [Bool.and_eq_true] at h
   exact ⟨_,_,rfl,fun cs=>Zvi h.1 h.2 (by kernel_rfl) (.inl rfl) cs⟩
  ·cases h
 ·cases h
abbrev natD (n : Nat) : D:=.int (n : Int)
theorem ZWk : ∀ l : List Nat,noCs (l.map natD) = true
 | []=>rfl
 | _ :: r=>ZWk r
abbrev Z4k : FS:=(fSeq (fSet 2 (fFn ZKb (Zb (Z0l (fFnO ZKc (Zb (fVar 0) (Zb (fVar 1) fNil)))) fNil))) (fSeq (fSet 3 (fBin dAdd (fBin dAdd (fFn (Z0d Z5) (Zb (fVar 2) fNil)) (fFn (Z0d Z4) (Zb (fVar 2) fNil))) (fFn (Z0d ZU) (Zb (fVar 2) fNil)))) (fIfS (fNot (fTst (ZV dAll (Zb (fFz (fLc [4,5] (fItL (fVar 3)) (gTp 2 (gCn (gNm 4) (gCn (gNm 5) gNl))) fYes (fFn ZO (Zb (fVar 4) (Zb (fVar 5) fNil))))) fNil)))) (fRet (fC (.bl false))) Z9k)))
theorem ZYo (ns : List Int) (p : Nat) (hp : p ≤ 1000) (x2 x3 : Option Sl) (cs : List (List D)) : ∃ x2' x3' cs',Z4k ⟨[some (.d (.scr ns)),some (.d (.int (p : Int))),x2,x3,none,none],cs⟩ = some (.nx ⟨[some (.d (.scr ns)),some (.d (.int (p : Int))),x2',x3',none,none],cs'⟩):=by
 obtain ⟨pot,e,h⟩:=ZBp ns p hp cs
 obtain ⟨k,pot',hk,e2⟩:=Zel (b:=0) (i:=cs.length) (cs:=cs ++ [pot]) (by simp) (h.fewer (by decide))
 have hr:=ZQo k hk
 unfold Zcb at hr
 split at hr
 ·rename_i rows er
  rw [Bool.and_eq_true,decide_eq_true_iff,List.all_eq_true] at hr
  obtain ⟨ra,ea,er⟩:=Ze er
  obtain ⟨rb,eb,er⟩:=Ze er
  obtain ⟨rab,eab,er⟩:=Ze er
  obtain ⟨rc,ec,er⟩:=Ze er
  generalize hcs : (cs ++ [pot]).set cs.length pot' = cs1 at e2
  refine ⟨some (.d (ZQe k)),some (.d (.lst rows)),cs1,?_⟩
  refine ZNe (s1:=⟨[some (.d (.scr ns)),some (.d (.int (p : Int))),some (.d (ZQe k)),x3,none,none],cs1⟩) (ZLh (s1:=⟨[some (.d (.scr ns)),some (.d (.int (p : Int))),x2,x3,none,none],cs1⟩) (ZKh (ds:=[.cell cs.length]) (s1:=⟨[some (.d (.scr ns)),some (.d (.int (p : Int))),x2,x3,none,none],cs ++ [pot]⟩)
   (ZZe (Zjn (s1:=⟨[some (.d (.scr ns)),some (.d (.int (p : Int))),x2,x3,none,none],cs⟩) (Zfo (ds:=[.scr ns,.int (p : Int)]) (s1:=⟨[some (.d (.scr ns)),some (.d (.int (p : Int))),x2,x3,none,none],cs⟩) rfl e)) rfl) e2)) ?_
  have at2 : Zb (fVar 2) fNil ⟨[some (.d (.scr ns)),some (.d (.int (p : Int))),some (.d (ZQe k)),x3,none,none],cs1⟩ = some ([ZQe k],⟨[some (.d (.scr ns)),some (.d (.int (p : Int))),some (.d (ZQe k)),x3,none,none],cs1⟩):=rfl
  refine ZNe (s1:=⟨[some (.d (.scr ns)),some (.d (.int (p : Int))),some (.d (ZQe k)),some (.d (.lst rows)),none,none],cs1⟩) (ZLh (s1:=⟨[some (.d (.scr ns)),some (.d (.int (p : Int))),some (.d (ZQe k)),x3,none,none],cs1⟩) (Zvc (Zvc (ZKh at2 (Zuh ea)) (ZKh at2 (Zuh eb)) eab) (ZKh at2 (Zuh ec)) er)) ?_
  have el : (rows.map fun _=>D.bl true) = (List.replicate rows.length true).map D.bl:=by
   rw [List.map_replicate,List.map_const']
  have lc:=Zpo (e:=[some (.d (.scr ns)),some (.d (.int (p : Int))),some (.d (ZQe k)),some (.d (.lst rows)),none,none]) (c:=cs1) (vs:=[4,5]) (g:=gTp 2 (gCn (gNm 4) (gCn (gNm 5) gNl))) (fe:=fFn ZO (Zb (fVar 4) (Zb (fVar 5) fNil))) (r:=fun _=>D.bl true) rows (fun x hx=>by
   obtain ⟨ls,bad,rfl,hj⟩:=Zbm (hr.2 x hx)
   exact ⟨⟨[some (.d (.scr ns)),some (.d (.int (p : Int))),some (.d (ZQe k)),some (.d (.lst rows)),some (.d ls),some (.d bad)],cs1⟩,rfl,ZKh (ds:=[ls,bad]) (s1:=⟨[some (.d (.scr ns)),some (.d (.int (p : Int))),some (.d (ZQe k)),some (.d (.lst rows)),some (.d ls),some (.d bad)],cs1⟩) rfl (hj cs1),rfl,rfl⟩)
  rw [el] at lc
  refine ZSn (s1:=⟨[some (.d (.scr ns)),some (.d (.int (p : Int))),some (.d (ZQe k)),some (.d (.lst rows)),none,none],cs1⟩) ?_ rfl
  refine Zio (c:=true) (ZOi (ZNi (ZZe (Z1l (Z9o (l:=rows) (s1:=⟨[some (.d (.scr ns)),some (.d (.int (p : Int))),some (.d (ZQe k)),some (.d (.lst rows)),none,none],cs1⟩) (Z2l rfl) (by omega) lc)) rfl) (ZQl _)))
 ·cases hr
theorem Zjp (ns : List Int) : ∀ ps : List Nat,(∀ p ∈ ps,p ≤ 1000) → ∀ (a1 a2 a3 : Option Sl) (cs : List (List D)),∃ b1 b2 b3 cs',ZDj (gNm 1) Z4k (ps.map natD) ⟨[some (.d (.scr ns)),a1,a2,a3,none,none],cs⟩ = some (.nx ⟨[some (.d (.scr ns)),b1,b2,b3,none,none],cs'⟩):=by
 intro ps
 induction ps with
 | nil=>exact fun _ a1 a2 a3 cs=>⟨a1,a2,a3,cs,rfl⟩
 | cons p r ih=>
  intro h a1 a2 a3 cs
  obtain ⟨a2',a3',cs',e1⟩:=ZYo ns p (h p List.mem_cons_self) a2 a3 cs
  obtain ⟨b1,b2,b3,c2,e2⟩:=ih (fun p hp=>h p (List.mem_cons_of_mem _ hp)) (some (.d (.int p))) a2' a3' cs'
  exact ⟨b1,b2,b3,c2,Zdl (s1:=⟨[some (.d (.scr ns)),some (.d (.int p)),a2,a3,none,none],cs⟩) rfl e1 e2⟩
theorem Z8m (ns : List Int) : ∃ ps : List Nat,(∀ p ∈ ps,p ≤ 1000) ∧ Zfd [.scr ns,.int 3] = some (.lst (ps.map natD)):=by
 refine ⟨List.range (max 1 (min 3 ns.length)),fun p hp=>by have:=List.mem_range.1 hp; omega,?_⟩
 have e : ∀ k : Nat,rngD 0 k = (List.range k).map natD:=fun k=>by
  unfold rngD
  rw [show ((k : Int) - 0).toNat = k by omega]
  refine List.map_congr_left fun p _=>?_
  rw [Int.zero_add]
 have hm : (if ((if (ns.length : Int) < 3 then (ns.length : Int) else 3)) > 1 then (if (ns.length : Int) < 3 then (ns.length : Int) else 3) else 1) = ((max 1 (min 3 ns.length) : Nat) : Int):=by
  split <;> split <;> omega
 refine Zzm (cs:=[]) rfl ?_ (show noCs _ = true from ZWk _)
 have hk : ((max 1 (min 3 ns.length) : Nat) : Int) ≤ 100000:=by omega
 have h0 : (0 : Int) ≤ ((max 1 (min 3 ns.length) : Nat) : Int):=by omega
 generalize max 1 (min 3 ns.length) = k at *
 have e1 : (ZV ZSl (Zb (fC (.int 1)) (Zb (ZV ZTl (Zb (fVar 1) (Zb (ZV dLen (Zb (fVar 0) fNil)) fNil))) fNil))) (⟨Zod 2 [.scr ns,.int 3],[]⟩ : S) = some (.int (k : Int),⟨Zod 2 [.scr ns,.int 3],[]⟩):=by
  rw [← hm]
  rfl
 have e2 : fLrg (ZV ZSl (Zb (fC (.int 1)) (Zb (ZV ZTl (Zb (fVar 1) (Zb (ZV dLen (Zb (fVar 0) fNil)) fNil))) fNil))) (⟨Zod 2 [.scr ns,.int 3],[]⟩ : S) = some (rngD 0 k,⟨Zod 2 [.scr ns,.int 3],[]⟩):=by
  unfold fLrg
  rw [e1]
  show (if _ then _ else _) = _
  rw [if_pos ⟨h0,hk⟩]
 exact Z1h (n:=2) (s:=⟨Zod 2 [.scr ns,.int 3],[]⟩) rfl (Z5l (Z1l (e2.trans (by rw [e k]))))
theorem Zkp (ns : List Int) : ∃ cs',Z2o [.scr ns] [] = some (.bl true,cs'):=by
 obtain ⟨ps,hp,e1⟩:=Z8m ns
 obtain ⟨a1,a2,a3,cs',e2⟩:=Zjp ns ps hp none none none []
 refine ⟨cs',?_⟩
 refine Z1h (n:=6) (s:=⟨[some (.d (.scr ns)),a1,a2,a3,none,none],cs'⟩) rfl (ZNe (Zgo (l:=ps.map natD) (s1:=⟨[some (.d (.scr ns)),none,none,none,none,none],[]⟩) (Z2l (ZKh (ds:=[.scr ns,.int 3]) (s1:=⟨[some (.d (.scr ns)),none,none,none,none,none],[]⟩) rfl (Zuh e1))) e2) rfl)
end PL
end
section
namespace PL
open PySem PySem.Spec PyProof.Rows L2 Ev NdefX LamX
section
variable {P : Program} [OkPr P] {w : World} {K : PySem.W.Frag} {mg : Str → Option Value} {base : Heap}
def spLaw (pT : Addr) (K : PySem.W.Frag) : Sp:=fun vs H Q _=>∃ (a : Addr) (ns : List Int),vs = [.ref a] ∧ SqL K H a (ns.map V.int) ∧ ns.length ≤ 63 ∧ H pT = some (.tbl #[]) ∧ ∀ H',Q (.bl true) H'
theorem Zxo (T : Txt K mg) (TB : TabB base mg T.c__law_is_judged T.p__law_is_judged) : FnG P w K mg base 24 T.d_law.f T.d_law.fd ["_law_script"] (spLaw T.p__law_is_judged K):=by
 refine (Zrp T TB).weak fun vs H Q E h=>?_
 obtain ⟨a,ns,rfl,hS,hl,hT,k⟩:=h
 obtain ⟨cs',e⟩:=Zkp ns
 have gg : Same (fun b=>if b = T.p__law_is_judged then none else H b) H:=fun b o q=>by
  by_cases z : b = T.p__law_is_judged
  ·rw [show (fun b=>if b = T.p__law_is_judged then none else H b) b = none from if_pos z] at q
   cases q
  ·rw [show (fun b=>if b = T.p__law_is_judged then none else H b) b = H b from if_neg z] at q
   exact q
 have gk : ∀ b o,H b = some o → notT o → (fun b=>if b = T.p__law_is_judged then none else H b) b = some o:=fun b o q n=>by
  have z : b ≠ T.p__law_is_judged:=fun z=>by rw [z,hT] at q; exact n _ (Option.some.inj q).symm
  rw [show (fun b=>if b = T.p__law_is_judged then none else H b) b = H b from if_neg z]
  exact q
 have hS' : SqL K (fun b=>if b = T.p__law_is_judged then none else H b) a (ns.map V.int):=by
  rcases hS with (z | ⟨o,z⟩) | z
  ·exact .inl (.inl (gk _ _ z (fun _ q=>by cases q)))
  ·exact .inl (.inr ⟨o,gk _ _ z (fun _ q=>by cases q)⟩)
  ·exact .inr z
 refine ⟨_,[],[.scr ns],[],.bl true,cs',rfl,gg,?_,.cons (.scr hS') .nil,e,fun v G' ρ' H' _ _ _ r=>by cases r; exact k H'⟩
 refine ⟨fun b o q t=>gk b o q (fun _ z=>by rw [z] at t; cases t),List.nodup_nil,rfl,(fun a ha=>by cases ha),(fun i a ds e=>by cases e),(fun i a c es e=>by cases e),fun P' q hq=>?_,(fun i a ks vs e=>by cases e),fun i a ks vs e=>by cases e⟩
 have hq:=List.mem_singleton.mp hq
 cases hq
 exact ⟨if_pos rfl,#[],hT,True.intro,fun pos cv z=>by simp [codeAmong] at z⟩
end
abbrev sPE : Stmt:=inClass (top 2) 0
theorem scPE : NdefX.NScope iN iP iC (C8.fnScope sPE):=NdefX.nscope_by (by decide +kernel)
def ZZo {K : PySem.W.Frag} {h : Heap} {mg : Str → Option Value} (X : K.In h) (G : h.Ns mainGlobals mg) {X0 X1 X2 X3 X4 fx ccx cax : Addr} {ocx dcx pmx ctx clx oclx : Value} {odx cldx cddx : Option Addr} {slx cslx ccsx : Array (Option Value)} {vsx : Array Value} {tfx : Tok}
  (xa0 : PySem.W.nsIn K mainGlobals "BadBoard" = some (some (.ref X0)))
  (xa1 : PySem.W.nsIn K mainGlobals "NoTrack" = some (some (.ref X1)))
  (xa2 : PySem.W.nsIn K mainGlobals "NoButton" = some (some (.ref X2)))
  (xa3 : PySem.W.nsIn K mainGlobals "LastButton" = some (some (.ref X3)))
  (xa4 : PySem.W.nsIn K mainGlobals "PressError" = some (some (.ref X4)))
  (xi : PySem.W.findIn K (.ref X4) "__init__" = some (some (.ref fx)))
  (xl : K.lookup fx = some ⟨ocx,odx,.func (PySem.W.fnX "__init__" "PressError.__init__" (C8.fnArgs sPE) (C8.fnBody sPE) (C8.fnScope sPE) [(("__class__" : Str),ccx)] .none .none dcx pmx none (.ref cax) ctx),slx⟩)
  (xc : PySem.W.codeIn K (.ref cax) "PressError.__init__" = true)
  (xk : K.lookup ccx = some ⟨clx,cldx,.cell (some (.ref X4)),cslx⟩)
  (xo : K.lookup cax = some ⟨oclx,cddx,.fields vsx,ccsx⟩)
  (xv : vsx[2]? = some (.str "/claim/cut.py" tfx))
  (xz : PySem.W.nsIn K mainGlobals "super" = some none)
  (xe : Ev.errsN K X4 fx [X0,X1,X2,X3,X4] = true)
  (z17 : PySem.W.nsIn K mainGlobals "repr" = some none) : TxtN ZQk K mg where
 f:=fx
 D:=X4
 Fi:=⟨"__init__", "PressError.__init__",C8.fnArgs sPE,C8.fnBody sPE,C8.fnScope sPE,[(("__class__" : Str),ccx)],cax⟩
 doc:=dcx
 pm:=pmx
 ctv:=ctx
 U:=fun P ok=>⟨⟨_,_,_,xl⟩,xc,⟨ccx,_,_,_,rfl,xk⟩,⟨_,_,_,_,_,_,_,_,_,_,_,_,rfl,rfl⟩,scPE,rfl,rfl,⟨_,rfl,rfl⟩,⟨_,_,_,_,_,_,xo,xv,ok.file⟩,ok.top,PySem.W.mg_none_of X G xz,PySem.W.mg_none_of X G z17⟩
 b:=fun s us _ hl=>match us,hl with | [_,_],_=>.of_eq rfl
 C:=fun j=>[X0,X1,X2,X3,X4].getD j 0
 made:=(Ev.errsN_ok xe).1
 is:=(Ev.errsN_ok xe).2.1
 by_:=(Ev.errsN_ok xe).2.2.1
 g:=fun j x e=>match j,e with
  | 0,e=>by rw [← Option.some.inj (show some ("BadBoard" : Str) = some x from e)]; exact PySem.W.mg_of X G xa0
  | 1,e=>by rw [← Option.some.inj (show some ("NoTrack" : Str) = some x from e)]; exact PySem.W.mg_of X G xa1
  | 2,e=>by rw [← Option.some.inj (show some ("NoButton" : Str) = some x from e)]; exact PySem.W.mg_of X G xa2
  | 3,e=>by rw [← Option.some.inj (show some ("LastButton" : Str) = some x from e)]; exact PySem.W.mg_of X G xa3
  | 4,e=>by rw [← Option.some.inj (show some ("PressError" : Str) = some x from e)]; exact PySem.W.mg_of X G xa4
  | _ + 5,e=>nomatch e
 tup:=(Ev.errsN_ok xe).2.2.2
 last:=fun x e=>by rw [← Option.some.inj (show some ("PressError" : Str) = some x from e)]; exact PySem.W.mg_of X G xa4
theorem Zu.nil {K : PySem.W.Frag} {C : Addr} : Zu K C []:=fun _ _ h=>by cases h
theorem Zu.cons {K : PySem.W.Frag} {C : Addr} {x : Str} {l : List Str} (h : PySem.W.findIn K (.ref C) x = some none) (r : Zu K C l) : Zu K C (x :: l):=fun i y e=>by
 cases i with
 | zero=>cases e; exact h
 | succ i=>exact r i y e
theorem Z6k {K : PySem.W.Frag} {f : Addr} {fd : FuncData} (F : Fun K "is_name" "is_name" Z5c f fd) : Binds K fd ["value"] []:=F.binds (ps:=["value"]) fun _ _ _ _ _ _ us hl=>match us,hl with | [_],_=>rfl
theorem Zuj {K : PySem.W.Frag} {f : Addr} {fd : FuncData} (F : Fun K "do_ascend" "do_ascend" ZSb f fd) : Binds K fd ["values"] []:=F.binds (ps:=["values"]) fun _ _ _ _ _ _ us hl=>match us,hl with | [_],_=>rfl
theorem Zvj {K : PySem.W.Frag} {f : Addr} {fd : FuncData} (F : Fun K "number_in" "number_in" ZTb f fd) : Binds K fd ["word"] []:=F.binds (ps:=["word"]) fun _ _ _ _ _ _ us hl=>match us,hl with | [_],_=>rfl
theorem Zlg {K : PySem.W.Frag} {f : Addr} {fd : FuncData} (F : Fun K "common_multiple" "common_multiple" ZT f fd) : Binds K fd ["one", "other"] []:=F.binds (ps:=["one", "other"]) fun _ _ _ _ _ _ us hl=>match us,hl with | [_,_],_=>rfl
theorem Z9h {K : PySem.W.Frag} {f : Addr} {fd : FuncData} (F : Fun K "__init__" "Loop.__init__" Z2b f fd) : Binds K fd ["self", "name", "length", "span", "then"] []:=F.binds (ps:=["self", "name", "length", "span", "then"]) fun _ _ _ _ _ _ us hl=>match us,hl with | [_,_,_,_,_],_=>rfl
theorem ZCh {K : PySem.W.Frag} {f : Addr} {fd : FuncData} (F : Fun K "__init__" "Track.__init__" ZNb f fd) : Binds K fd ["self", "name"] []:=F.binds (ps:=["self", "name"]) fun _ _ _ _ _ _ us hl=>match us,hl with | [_,_],_=>rfl
theorem Z9g {K : PySem.W.Frag} {f : Addr} {fd : FuncData} (F : Fun K "__init__" "Button.__init__" ZCb f fd) : Binds K fd ["self", "name", "quantum"] []:=F.binds (ps:=["self", "name", "quantum"]) fun _ _ _ _ _ _ us hl=>match us,hl with | [_,_,_],_=>rfl
theorem Z7j {K : PySem.W.Frag} {f : Addr} {fd : FuncData} (F : Fun K "words_in" "words_in" ZNc f fd) : Binds K fd ["line", "depth"] []:=F.binds (ps:=["line", "depth"]) fun _ _ _ _ _ _ us hl=>match us,hl with | [_,_],_=>rfl
theorem Zah {K : PySem.W.Frag} {f : Addr} {fd : FuncData} (F : Fun K "__init__" "Reader.__init__" ZDb f fd) : Binds K fd ["self", "lines"] []:=F.binds (ps:=["self", "lines"]) fun _ _ _ _ _ _ us hl=>match us,hl with | [_,_],_=>rfl
theorem Zbi {K : PySem.W.Frag} {f : Addr} {fd : FuncData} (F : Fun K "want" "Reader.want" Z4b f fd) : Binds K fd ["self", "is_right"] []:=F.binds (ps:=["self", "is_right"]) fun _ _ _ _ _ _ us hl=>match us,hl with | [_,_],_=>rfl
theorem ZGi {K : PySem.W.Frag} {f : Addr} {fd : FuncData} (F : Fun K "row" "Reader.row" Zqc f fd) : Binds K fd ["self", "depth"] []:=F.binds (ps:=["self", "depth"]) fun _ _ _ _ _ _ us hl=>match us,hl with | [_,_],_=>rfl
theorem Zbh {K : PySem.W.Frag} {f : Addr} {fd : FuncData} (F : Fun K "headed" "Reader.headed" ZEb f fd) : Binds K fd ["self", "depth", "head"] []:=F.binds (ps:=["self", "depth", "head"]) fun _ _ _ _ _ _ us hl=>match us,hl with | [_,_,_],_=>rfl
theorem ZEg {K : PySem.W.Frag} {f : Addr} {fd : FuncData} (F : Fun K "is_deed" "Reader.is_deed" Zrb f fd) : Binds K fd ["self", "row"] []:=F.binds (ps:=["self", "row"]) fun _ _ _ _ _ _ us hl=>match us,hl with | [_,_],_=>rfl
theorem ZFg {K : PySem.W.Frag} {f : Addr} {fd : FuncData} (F : Fun K "loop_in" "Reader.loop_in" Zsb f fd) : Binds K fd ["self", "row"] []:=F.binds (ps:=["self", "row"]) fun _ _ _ _ _ _ us hl=>match us,hl with | [_,_],_=>rfl
theorem ZPf {K : PySem.W.Frag} {f : Addr} {fd : FuncData} (F : Fun K "read_loop" "Reader.read_loop" ZN f fd) : Binds K fd ["self", "row", "track"] []:=F.binds (ps:=["self", "row", "track"]) fun _ _ _ _ _ _ us hl=>match us,hl with | [_,_,_],_=>rfl
theorem Zqf {K : PySem.W.Frag} {f : Addr} {fd : FuncData} (F : Fun K "read_track" "Reader.read_track" ZX f fd) : Binds K fd ["self", "row"] []:=F.binds (ps:=["self", "row"]) fun _ _ _ _ _ _ us hl=>match us,hl with | [_,_],_=>rfl
theorem ZJe {K : PySem.W.Frag} {f : Addr} {fd : FuncData} (F : Fun K "read_button" "Reader.read_button" ZQ f fd) : Binds K fd ["self", "row"] []:=F.binds (ps:=["self", "row"]) fun _ _ _ _ _ _ us hl=>match us,hl with | [_,_],_=>rfl
theorem Zai {K : PySem.W.Frag} {f : Addr} {fd : FuncData} (F : Fun K "read" "Reader.read" Z3b f fd) : Binds K fd ["self"] []:=F.binds (ps:=["self"]) fun _ _ _ _ _ _ us hl=>match us,hl with | [_],_=>rfl
theorem ZBh {K : PySem.W.Frag} {f : Addr} {fd : FuncData} (F : Fun K "__init__" "Board.__init__" ZMb f fd) : Binds K fd ["self", "text"] []:=F.binds (ps:=["self", "text"]) fun _ _ _ _ _ _ us hl=>match us,hl with | [_,_],_=>rfl
theorem Z6j {K : PySem.W.Frag} {f : Addr} {fd : FuncData} (F : Fun K "_law_pot" "_law_pot" ZMc f fd) : Binds K fd ["_law_script", "_law_place"] []:=F.binds (ps:=["_law_script", "_law_place"]) fun _ _ _ _ _ _ us hl=>match us,hl with | [_,_],_=>rfl
theorem Zsj {K : PySem.W.Frag} {f : Addr} {fd : FuncData} (F : Fun K "_law_take" "_law_take" Zec f fd) : Binds K fd ["_law_pot_here", "_law_upto"] []:=F.binds (ps:=["_law_pot_here", "_law_upto"]) fun _ _ _ _ _ _ us hl=>match us,hl with | [_,_],_=>rfl
theorem ZHi {K : PySem.W.Frag} {f : Addr} {fd : FuncData} (F : Fun K "_law_cells" "_law_cells" ZWb f fd) : Binds K fd ["_law_script", "_law_limit"] []:=F.binds (ps:=["_law_script", "_law_limit"]) fun _ _ _ _ _ _ us hl=>match us,hl with | [_,_],_=>rfl
theorem Ztj {K : PySem.W.Frag} {f : Addr} {fd : FuncData} (F : Fun K "_law_told" "_law_told" ZRb f fd) : Binds K fd ["_law_look"] []:=F.binds (ps:=["_law_look"]) fun _ _ _ _ _ _ us hl=>match us,hl with | [_],_=>rfl
theorem ZDh {K : PySem.W.Frag} {f : Addr} {fd : FuncData} (F : Fun K "_law_letters" "_law_letters" Zab f fd) : Binds K fd ["_law_pot_here"] []:=F.binds (ps:=["_law_pot_here"]) fun _ _ _ _ _ _ us hl=>match us,hl with | [_],_=>rfl
theorem ZGg {K : PySem.W.Frag} {f : Addr} {fd : FuncData} (F : Fun K "_law_is_judged" "_law_is_judged" ZI f fd) : Binds K fd ["_law_lines", "_law_bad"] []:=F.binds (ps:=["_law_lines", "_law_bad"]) fun _ _ _ _ _ _ us hl=>match us,hl with | [_,_],_=>rfl
theorem ZRf {K : PySem.W.Frag} {f : Addr} {fd : FuncData} (F : Fun K "_law_track_cases" "_law_track_cases" Zz f fd) : Binds K fd ["_law_n"] []:=F.binds (ps:=["_law_n"]) fun _ _ _ _ _ _ us hl=>match us,hl with | [_],_=>rfl
theorem ZQf {K : PySem.W.Frag} {f : Addr} {fd : FuncData} (F : Fun K "_law_place_cases" "_law_place_cases" ZF f fd) : Binds K fd ["_law_n"] []:=F.binds (ps:=["_law_n"]) fun _ _ _ _ _ _ us hl=>match us,hl with | [_],_=>rfl
theorem Zrf {K : PySem.W.Frag} {f : Addr} {fd : FuncData} (F : Fun K "_law_button_cases" "_law_button_cases" Zv f fd) : Binds K fd ["_law_n"] []:=F.binds (ps:=["_law_n"]) fun _ _ _ _ _ _ us hl=>match us,hl with | [_],_=>rfl
theorem Z5o {K : PySem.W.Frag} {f : Addr} {fd : FuncData} (F : Fun K "law" "law" ZAk f fd) : Binds K fd ["_law_script"] []:=F.binds (ps:=["_law_script"]) fun _ _ _ _ _ _ us hl=>match us,hl with | [_],_=>rfl
section
open PLH
theorem all_mkH {l : PySem.W.OpenLaw} [OkPr l.prog] {w : World} {K : PySem.W.Frag} {h : Heap} {mg : Str → Option Value} {fa : Addr} (X : K.In h) (G : h.Ns mainGlobals mg) (hfa : mg "law" = some (.ref fa)) (c : SaysH faH fnH fcH exH K)
  : ∃ (cT pT : Addr),PySem.W.tabIn K "_law_is_judged" = some (cT,pT) ∧ K.lookup pT = none ∧ ∃ fd : FuncData,(∀ (s : Shared) (v : Value),BindsTo s fd ⟨[v],[]⟩ [("_law_script",v)]) ∧ ∀ base : Heap,K.In base → base.Ns mainGlobals mg → LamX.TabB base mg cT pT → FnG l.prog w K mg base 24 fa fd ["_law_script"] (spLaw pT K):=by
 have e:=hfa.symm.trans (He.glo_ok X G (c.fact 7 14))
 cases e
 obtain ⟨fd0,F0⟩ : ∃ fd,Fun K "is_name" "is_name" Z5c (He.ga K "is_name") fd:=c.fun_ 0 (d:=dH0) (st:=Z5c) rfl rfl rfl rfl rfl
 obtain ⟨fd1,F1⟩ : ∃ fd,Fun K "do_ascend" "do_ascend" ZSb (He.ga K "do_ascend") fd:=c.fun_ 1 (d:=dH1) (st:=ZSb) rfl rfl rfl rfl rfl
 obtain ⟨fd2,F2⟩ : ∃ fd,Fun K "number_in" "number_in" ZTb (He.ga K "number_in") fd:=c.fun_ 2 (d:=dH2) (st:=ZTb) rfl rfl rfl rfl rfl
 obtain ⟨fd3,F3⟩ : ∃ fd,Fun K "common_multiple" "common_multiple" ZT (He.ga K "common_multiple") fd:=c.fun_ 3 (d:=dH3) (st:=ZT) rfl rfl rfl rfl rfl
 obtain ⟨fd4,F4⟩ : ∃ fd,Fun K "__init__" "Loop.__init__" Z2b (He.ma K (He.ga K "Loop") "__init__") fd:=c.fun_ 4 (d:=dH4) (st:=Z2b) rfl rfl rfl rfl rfl
 obtain ⟨fd5,F5⟩ : ∃ fd,Fun K "__init__" "Track.__init__" ZNb (He.ma K (He.ga K "Track") "__init__") fd:=c.fun_ 5 (d:=dH5) (st:=ZNb) rfl rfl rfl rfl rfl
 obtain ⟨fd6,F6⟩ : ∃ fd,Fun K "__init__" "Button.__init__" ZCb (He.ma K (He.ga K "Button") "__init__") fd:=c.fun_ 6 (d:=dH6) (st:=ZCb) rfl rfl rfl rfl rfl
 obtain ⟨fd7,F7⟩ : ∃ fd,Fun K "words_in" "words_in" ZNc (He.ga K "words_in") fd:=c.fun_ 7 (d:=dH7) (st:=ZNc) rfl rfl rfl rfl rfl
 obtain ⟨fd8,F8⟩ : ∃ fd,Fun K "__init__" "Reader.__init__" ZDb (He.ma K (He.ga K "Reader") "__init__") fd:=c.fun_ 8 (d:=dH8) (st:=ZDb) rfl rfl rfl rfl rfl
 obtain ⟨fd9,F9⟩ : ∃ fd,Fun K "want" "Reader.want" Z4b (He.ma K (He.ga K "Reader") "want") fd:=c.fun_ 9 (d:=dH9) (st:=Z4b) rfl rfl rfl rfl rfl
 obtain ⟨fd10,F10⟩ : ∃ fd,Fun K "row" "Reader.row" Zqc (He.ma K (He.ga K "Reader") "row") fd:=c.fun_ 10 (d:=dH10) (st:=Zqc) rfl rfl rfl rfl rfl
 obtain ⟨fd11,F11⟩ : ∃ fd,Fun K "headed" "Reader.headed" ZEb (He.ma K (He.ga K "Reader") "headed") fd:=c.fun_ 11 (d:=dH11) (st:=ZEb) rfl rfl rfl rfl rfl
 obtain ⟨fd12,F12⟩ : ∃ fd,Fun K "is_deed" "Reader.is_deed" Zrb (He.ma K (He.ga K "Reader") "is_deed") fd:=c.fun_ 12 (d:=dH12) (st:=Zrb) rfl rfl rfl rfl rfl
 obtain ⟨fd13,F13⟩ : ∃ fd,Fun K "loop_in" "Reader.loop_in" Zsb (He.ma K (He.ga K "Reader") "loop_in") fd:=c.fun_ 13 (d:=dH13) (st:=Zsb) rfl rfl rfl rfl rfl
 obtain ⟨fd14,F14⟩ : ∃ fd,Fun K "read_loop" "Reader.read_loop" ZN (He.ma K (He.ga K "Reader") "read_loop") fd:=c.fun_ 14 (d:=dH14) (st:=ZN) rfl rfl rfl rfl rfl
 obtain ⟨fd15,F15⟩ : ∃ fd,Fun K "read_track" "Reader.read_track" ZX (He.ma K (He.ga K "Reader") "read_track") fd:=c.fun_ 15 (d:=dH15) (st:=ZX) rfl rfl rfl rfl rfl
 obtain ⟨fd16,F16⟩ : ∃ fd,Fun K "read_button" "Reader.read_button" ZQ (He.ma K (He.ga K "Reader") "read_button") fd:=c.fun_ 16 (d:=dH16) (st:=ZQ) rfl rfl rfl rfl rfl
 obtain ⟨fd17,F17⟩ : ∃ fd,Fun K "read" "Reader.read" Z3b (He.ma K (He.ga K "Reader") "read") fd:=c.fun_ 17 (d:=dH17) (st:=Z3b) rfl rfl rfl rfl rfl
 obtain ⟨fd18,F18⟩ : ∃ fd,Fun K "__init__" "Board.__init__" ZMb (He.ma K (He.ga K "Board") "__init__") fd:=c.fun_ 18 (d:=dH18) (st:=ZMb) rfl rfl rfl rfl rfl
 obtain ⟨fd19,F19⟩ : ∃ fd,Fun K "_law_pot" "_law_pot" ZMc (He.ga K "_law_pot") fd:=c.fun_ 19 (d:=dH19) (st:=ZMc) rfl rfl rfl rfl rfl
 obtain ⟨fd20,F20⟩ : ∃ fd,Fun K "_law_take" "_law_take" Zec (He.ga K "_law_take") fd:=c.fun_ 20 (d:=dH20) (st:=Zec) rfl rfl rfl rfl rfl
 obtain ⟨fd21,F21⟩ : ∃ fd,Fun K "_law_cells" "_law_cells" ZWb (He.ga K "_law_cells") fd:=c.fun_ 21 (d:=dH21) (st:=ZWb) rfl rfl rfl rfl rfl
 obtain ⟨fd22,F22⟩ : ∃ fd,Fun K "_law_told" "_law_told" ZRb (He.ga K "_law_told") fd:=c.fun_ 22 (d:=dH22) (st:=ZRb) rfl rfl rfl rfl rfl
 obtain ⟨fd23,F23⟩ : ∃ fd,Fun K "_law_letters" "_law_letters" Zab (He.ga K "_law_letters") fd:=c.fun_ 23 (d:=dH23) (st:=Zab) rfl rfl rfl rfl rfl
 obtain ⟨fd24,F24⟩ : ∃ fd,Fun K "_law_is_judged" "_law_is_judged" ZI (He.ga K "_law_is_judged") fd:=c.fun_ 24 (d:=dH24) (st:=ZI) rfl rfl rfl rfl rfl
 obtain ⟨fd25,F25⟩ : ∃ fd,Fun K "_law_track_cases" "_law_track_cases" Zz (He.ga K "_law_track_cases") fd:=c.fun_ 25 (d:=dH25) (st:=Zz) rfl rfl rfl rfl rfl
 obtain ⟨fd26,F26⟩ : ∃ fd,Fun K "_law_place_cases" "_law_place_cases" ZF (He.ga K "_law_place_cases") fd:=c.fun_ 26 (d:=dH26) (st:=ZF) rfl rfl rfl rfl rfl
 obtain ⟨fd27,F27⟩ : ∃ fd,Fun K "_law_button_cases" "_law_button_cases" Zv (He.ga K "_law_button_cases") fd:=c.fun_ 27 (d:=dH27) (st:=Zv) rfl rfl rfl rfl rfl
 obtain ⟨fd28,F28⟩ : ∃ fd,Fun K "law" "law" ZAk (He.ga K "law") fd:=c.fun_ 28 (d:=dH28) (st:=ZAk) rfl rfl rfl rfl rfl
 obtain ⟨ocx,dcx,pmx,ctx,clx,oclx,odx,cldx,cddx,slx,cslx,ccsx,vsx,tfx,ccx,cax,xl,xc,xk,xo,xv⟩:=DefC.get (d:=cH) (c.ctor 0 rfl).1 (c.ctor 0 rfl).2
 have T0 : TxtLoop K mg:=⟨(He.ga K "Loop"),He.glo_ok X G (c.fact 0 0),He.cls_ok (c.fact 0 1),⟨_,_,F4,Z9h F4⟩,He.mkr_ok (c.fact 0 2),(Zu.cons (He.noat_ok (c.fact 0 3)) (Zu.cons (He.noat_ok (c.fact 0 4)) (Zu.cons (He.noat_ok (c.fact 0 5)) (Zu.cons (He.noat_ok (c.fact 0 6)) (Zu.cons (He.noat_ok (c.fact 0 7)) Zu.nil)))))⟩
 have T1 : TxtTrack K mg:=⟨(He.ga K "Track"),He.glo_ok X G (c.fact 1 0),He.cls_ok (c.fact 1 1),⟨_,_,F5,ZCh F5⟩,He.mkr_ok (c.fact 1 2),(Zu.cons (He.noat_ok (c.fact 1 3)) (Zu.cons (He.noat_ok (c.fact 1 4)) Zu.nil))⟩
 have T2 : TxtButton K mg:=⟨(He.ga K "Button"),He.glo_ok X G (c.fact 2 0),He.cls_ok (c.fact 2 1),⟨_,_,F6,Z9g F6⟩,He.mkr_ok (c.fact 2 2),(Zu.cons (He.noat_ok (c.fact 2 3)) (Zu.cons (He.noat_ok (c.fact 2 4)) (Zu.cons (He.noat_ok (c.fact 2 5)) Zu.nil)))⟩
 have T3 : TxtReader K mg:=⟨(He.ga K "Reader"),He.glo_ok X G (c.fact 3 0),He.cls_ok (c.fact 3 1),⟨_,_,F8,Zah F8⟩,He.mkr_ok (c.fact 3 2),(Zu.cons (He.noat_ok (c.fact 3 3)) (Zu.cons (He.noat_ok (c.fact 3 4)) (Zu.cons (He.noat_ok (c.fact 3 5)) (Zu.cons (He.noat_ok (c.fact 3 6)) (Zu.cons (He.noat_ok (c.fact 3 7)) (Zu.cons (He.noat_ok (c.fact 3 8)) Zu.nil)))))),⟨_,_,F9,Zbi F9⟩,He.meth_ok (c.fact 3 9),⟨_,_,F10,ZGi F10⟩,He.meth_ok (c.fact 3 10),⟨_,_,F11,Zbh F11⟩,He.meth_ok (c.fact 3 11),⟨_,_,F12,ZEg F12⟩,He.meth_ok (c.fact 3 12),⟨_,_,F13,ZFg F13⟩,He.meth_ok (c.fact 3 13),⟨_,_,F14,ZPf F14⟩,He.meth_ok (c.fact 3 14),⟨_,_,F15,Zqf F15⟩,He.meth_ok (c.fact 3 15),⟨_,_,F16,ZJe F16⟩,He.meth_ok (c.fact 3 16),⟨_,_,F17,Zai F17⟩,He.meth_ok (c.fact 3 17)⟩
 have T4 : TxtBoard K mg:=⟨(He.ga K "Board"),He.glo_ok X G (c.fact 4 0),He.cls_ok (c.fact 4 1),⟨_,_,F18,ZBh F18⟩,He.mkr_ok (c.fact 4 2),(Zu.cons (He.noat_ok (c.fact 4 3)) (Zu.cons (He.noat_ok (c.fact 4 4)) (Zu.cons (He.noat_ok (c.fact 4 5)) (Zu.cons (He.noat_ok (c.fact 4 6)) Zu.nil))))⟩
 have TC : TxtC mg:=⟨(by obtain ⟨t,e⟩:=He.str_ok X G (c.fact 5 0); exact ⟨_,e,t,rfl⟩),(by obtain ⟨t,e⟩:=He.str_ok X G (c.fact 5 1); exact ⟨_,e,t,rfl⟩),(by obtain ⟨t,e⟩:=He.int_ok X G (c.fact 5 2); exact ⟨_,e,t,rfl⟩),(by obtain ⟨t,e⟩:=He.int_ok X G (c.fact 5 3); exact ⟨_,e,t,rfl⟩),(by obtain ⟨t,e⟩:=He.str_ok X G (c.fact 5 4); exact ⟨_,e,t,rfl⟩),(by obtain ⟨t,e⟩:=He.str_ok X G (c.fact 5 5); exact ⟨_,e,t,rfl⟩),(by obtain ⟨t,e⟩:=He.str_ok X G (c.fact 5 6); exact ⟨_,e,t,rfl⟩),(by obtain ⟨t,e⟩:=He.str_ok X G (c.fact 5 7); exact ⟨_,e,t,rfl⟩),(by obtain ⟨t,e⟩:=He.str_ok X G (c.fact 5 8); exact ⟨_,e,t,rfl⟩),(by obtain ⟨t,e⟩:=He.str_ok X G (c.fact 5 9); exact ⟨_,e,t,rfl⟩),(by obtain ⟨t,e⟩:=He.str_ok X G (c.fact 5 10); exact ⟨_,e,t,rfl⟩),(by obtain ⟨t,e⟩:=He.str_ok X G (c.fact 5 11); exact ⟨_,e,t,rfl⟩),(by obtain ⟨t,e⟩:=He.str_ok X G (c.fact 5 12); exact ⟨_,e,t,rfl⟩),(by obtain ⟨t,e⟩:=He.str_ok X G (c.fact 5 13); exact ⟨_,e,t,rfl⟩),(by obtain ⟨t,e⟩:=He.str_ok X G (c.fact 5 14); exact ⟨_,e,t,rfl⟩),(by obtain ⟨t,e⟩:=He.str_ok X G (c.fact 5 15); exact ⟨_,e,t,rfl⟩),(by obtain ⟨t,e⟩:=He.int_ok X G (c.fact 5 16); exact ⟨_,e,t,rfl⟩),(by obtain ⟨t,e⟩:=He.int_ok X G (c.fact 5 17); exact ⟨_,e,t,rfl⟩),(by obtain ⟨t,e⟩:=He.int_ok X G (c.fact 5 18); exact ⟨_,e,t,rfl⟩),(by obtain ⟨t,e⟩:=He.int_ok X G (c.fact 5 19); exact ⟨_,e,t,rfl⟩),(by obtain ⟨t,e⟩:=He.int_ok X G (c.fact 5 20); exact ⟨_,e,t,rfl⟩),(by obtain ⟨t,e⟩:=He.int_ok X G (c.fact 5 21); exact ⟨_,e,t,rfl⟩),(by obtain ⟨t,e⟩:=He.int_ok X G (c.fact 5 22); exact ⟨_,e,t,rfl⟩),(by obtain ⟨t,e⟩:=He.int_ok X G (c.fact 5 23); exact ⟨_,e,t,rfl⟩),(He.free_ok X G (c.fact 6 0)),(He.free_ok X G (c.fact 6 1)),(He.free_ok X G (c.fact 6 2)),(He.free_ok X G (c.fact 6 3)),(He.free_ok X G (c.fact 6 4)),(He.free_ok X G (c.fact 6 5)),(He.free_ok X G (c.fact 6 6)),(He.free_ok X G (c.fact 6 7)),(He.free_ok X G (c.fact 6 8)),(He.free_ok X G (c.fact 6 9)),(He.free_ok X G (c.fact 6 10)),(He.free_ok X G (c.fact 6 11)),(He.free_ok X G (c.fact 6 12)),(He.free_ok X G (c.fact 6 13)),(He.free_ok X G (c.fact 6 14)),(He.free_ok X G (c.fact 6 15)),(He.free_ok X G (c.fact 6 16)),(He.free_ok X G (c.fact 6 17))⟩
 let D0 : DefF K "is_name" "is_name" Z5c ["value"]:=⟨_,_,F0,Z6k F0⟩
 let D1 : DefF K "do_ascend" "do_ascend" ZSb ["values"]:=⟨_,_,F1,Zuj F1⟩
 let D2 : DefF K "number_in" "number_in" ZTb ["word"]:=⟨_,_,F2,Zvj F2⟩
 let D3 : DefF K "common_multiple" "common_multiple" ZT ["one", "other"]:=⟨_,_,F3,Zlg F3⟩
 let D7 : DefF K "words_in" "words_in" ZNc ["line", "depth"]:=⟨_,_,F7,Z7j F7⟩
 let D19 : DefF K "_law_pot" "_law_pot" ZMc ["_law_script", "_law_place"]:=⟨_,_,F19,Z6j F19⟩
 let D20 : DefF K "_law_take" "_law_take" Zec ["_law_pot_here", "_law_upto"]:=⟨_,_,F20,Zsj F20⟩
 let D21 : DefF K "_law_cells" "_law_cells" ZWb ["_law_script", "_law_limit"]:=⟨_,_,F21,ZHi F21⟩
 let D22 : DefF K "_law_told" "_law_told" ZRb ["_law_look"]:=⟨_,_,F22,Ztj F22⟩
 let D23 : DefF K "_law_letters" "_law_letters" Zab ["_law_pot_here"]:=⟨_,_,F23,ZDh F23⟩
 let D24 : DefF K "_law_is_judged" "_law_is_judged" ZI ["_law_lines", "_law_bad"]:=⟨_,_,F24,ZGg F24⟩
 let D25 : DefF K "_law_track_cases" "_law_track_cases" Zz ["_law_n"]:=⟨_,_,F25,ZRf F25⟩
 let D26 : DefF K "_law_place_cases" "_law_place_cases" ZF ["_law_n"]:=⟨_,_,F26,ZQf F26⟩
 let D27 : DefF K "_law_button_cases" "_law_button_cases" Zv ["_law_n"]:=⟨_,_,F27,Zrf F27⟩
 let D28 : DefF K "law" "law" ZAk ["_law_script"]:=⟨_,_,F28,Z5o F28⟩
 let T : Txt K mg:=⟨TC,ZZo X G (ZFj (x:= "BadBoard") (c.fact 8 0)) (ZFj (x:= "NoTrack") (c.fact 8 1)) (ZFj (x:= "NoButton") (c.fact 8 2)) (ZFj (x:= "LastButton") (c.fact 8 3)) (ZFj (x:= "PressError") (c.fact 8 4)) (Zmn (c.more 0)) xl xc xk xo xv (Z7l (x:= "super") (c.fact 6 18)) (c.more 1) (Z7l (x:= "repr") (c.fact 6 17)),T0,T1,T2,T3,T4,D0,D1,D2,D3,D7,D19,D20,D21,D22,D23,D24,D25,D26,D27,D28,(He.cT K ("_law_is_judged",none)).1,(He.cT K ("_law_is_judged",none)).2,Zon (c.more 2) F24,(He.glo_ok X G (c.fact 7 0)),(He.glo_ok X G (c.fact 7 1)),(He.glo_ok X G (c.fact 7 2)),(He.glo_ok X G (c.fact 7 3)),(He.glo_ok X G (c.fact 7 4)),(He.glo_ok X G (c.fact 7 5)),(He.glo_ok X G (c.fact 7 6)),(He.glo_ok X G (c.fact 7 7)),(He.glo_ok X G (c.fact 7 8)),(He.glo_ok X G (c.fact 7 9)),(He.glo_ok X G (c.fact 7 10)),(He.glo_ok X G (c.fact 7 11)),(He.glo_ok X G (c.fact 7 12)),(He.glo_ok X G (c.fact 7 13)),(He.glo_ok X G (c.fact 7 14))⟩
 have ll:=Zoo (c.more 2)
 exact ⟨_,_,ll.1,ll.2,fd28,fun s v=>by
  obtain ⟨_,_,_,_,_,_,_,_,_,e,_,_⟩:=F28.ex
  rw [e]
  exact .of_eq rfl,fun base _ _ TB=>Zxo T TB⟩
end
instance okPrI : OkPr PySem.Challenge.rw_everypress_k03_bounds_of_boards.prog:=⟨by kernel_rfl,by kernel_rfl⟩
end PL
end
open PySem PySem.W PySem.Calls PyProof.Rows
set_option maxRecDepth 100000 in
set_option maxHeartbeats 0 in
theorem PySem.Challenge.cw_everypress_k03_bounds_of_boards_holds : PySem.Challenge.rw_everypress_k03_bounds_of_boards.Holds := by
 refine PLH.headH ?_
 refine PLH.walkGTE (l:=PySem.Challenge.rw_everypress_k03_bounds_of_boards) (n:=63) (k:=24) (x:= "_law_script") (nm:= "_law_is_judged") rfl (by decide) (by kernel_rfl) ⟨rfl,by decide,by decide⟩ (by kernel_rfl) ?F
 intro w mg fa h Y G hmg0
 obtain ⟨K,KX,c⟩:=Y
 have hmg : mg ("law" : PySem.Str) = some (.ref fa):=by
  have e : (HandSHeadRun.topDef (OpenLaw.row PySem.Challenge.rw_everypress_k03_bounds_of_boards).prog 59).name = ("law" : PySem.Str):=by kernel_rfl
  rw [← e]
  exact hmg0
 obtain ⟨cT,pT,h1,h2,fd,hb,hF⟩:=PL.all_mkH (l:=PySem.Challenge.rw_everypress_k03_bounds_of_boards) (w:=w) KX G hmg c
 exact ⟨K,cT,pT,fd,PL.spLaw pT K,KX,h1,h2,hb,hF,fun H a ns hl _ hT hS=>⟨a,ns,rfl,hS,hl,hT,fun _=>rfl⟩⟩
