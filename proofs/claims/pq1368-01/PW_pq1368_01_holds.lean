import PyProof.Rows.All
import PyProof.ExcInit
import KE.KLam
import KE.KSortKey
import Open.Tops
import Wide.FinOn
import OpenK.AllK
import Wide.All
import PySem.Challenge.RW_pq1368_01
set_option bootstrap.genMatcherCode false
set_option genSizeOf false
set_option Elab.async false
set_option linter.all false
set_option tactic.hygienic false
set_option maxRecDepth 100000
set_option Elab.async false
set_option maxRecDepth 100000
set_option linter.all false
set_option tactic.hygienic false
set_option maxHeartbeats 0
namespace Mine
open PySem PySem.W PySem.Calls PyProof.Rows
theorem sd0:(sreFenced Challenge.rw_pq1368_01.row.prog.main)=true:=by (try simp only [PySem.W.Fast.te11788848310118352699]);decide +kernel
theorem sd1:((moduleNames Challenge.rw_pq1368_01.row.prog.main.body).isEmpty ||
  lookedIntoSs (moduleNames Challenge.rw_pq1368_01.row.prog.main.body) Challenge.rw_pq1368_01.row.prog.main.body)=true:=by (try simp only [PySem.W.Fast.te9807087744658564304,PySem.W.Fast.te12862048085361865435]);decide +kernel
theorem sd2:(namesResolve Challenge.rw_pq1368_01.row.prog)=true:=by (try simp only [PySem.W.Fast.te8377067652309620493]);decide +kernel
theorem sd3:(Challenge.rw_pq1368_01.row.prog.boundNames.all fun n => !worldNames.contains n)=true:=by (try simp only [PySem.W.R.allR_eq,PySem.W.Fast.te18344453789297297638,PySem.W.Fast.te3471404346716756564,PySem.W.Fast.sDec_eq,PySem.W.Fast.te14412699480532031325]);decide +kernel
theorem nr_cons (lk:Look) (s:Stmt) (l:List Stmt):noRoadLSs lk (s::l)=(noRoadLS lk s && noRoadLSs lk l):=rfl
theorem nr_app (lk:Look):∀ (a b:List Stmt),noRoadLSs lk (a++b)=(noRoadLSs lk a && noRoadLSs lk b)
  | [],b=>by rw [List.nil_append,show noRoadLSs lk []=true from rfl];rfl
  | s::a,b=>by rw [List.cons_append,nr_cons,nr_cons,nr_app lk a b,Bool.and_assoc]
theorem nr_cut (lk:Look) (k:Nat) (l:List Stmt) (h1:noRoadLSs lk (l.take k)=true) (h2:noRoadLSs lk (l.drop k)=true):noRoadLSs lk l=true:=by rw [<- List.take_append_drop k l,nr_app,h1,h2];rfl
noncomputable def lk0:Look:={strict:=false,foot:=none,bare:=[]}
noncomputable abbrev bd:List Stmt:=PySem.Challenge.pw_pq1368_01.main.body
theorem lk_is:({strict := !(importedModules bd).all cThrough.contains,foot:=none,bare:=List.filter (readsOut PySem.Challenge.pw_pq1368_01 bd) [("vars" : Str),("dir" : Str),("locals" : Str)]}:Look)=lk0:=by
  have h1:(importedModules bd).all cThrough.contains=true:=by simp only [PySem.W.R.allR_eq,PySem.W.Fast.te5923862056798008813];decide +kernel
  have h2:∀ n∈[("vars" : Str),("dir" : Str),("locals" : Str)],readsOut PySem.Challenge.pw_pq1368_01 bd n=false:=by
    intro n hn;rcases List.mem_cons.mp hn with rfl | hn
    . rw [PySem.W.Fast.te13343964577679436407];decide +kernel
    rcases List.mem_cons.mp hn with rfl | hn
    . rw [PySem.W.Fast.te13343964577679436407];decide +kernel
    rcases List.mem_cons.mp hn with rfl | hn
    . rw [PySem.W.Fast.te13343964577679436407];decide +kernel
    . cases hn
  have h3:List.filter (readsOut PySem.Challenge.pw_pq1368_01 bd) [("vars" : Str),("dir" : Str),("locals" : Str)]=[]:=List.filter_eq_nil_iff.mpr fun n hn=>by rw [h2 n hn];decide
  rw [h1,h3];rfl
theorem nr0:noRoadLSs lk0 (bd.take 30)=true:=by rw [PySem.W.Fast.te8326940854005059898];decide +kernel
theorem nr1:noRoadLSs lk0 ((bd.drop 30).take 10)=true:=by rw [PySem.W.Fast.te8326940854005059898];decide +kernel
theorem nr2:noRoadLSs lk0 (((bd.drop 30).drop 10).take 30)=true:=by rw [PySem.W.Fast.te8326940854005059898];decide +kernel
theorem nr3:noRoadLSs lk0 ((((bd.drop 30).drop 10).drop 30).take 20)=true:=by rw [PySem.W.Fast.te8326940854005059898];decide +kernel
theorem nr4:noRoadLSs lk0 (((((bd.drop 30).drop 10).drop 30).drop 20).take 30)=true:=by rw [PySem.W.Fast.te8326940854005059898];decide +kernel
theorem nr5:noRoadLSs lk0 (((((bd.drop 30).drop 10).drop 30).drop 20).drop 30)=true:=by rw [PySem.W.Fast.te8326940854005059898];decide +kernel
theorem nrAll:noRoadLSs lk0 bd=true:=nr_cut _ 30 _ nr0 (nr_cut _ 10 _ nr1 (nr_cut _ 30 _ nr2 (nr_cut _ 20 _ nr3 (nr_cut _ 30 _ nr4 nr5))))
theorem sd4:(noRoadLSs {strict := !(importedModules bd).all cThrough.contains,foot:=none,bare:=List.filter (readsOut PySem.Challenge.pw_pq1368_01 bd) [("vars" : Str),("dir" : Str),("locals" : Str)]} bd)=true:=by rw [lk_is];exact nrAll
theorem sd5:(namesMeet Challenge.rw_pq1368_01.row.prog Challenge.rw_pq1368_01.row.prog.main.body fun x n=>attrL n)=true:=by (try simp only [PySem.W.Fast.te17119622794617984870,PySem.W.Fast.te17868728402115742887]);decide +kernel
theorem sd6:(Challenge.rw_pq1368_01.row.loose.isEmpty)=true:=by decide +kernel
theorem sd7:(Challenge.rw_pq1368_01.row.makers.isEmpty)=true:=by decide +kernel
theorem sd8:(List.isEmpty Challenge.rw_pq1368_01.row.records ||
  Challenge.rw_pq1368_01.row.raises.all fun ct =>
    ct.fst != ExcName.builtin "AttributeError" && ct.fst != ExcName.builtin "TypeError")=true:=by (try simp only [PySem.W.R.allR_eq,PySem.W.Fast.te9706382859710513879]);decide +kernel
theorem sd10:(decide (List.map (fun x=>x.fst) Challenge.rw_pq1368_01.row.records).Nodup)=true:=by (try simp only [PySem.W.R.mapR_eq,PySem.W.Fast.sDec_eq]);decide +kernel
theorem sd11:(List.all Challenge.rw_pq1368_01.row.records fun x =>
  !x.fst.opensWith (("__" : Str)) && !builtinNamed x.fst &&
      Challenge.rw_pq1368_01.row.prog.boundNames.contains x.fst &&
    x.snd.all fun f => !f.fst.opensWith (("__" : Str)))=true:=by (try simp only [PySem.W.R.allR_eq,PySem.W.Fast.te4857012375875476094,PySem.W.Fast.named_eq,PySem.W.Fast.te3471404346716756564,PySem.W.Fast.sDec_eq,PySem.W.Fast.te18344453789297297638]);decide +kernel
theorem sd12:(Challenge.rw_pq1368_01.row.solid)=true:=by (try simp only [PySem.W.Fast.te13582783067957832011]);decide +kernel
theorem sd13:(Challenge.rw_pq1368_01.row.pre.litsOk)=true:=by (try simp only [PySem.W.Fast.te5318747976498570220]);decide +kernel
theorem sd14:(Challenge.rw_pq1368_01.row.post.litsOk)=true:=by (try simp only [PySem.W.Fast.te5318747976498570220]);decide +kernel
theorem sd15:(Challenge.rw_pq1368_01.row.raises.all fun x=>x.snd.litsOk)=true:=by (try simp only [PySem.W.R.allR_eq,PySem.W.Fast.te5318747976498570220]);decide +kernel
theorem sd17:(Challenge.rw_pq1368_01.row.within.all fun i=>decide (i<Challenge.rw_pq1368_01.row.args.length))=true:=by (try simp only [PySem.W.R.allR_eq]);decide +kernel
theorem sd18:(Option.all (fun i=>decide (i<Challenge.rw_pq1368_01.row.args.length)) Challenge.rw_pq1368_01.row.same)=true:=by decide +kernel
theorem sd19:(Challenge.rw_pq1368_01.row.prog.boundNames.contains Challenge.rw_pq1368_01.row.name)=true:=by (try simp only [PySem.W.Fast.te3471404346716756564,PySem.W.Fast.sDec_eq,PySem.W.Fast.te18344453789297297638]);decide +kernel
theorem sd20:(!startupNames.contains Challenge.rw_pq1368_01.row.name)=true:=by (try simp only [PySem.W.Fast.te3471404346716756564,PySem.W.Fast.sDec_eq,PySem.W.Fast.te12749700546528644094]);decide +kernel
theorem sd21:(decide (Challenge.rw_pq1368_01.foot<=(behindTheImports Challenge.rw_pq1368_01.prog).length))=true:=by decide +kernel
theorem sd22:(Challenge.rw_pq1368_01.footing.all footLine)=true:=by (try simp only [PySem.W.R.allR_eq,PySem.W.Fast.te10501279942588096481]);decide +kernel
theorem sd23:(noClassBlock Challenge.rw_pq1368_01.prog Challenge.rw_pq1368_01.footing)=true:=by (try simp only [PySem.W.Fast.te8179353310426384613]);decide +kernel
theorem sd24:(Option.all (fun n=>decide (63<=n)) Challenge.rw_pq1368_01.most)=true:=by decide +kernel
theorem sd25:(Option.all (fun n=>decide (2 ^ 63<=n)) Challenge.rw_pq1368_01.bound)=true:=by decide +kernel
theorem sd26:(noRoadLSs
  {strict:=true,foot:=some Challenge.rw_pq1368_01.bound',writes:=Challenge.rw_pq1368_01.writes,
    may:=Challenge.rw_pq1368_01.may}
  Challenge.rw_pq1368_01.footing)=true:=by (try simp only [PySem.W.Fast.te8326940854005059898,PySem.W.Fast.te797321630700447069,PySem.W.Fast.te9572597257264208301]);decide +kernel
theorem sd27:(defStands Challenge.rw_pq1368_01.about Challenge.rw_pq1368_01.above)=true:=by (try simp only [PySem.W.Fast.te9558739934217749035]);decide +kernel
theorem sd28:(Challenge.rw_pq1368_01.namesIt)=true:=by (try simp only [PySem.W.Fast.te16286561074155671207]);decide +kernel
theorem sd29:([("type" : Str),("isinstance" : Str),("issubclass" : Str),("getattr" : Str),
      ("hasattr" : Str)].all
  fun n=>Challenge.rw_pq1368_01.about != [n])=true:=by (try simp only [PySem.W.R.allR_eq,PySem.W.Fast.sDec_eq]);decide +kernel
theorem sd30:(Challenge.rw_pq1368_01.bound'.all fun n =>
  !builtinNamed n || Challenge.rw_pq1368_01.about == [n] || !Challenge.rw_pq1368_01.reads n)=true:=by (try simp only [PySem.W.R.allR_eq,PySem.W.Fast.te797321630700447069,PySem.W.Fast.named_eq,PySem.W.Fast.sDec_eq,PySem.W.Fast.te6984425678791042302]);decide +kernel
theorem sd31:(!Challenge.rw_pq1368_01.writes ||
  (List.flatMap importedNames Challenge.rw_pq1368_01.prog.main.body).all fun n => !Challenge.rw_pq1368_01.reads n)=true:=by (try simp only [PySem.W.R.allR_eq,PySem.W.Fast.te17095254045102204799,PySem.W.Fast.te12879404354523853263,PySem.W.Fast.te6984425678791042302]);decide +kernel
theorem sd32:((List.flatMap importedNames Challenge.rw_pq1368_01.prog.main.body).all fun n =>
  !Challenge.rw_pq1368_01.reads n ||
    (drawsOf n Challenge.rw_pq1368_01.prog.main.body).all fun mn =>
      mn.snd != ("attrgetter" : Str) && mn.snd != ("methodcaller" : Str))=true:=by (try simp only [PySem.W.R.allR_eq,PySem.W.Fast.te17095254045102204799,PySem.W.Fast.te12879404354523853263,PySem.W.Fast.te6984425678791042302,PySem.W.Fast.te482687673346738481,PySem.W.Fast.sDec_eq]);decide +kernel
theorem sd33:(namesMeet Challenge.rw_pq1368_01.prog Challenge.rw_pq1368_01.footing fun sc n =>
  (![("type" : Str),("isinstance" : Str),("issubclass" : Str),("getattr" : Str),
              ("hasattr" : Str)].contains
          n ||
      List.lookup n sc.names == some NameKind.globalImplicit) &&
    (Challenge.rw_pq1368_01.may != some n || sc.kind == ScopeKind.module ||
      List.lookup n sc.names == some NameKind.globalImplicit))=true:=by (try simp only [PySem.W.Fast.te17119622794617984870,PySem.W.Fast.te3471404346716756564,PySem.W.Fast.sDec_eq,PySem.W.Fast.te9572597257264208301]);decide +kernel
theorem sd34:(Challenge.rw_pq1368_01.own.contains Challenge.rw_pq1368_01.name)=true:=by (try simp only [PySem.W.Fast.te3471404346716756564,PySem.W.Fast.sDec_eq,PySem.W.Fast.te10792542408131684335]);decide +kernel
theorem sd35:(Challenge.rw_pq1368_01.own.eraseDups.length == Challenge.rw_pq1368_01.own.length)=true:=by (try simp only [PySem.W.Fast.te7723801398212525404,PySem.W.Fast.sDec_eq,PySem.W.Fast.te10792542408131684335]);decide +kernel
theorem sd36:(Challenge.rw_pq1368_01.own.all fun n => !builtinNamed n)=true:=by (try simp only [PySem.W.R.allR_eq,PySem.W.Fast.te10792542408131684335,PySem.W.Fast.named_eq]);decide +kernel
theorem sd37:(namesMeet Challenge.rw_pq1368_01.prog Challenge.rw_pq1368_01.above fun x n =>
  !Challenge.rw_pq1368_01.own.contains n)=true:=by (try simp only [PySem.W.Fast.te17119622794617984870,PySem.W.Fast.te3471404346716756564,PySem.W.Fast.sDec_eq,PySem.W.Fast.te10792542408131684335]);decide +kernel
theorem sd38:(namesMeet Challenge.rw_pq1368_01.prog Challenge.rw_pq1368_01.footing fun sc n =>
  sc.kind == ScopeKind.module || List.lookup n sc.names != some NameKind.globalExplicit)=true:=by (try simp only [PySem.W.Fast.te17119622794617984870,PySem.W.Fast.sDec_eq]);decide +kernel
theorem prog_is:PySem.Challenge.rw_pq1368_01.row.prog=PySem.Challenge.pw_pq1368_01:=rfl
theorem said:PySem.Challenge.rw_pq1368_01.wellSaid=true:=by
  unfold OpenLaw.wellSaid OpenRow.wellSaid OpenRow.partSaid looksOpen
  repeat' (with_reducible apply look_both)
  . with_reducible exact sd0
  . with_reducible exact sd1
  . with_reducible exact sd2
  . with_reducible exact sd3
  . rw [prog_is];with_reducible exact sd4
  . with_reducible exact sd5
  . with_reducible exact sd6
  . with_reducible exact sd7
  . with_reducible exact sd8
  . decide +kernel
  . with_reducible exact sd10
  . with_reducible exact sd11
  . with_reducible exact sd12
  . with_reducible exact sd13
  . with_reducible exact sd14
  . with_reducible exact sd15
  . decide +kernel
  . with_reducible exact sd17
  . with_reducible exact sd18
  . with_reducible exact sd19
  . with_reducible exact sd20
  . with_reducible exact sd21
  . with_reducible exact sd22
  . with_reducible exact sd23
  . with_reducible exact sd24
  . with_reducible exact sd25
  . with_reducible exact sd26
  . with_reducible exact sd27
  . with_reducible exact sd28
  . with_reducible exact sd29
  . with_reducible exact sd30
  . with_reducible exact sd31
  . with_reducible exact sd32
  . with_reducible exact sd33
  . with_reducible exact sd34
  . with_reducible exact sd35
  . with_reducible exact sd36
  . with_reducible exact sd37
  . with_reducible exact sd38
end Mine
namespace Mine
section
open PySem PySem.W PySem.Calls PyProof.Rows
noncomputable abbrev P:Program:=PySem.Challenge.pw_pq1368_01
noncomputable def stm (i:Nat):Stmt:=(P.main.body.drop i).headD (.Pass ⟨0,0,0,0⟩)
noncomputable def cBody:Stmt->List Stmt
  | .ClassDef _ _ _ b _ _ _ _ _ _ _=>b
  | _=>[]
noncomputable def met (i j:Nat):Stmt:=((cBody (stm i)).drop j).headD (.Pass ⟨0,0,0,0⟩)
noncomputable def s (x:String):Str:=Str.ofString x
noncomputable def I (n t:Nat):Value:=.int (.ofNat n) t
noncomputable def S (x:String) (t:Nat):Value:=.str (Str.ofString x) t
noncomputable def R (a:Nat):Value:=.ref a
noncomputable def e (p:Params) (k:String) (t:Nat) (v:Value):DictEntry:=⟨PyData.keyHash p (Str.ofString k),.str (Str.ofString k) t,v⟩
noncomputable def sq (l:List Value) (n:Nat):Data:=.seq ⟨l⟩ n
noncomputable def fl (l:List Value):Data:=.fields ⟨l⟩
noncomputable def dc (l:List DictEntry) (n:Nat):Data:=.dict ⟨l⟩ n
noncomputable def cl (name:Str) (bases mro:List Value) (ns:Nat) (qn:Str) (hd:Bool) (sub:List Value):Data:=.cls {name:=name,bases:=bases,mro:=mro,ns:=ns,qualname:=qn,hasDict:=hd,subclasses:=sub}
noncomputable def dName:Stmt->Str
  | .FunctionDef n _ _ _ _ _ _ _ _ _=>n
  | _=>Str.empty
noncomputable def dArgs:Stmt->Arguments
  | .FunctionDef _ a _ _ _ _ _ _ _ _=>a
  | _=>⟨[],[],none,[],[],none,[]⟩
noncomputable def dBody:Stmt->List Stmt
  | .FunctionDef _ _ b _ _ _ _ _ _ _=>b
  | _=>[]
noncomputable def dScope:Stmt->Scope
  | .FunctionDef _ _ _ _ _ _ sc _ _ _=>sc
  | _=>default
noncomputable def fn (d:Stmt) (q:Str) (g:Nat) (dV kV doc pm cd ct:Value) (bi:Nat):Data :=
  .func {name:=dName d,qualname:=q,params:=dArgs d,body:=.stmts (dBody d),scope:=dScope d,globals:=g,closure:=[],defaults:=dV,kwdefaults:=kV,doc:=doc,pyModule:=pm,annotations:=none,code:=cd,closureTuple:=ct,builtins:=bi}
noncomputable def ob (c:Value) (d:Option Nat) (x:Data) (sl:List (Option Value)):Obj:=⟨c,d,x,⟨sl⟩⟩
noncomputable def dfL:List (Nat×Nat):=[(0,0),(2,0),(3,0),(4,0),(5,0),(6,0),(7,0),(8,0),(9,0),(10,0),(11,0),(14,1),(15,1),(16,1),(17,1),(18,1),(20,1),(20,2),(20,3),(20,4),(20,5),(20,6),(20,7),(21,0),(22,0),(23,0),(24,0),(25,0),(27,1),(28,0),(29,0),(30,0),(31,1),(31,2),(31,3),(31,4),(31,5),(31,6),(31,7),(31,8),(31,9),(31,10),(32,0),(33,0),(34,0),(35,0),(37,1),(38,1),(38,2),(39,1),(40,1),(41,1),(42,1),(43,1),(44,1),(45,1),(46,1),(47,0),(48,0),(49,0),(50,0),(51,0),(52,0),(53,0),(54,0),(55,0),(57,1),(58,0),(59,0),(60,0),(62,0),(64,1),(64,2),(64,3),(64,4),(64,5),(64,6),(64,7),(64,8),(64,9),(65,0),(66,0),(68,1),(69,0),(70,0),(71,0),(72,0),(73,0),(74,0),(75,0),(76,0),(77,0),(78,0),(79,0),(80,0),(81,0),(82,0),(83,0),(84,0),(85,0),(86,0),(88,1),(89,0),(90,0),(92,0),(93,0),(94,0),(95,0),(96,0),(97,0),(98,0),(99,0),(100,0),(101,0),(102,0),(103,0),(104,0),(105,0),(106,0),(107,0),(109,0),(110,0),(112,0),(113,0),(114,0),(115,0),(116,0),(117,0),(118,0),(119,0),(120,0),(122,1),(123,1),(123,2),(123,3),(123,4),(123,5),(123,6),(123,7),(123,8),(123,9),(123,10),(123,11),(123,12),(123,13),(123,14),(123,15),(123,16),(123,17),(123,18),(123,19),(123,20),(123,21),(123,22),(123,23),(123,24),(123,25),(123,26),(123,27),(124,0),(127,0),(128,0),(129,0),(130,0),(131,0),(132,0),(133,0),(134,0),(135,0),(136,0)]
noncomputable def dfS (x:Nat×Nat):Stmt:=bif Nat.beq x.2 0 then stm x.1 else met x.1 (x.2 - 1)
noncomputable def df (i:Nat):Stmt:=dfS ((dfL.drop i).headD (0,0))
noncomputable def dPos:Stmt->Pos
  | .FunctionDef _ _ _ _ _ _ _ _ _ p=>p
  | _=>⟨0,0,0,0⟩
noncomputable def nmv:Nat->List String->List Value
  | _,[]=>[]
  | t,x::r=>S x t::nmv (t+1) r
noncomputable def tvl (l:List Value):Obj:=ob (.type "tuple") none (sq l 0) []
noncomputable def tp (t:Nat) (l:List String):Obj:=tvl (nmv t l)
noncomputable def te:Obj:=tvl []
noncomputable def fo (c:String) (l:List Value):Obj:=ob (.type c) none (fl l) []
noncomputable def pl (l:List (Nat×Nat×Nat)):Obj:=ob .none none (fl (l.flatMap fun x=>[I x.1 0,I x.2.1 0,R x.2.2])) []
noncomputable def no:Obj:=pl []
noncomputable def co (a b:Str) (t l c f q:Nat) (k:Bool) (x y z:Value) (u:Nat):Obj :=
  fo "code" [.str a t,.str b (t+1),S "/claim/cut.py" (t+2),I l 0,I c 0,I 0 0,I 0 0,I f 0,R q,.bool k,I 181 0,R (q+1),.none,x,y,z,I u 0,I l 0,S "/claim/cut.py" (u+1)]
noncomputable def ck (a:String) (t l q:Nat):Obj:=co (s a) (s a) t l 0 0 q false .none .none .none (t+3)
noncomputable def tm (d:Nat) (b:Str):Obj:=ob .none none (fn (df d) b 0 .none .none .none .none .none .none 0) []
noncomputable def fu (d:Nat) (b:Str) (v m:Value) (c:Nat):Obj:=ob (.type "function") none (fn (df d) b 3 v .none .none m (R c) .none 0) []
noncomputable def fd (d t:Nat) (b:Str) (f q:Nat) (x y z:Value) (u:Nat):Obj:=co (dName (df d)) b t (dPos (df d)).line (dArgs (df d)).args.length f q true x y z u
noncomputable def fb (b:Str) (d t q f:Nat) (m:Value) (fr ns cs:List String) (v:Value) (pc:List (Nat×Nat×Nat)):List Obj :=
  let t1:=t+3+fr.length
  let t2:=t1+ns.length
  [tp (t+3) fr,pl pc,tp t1 ns,tp t2 cs,tm d b,fd d t b f q (R (q+2)) (R (q+3)) (R (q+4)) (t2+cs.length),fu d b v m (q+5)]
noncomputable def fs (b:Str) (d t q f:Nat) (m:Value) (fr:List String) (v:Value) (pc:List (Nat×Nat×Nat)):List Obj :=
  [tp (t+3) fr,pl pc,tm d b,fd d t b f q .none .none (R (q+2)) (t+3+fr.length),fu d b v m (q+3)]
noncomputable def F (d t q:Nat) (m:Value) (ns:List String):List Obj:=fb (dName (df d)) d t q 3 m [] ns [] .none []
noncomputable def M (b:String) (d t q:Nat) (m:Value) (ns:List String):List Obj:=fb (s b) d t q 3 m [] ns [] .none []
noncomputable def fm (c d:Nat) (m:Value):Obj:=ob (.type "frame") none .plain [some (R c),some (R 3),some (R d),none,some m,none,some (R 0)]
noncomputable def su (a:Nat):Obj:=fo "super" [R a,R a,R a]
noncomputable def bp:Obj:=fo "builtin_function_or_method" [.builtin "type.__prepare__",.type "type"]
noncomputable def bi (a:Nat):Obj:=fo "builtin_function_or_method" [.builtin "object.__init_subclass__",R a]
noncomputable def gw (t a:Nat):Obj:=fo "getset_descriptor" [S "__weakref__" t,R a,.builtin "ExceptionGroup.__weakref__",.none]
noncomputable def gdc (t a:Nat):Obj:=fo "getset_descriptor" [S "__dict__" t,R a,.builtin "function.__dict__",.builtin "function.__dict__#set"]
noncomputable def to (a:Nat) (x:String) (n t:Nat):Obj:=ob (.type "type") none (cl (s x) [.type "object"] [R a,.type "object"] n (s x) true []) [none,none,some (S x t),some (S x (t+8)),some (.builtin "object.__new__"),some (.bool true)]
noncomputable def m0:Value:=S "__main__" 164
noncomputable def m1:Value:=S "vectorcove.attrs" 194
noncomputable def m2:Value:=S "vectorcove.errors" 273
noncomputable def m3:Value:=S "vectorcove.callargs" 428
noncomputable def m4:Value:=S "vectorcove.s4classes" 549
noncomputable def m5:Value:=S "vectorcove.values" 776
noncomputable def m6:Value:=S "vectorcove.dispatch" 1188
noncomputable def m7:Value:=S "vectorcove.s4methods" 1265
noncomputable def m8:Value:=S "vectorcove.s4objects" 1391
noncomputable def m9:Value:=S "vectorcove.s4generics" 1605
noncomputable def m10:Value:=S "vectorcove.s4classcalls" 1656
noncomputable def m11:Value:=S "vectorcove.scope" 1818
noncomputable def m12:Value:=S "vectorcove.funcall" 1837
noncomputable def m13:Value:=S "vectorcove.evaluator" 1913
noncomputable def m14:Value:=S "law_pq1368_01" 2296
variable (p:Params)
noncomputable def kr (k:String) (t a:Nat):DictEntry:=e p k t (R a)
noncomputable def k0 (t:Nat) (m:Value):DictEntry:=e p "__module__" t m
noncomputable def k1 (t:Nat) (x:String):DictEntry:=e p "__qualname__" t (S x (t - 1))
noncomputable def k2 (t l:Nat):DictEntry:=e p "__firstlineno__" t (I l (t - 1))
noncomputable def k3 (t a:Nat):DictEntry:=e p "__static_attributes__" t (R a)
noncomputable def k4 (t a:Nat):DictEntry:=e p "__weakref__" t (R a)
noncomputable def k5 (t a:Nat):DictEntry:=e p "__dict__" t (R a)
noncomputable def k6 (t:Nat):DictEntry:=e p "__doc__" t .none
noncomputable def dk (l:List DictEntry) (n:Nat):Obj:=ob (.type "dict") none (dc l n) []
noncomputable def e3 (nm:Value) (qc:Nat):List DictEntry:=[e p "__name__" 165 nm,k6 p 166,e p "__package__" 167 .none,e p "__loader__" 168 (.builtin "__main__.__loader__#opaque"),e p "__spec__" 169 .none,kr p "__annotations__" 170 6,kr p "__builtins__" 171 4,e p "__file__" 173 (S "/claim/cut.py" 172),e p "__cached__" 174 .none,kr p "_wall" 193 21,kr p "get_attr" 203 28,kr p "names_of" 209 33,kr p "dim_of" 217 40,kr p "dimnames_of" 223 45,kr p "class_attr" 231 52,kr p "language_class" 239 59,kr p "shape_class" 247 66,kr p "plain_class" 255 73,kr p "implicit_class" 264 80,kr p "class_of" 272 87,kr p "CoveError" 294 97,kr p "Refusal" 319 117,kr p "RError" 348 136,kr p "LimitReached" 373 155,kr p "ReturnSignal" 400 174,kr p "LoopSignal" 427 193,kr p "Matching" 512 252,kr p "doubled_text" 519 263,kr p "argument_text" 530 270,kr p "unused_text" 536 275,kr p "match_names" 542 281,kr p "take" 548 287,kr p "S4Class" 589 304,kr p "data_kinds" 595 315,kr p "basic_names" 601 322,kr p "basic_parents" 608 329,kr p "ClassTable" 729 409,kr p "check_slots" 741 420,kr p "value_classes" 750 427,kr p "class_supers" 764 434,kr p "is_of" 775 441,kr p "Null" 806 458,kr p "Vector" 849 487,kr p "Symbol" 880 508,kr p "Call" 915 530,kr p "Closure" 951 552,kr p "Builtin" 988 573,kr p "Environment" 1025 595,kr p "Promise" 1060 616,kr p "Dots" 1091 637,kr p "S4Object" 1123 658,kr p "null" 1129 669,kr p "integer" 1136 676,kr p "character" 1143 683,kr p "flag" 1150 690,kr p "text" 1157 697,kr p "symbol" 1164 704,kr p "call_of" 1173 711,kr p "is_function" 1180 718,kr p "share" 1187 725,kr p "Dispatch" 1228 742,kr p "plain_value" 1236 753,kr p "plain_form" 1245 760,kr p "quoted_call" 1257 qc,kr p "quoted_call_dispatch" 1258 767,kr p "internal_call" 1264 772,kr p "MethodTable" 1369 843,kr p "place_in" 1378 854,kr p "measure" 1390 861,kr p "S4State" 1422 878,kr p "s4_state" 1429 889,kr p "quoted" 1436 896,kr p "empty_factor" 1443 903,kr p "empty_matrix" 1450 910,kr p "default_value" 1461 917,kr p "prototype_value" 1476 924,kr p "make_prototype" 1489 931,kr p "copy_object" 1497 938,kr p "slot_class" 1508 945,kr p "slot_faults" 1521 952,kr p "told_faults" 1527 957,kr p "validity_faults" 1542 964,kr p "faults_text" 1548 969,kr p "validate" 1557 976,kr p "take_super" 1569 983,kr p "check_slot_names" 1581 990,kr p "default_initialize" 1594 997,kr p "fresh_object" 1604 1004,kr p "S4Dispatch" 1634 1021,kr p "call_s4_method" 1640 1028,kr p "initialized" 1655 1035,kr p "quiet" 1665 1042,kr p "one_name" 1673 1049,kr p "text_pairs" 1685 1056,kr p "class_parts" 1691 1061,kr p "prototype_parts" 1702 1068,kr p "check_prototype" 1714 1075,kr p "generator" 1723 1082,kr p "b_setClass" 1742 1089,kr p "new_object" 1756 1096,kr p "split_first" 1765 1103,kr p "b_isVirtualClass" 1775 1110,kr p "b_isClass" 1784 1117,kr p "b_extends" 1796 1124,kr p "slot_rows" 1805 1131,kr p "b_slotNames" 1811 1136,kr p "b_getSlots" 1817 1141,kr p "lookup_here" 1827 1148,kr p "lookup" 1836 1155,kr p "done_promise" 1847 1162,kr p "bound_argument" 1854 1169,kr p "dots_argument" 1863 1176,kr p "default_binding" 1871 1183,kr p "bind_formals" 1877 1189,kr p "dots_of" 1885 1196,kr p "is_dots_place" 1892 1203,kr p "dots_place" 1903 1210,kr p "is_empty_name" 1912 1217,kr p "Frame" 1953 1234,kr p "Evaluator" 2282 1444,kr p "quoted_call_evaluator" 2295 1455,kr p "_law_corks" 2309 1462,kr p "_law_cork" 2317 1469,kr p "_law_text" 2324 1476,kr p "_law_texts" 2332 1483,kr p "_law_above" 2343 1490,kr p "_law_slots" 2349 1495,kr p "_law_fault" 2367 1502,kr p "_law_set" 2373 1507,kr p "_law_same" 2379 1512,kr p "law" 2390 1519]
noncomputable def o3:Nat->Obj
  | 1=>dk ((e3 p m4 767).take 36) 36
  | 2=>dk ((e3 p m5 767).take 49) 49
  | 3=>dk ((e3 p m9 767).take 88) 88
  | 4=>dk ((e3 p m14 1455).take 123) 123
  | _=>dk (e3 p m14 1455) 131
noncomputable def o12 (k:Nat):Obj:=pl ([(1,0,20),(5,0,27),(9,0,32),(25,0,39),(30,0,44),(35,0,51),(40,0,58),(45,0,65),(50,0,72),(61,0,79),(67,0,86),(76,0,93),(78,0,106),(82,0,125),(88,0,144),(92,0,163),(97,0,182),(103,0,201),(156,0,262),(158,0,269),(167,0,274),(173,0,280),(182,0,286),(194,0,293),(203,0,314),(205,0,321),(207,0,328),(223,0,335),(299,0,419),(309,0,426),(317,0,433),(333,0,440),(339,0,447),(344,0,468),(358,0,497),(364,0,518),(372,0,540),(380,0,562),(389,0,583),(399,0,605),(408,0,626),(414,0,647),(421,0,668),(423,0,675),(425,0,682),(427,0,689),(431,0,696),(433,0,703),(435,0,710),(438,0,717),(440,0,724),(445,0,731),(454,0,752),(458,0,759),(464,0,766),(474,0,771),(491,0,778),(539,0,853),(544,0,860),(555,0,867),(561,0,888),(565,0,895),(567,0,902),(571,0,909),(575,0,916),(593,0,923),(600,0,930),(606,0,937),(611,0,944),(616,0,951),(624,0,956),(630,0,963),(640,0,968),(645,0,975),(651,0,982),(662,0,989),(671,0,996),(686,0,1003),(697,0,1010),(702,0,1027),(707,0,1034),(717,0,1041),(720,0,1048),(726,0,1055),(740,0,1060),(754,0,1067),(769,0,1074),(778,0,1081),(783,0,1088),(806,0,1095),(814,0,1102),(822,0,1109),(825,0,1116),(827,0,1123),(832,0,1130),(835,0,1135),(837,0,1140),(844,0,1147),(846,0,1154),(854,0,1161),(859,0,1168),(863,0,1175),(868,0,1182),(872,0,1188),(885,0,1195),(890,0,1202),(892,0,1209),(901,0,1216),(907,0,1223),(917,0,1244),(1197,0,1454),(1208,0,1461),(1224,0,1468),(1226,0,1475),(1228,0,1482),(1230,0,1489),(1239,0,1494),(1246,0,1501),(1273,0,1506),(1307,0,1511),(1328,0,1518)].take ([0,27,40,78,113,121].getD k 0))
noncomputable def o2:Obj:=ob .none none (dc [(e p "type.__subclasses__.Exception.0" 291 (I 97 0)),(e p "type.__subclasses__.Exception.n" 292 (I 1 0))] 2) []
noncomputable def o742:Obj:=ob (.type "type") none (cl (s "Dispatch") [(.type "object")] [(R 742),(.type "object")] 741 (s "Dispatch") true [(R 1021)]) [none,none,(some (S "Dispatch" 1190)),(some (S "Dispatch" 1198)),(some (.builtin "object.__new__")),(some (.bool true))]
noncomputable def chs:List (Nat×List Obj):=[
(42,[[te,no,ck "<module>" 182 1 11,fm 13 3 m0],F 0 187 15 m0 ["k"],F 1 196 22 m1 ["v","name"],fs "names_of" 2 204 29 3 m1 [] .none [],F 3 210 34 m1 ["v","dims"],fs "dimnames_of" 4 218 41 3 m1 [] .none [],F 5 224 46 m1 ["v","found"]].flatten),
(40,[F 6 232 53 m1 ["v","head"],F 7 240 60 m1 ["v","dims"],F 8 248 67 m1 ["v","kind"],F 9 256 74 m1 ["v","kind","rows"],F 10 265 81 m1 ["v","rows"],[tvl [(.type "Exception")],bp,dk [k0 p 282 m2,k1 p 284 "CoveError",k2 p 286 76,k3 p 287 95] 4,te,no]].flatten),
(41,[[ck "CoveError" 277 76 91,fm 93 90 m2,te,dk [k0 p 282 m2,k2 p 286 76,k3 p 287 95,k4 p 289 98,k6 p 290] 3,ob (.type "type") none (cl (s "CoveError") [(.type "Exception")] [(R 97),(.type "Exception"),(.type "BaseException"),(.type "object")] 96 (s "CoveError") true [(R 117),(R 136),(R 155),(R 174),(R 193)]) [(some (R 88)),none,(some (S "CoveError" 275)),(some (S "CoveError" 283)),(some (.builtin "Exception.__new__")),(some (.bool true))],gw 288 97,su 97,bi 97,tvl [(R 97)],bp,dk [k0 p 302 m2,k1 p 304 "Refusal",k2 p 306 78,kr p "__init__" 314 114,k3 p 316 115] 5,te,pl [(80,4,113)],ck "Refusal" 297 78 104,fm 106 103 m2],M "Refusal.__init__" 11 307 108 m2 ["self","message"],[tp 315 ["message"],dk [k0 p 302 m2,k2 p 306 78,kr p "__init__" 314 114,k3 p 316 115,k6 p 317] 2,ob (.type "type") none (cl (s "Refusal") [(R 97)] [(R 117),(R 97),(.type "Exception"),(.type "BaseException"),(.type "object")] 116 (s "Refusal") true []) [(some (R 101)),none,(some (S "Refusal" 295)),(some (S "Refusal" 303)),(some (.builtin "Exception.__new__")),(some (.bool true))],su 117,bi 117,tvl [(R 97)],bp,dk [k0 p 327 m2,k1 p 329 "RError",k2 p 331 82,kr p "__init__" 341 133,k3 p 345 134] 5,te,pl [(84,4,132)],ck "RError" 322 82 123,fm 125 122 m2],M "RError.__init__" 12 332 127 m2 ["self","message","call","condition"]].flatten),
(40,[[tp 342 ["call","condition","message"],dk [k0 p 327 m2,k2 p 331 82,kr p "__init__" 341 133,k3 p 345 134,k6 p 346] 2,ob (.type "type") none (cl (s "RError") [(R 97)] [(R 136),(R 97),(.type "Exception"),(.type "BaseException"),(.type "object")] 135 (s "RError") true []) [(some (R 120)),none,(some (S "RError" 320)),(some (S "RError" 328)),(some (.builtin "Exception.__new__")),(some (.bool true))],su 136,bi 136,tvl [(R 97)],bp,dk [k0 p 356 m2,k1 p 358 "LimitReached",k2 p 360 88,kr p "__init__" 368 152,k3 p 370 153] 5,te,pl [(90,4,151)],ck "LimitReached" 351 88 142,fm 144 141 m2],M "LimitReached.__init__" 13 361 146 m2 ["self","what"],[tp 369 ["what"],dk [k0 p 356 m2,k2 p 360 88,kr p "__init__" 368 152,k3 p 370 153,k6 p 371] 2,ob (.type "type") none (cl (s "LimitReached") [(R 97)] [(R 155),(R 97),(.type "Exception"),(.type "BaseException"),(.type "object")] 154 (s "LimitReached") true []) [(some (R 139)),none,(some (S "LimitReached" 349)),(some (S "LimitReached" 357)),(some (.builtin "Exception.__new__")),(some (.bool true))],su 155,bi 155,tvl [(R 97)],bp,dk [k0 p 381 m2,k1 p 383 "ReturnSignal",k2 p 385 92,kr p "__init__" 394 171,k3 p 397 172] 5,te,pl [(94,4,170)],ck "ReturnSignal" 376 92 161,fm 163 160 m2],M "ReturnSignal.__init__" 14 386 165 m2 ["self","number","value"],[tp 395 ["number","value"],dk [k0 p 381 m2,k2 p 385 92,kr p "__init__" 394 171,k3 p 397 172,k6 p 398] 2]].flatten),
(43,[[ob (.type "type") none (cl (s "ReturnSignal") [(R 97)] [(R 174),(R 97),(.type "Exception"),(.type "BaseException"),(.type "object")] 173 (s "ReturnSignal") true []) [(some (R 158)),none,(some (S "ReturnSignal" 374)),(some (S "ReturnSignal" 382)),(some (.builtin "Exception.__new__")),(some (.bool true))],su 174,bi 174,tvl [(R 97)],bp,dk [k0 p 408 m2,k1 p 410 "LoopSignal",k2 p 412 97,kr p "__init__" 421 190,k3 p 424 191] 5,te,pl [(99,4,189)],ck "LoopSignal" 403 97 180,fm 182 179 m2],M "LoopSignal.__init__" 15 413 184 m2 ["self","number","again"],[tp 422 ["again","number"],dk [k0 p 408 m2,k2 p 412 97,kr p "__init__" 421 190,k3 p 424 191,k6 p 425] 2,ob (.type "type") none (cl (s "LoopSignal") [(R 97)] [(R 193),(R 97),(.type "Exception"),(.type "BaseException"),(.type "object")] 192 (s "LoopSignal") true []) [(some (R 177)),none,(some (S "LoopSignal" 401)),(some (S "LoopSignal" 409)),(some (.builtin "Exception.__new__")),(some (.bool true))],su 193,bi 193,te,bp,dk [k0 p 437 m3,k1 p 439 "Matching",k2 p 441 103,kr p "__init__" 450 209,kr p "exact" 459 216,kr p "partial" 467 223,kr p "partial_of" 477 230,kr p "positional" 486 237,kr p "is_free" 494 244,kr p "rest" 500 249,k3 p 505 250] 11,te,pl [(105,4,208),(111,4,215),(121,4,222),(128,4,229),(139,4,236),(151,4,243),(154,4,248)],ck "Matching" 432 103 199,fm 201 198 m3],M "Matching.__init__" 16 442 203 m3 ["self","formals","tags"],M "Matching.exact" 17 451 210 m3 ["self","name","place"]].flatten),
(40,[M "Matching.partial" 18 460 217 m3 ["self","name"],M "Matching.partial_of" 19 468 224 m3 ["self","name","place","tag"],M "Matching.positional" 20 478 231 m3 ["self","place","name"],M "Matching.is_free" 21 487 238 m3 ["self","place"],fs "Matching.rest" 22 495 245 3 m3 [] .none [],[tp 501 ["formals","places","tags","used"],dk [k0 p 437 m3,k2 p 441 103,kr p "__init__" 450 209,kr p "exact" 459 216,kr p "partial" 467 223,kr p "partial_of" 477 230,kr p "positional" 486 237,kr p "is_free" 494 244,kr p "rest" 500 249,k3 p 505 250,k5 p 507 253,k4 p 509 254,k6 p 510] 4,to 252 "Matching" 251 430,gdc 506 252,gw 508 252,su 252,bi 252]].flatten),
(45,[F 23 513 257 m3 ["name"],F 24 520 264 m3 ["args","place","show","tag","value"],fs "unused_text" 25 531 271 3 m3 [] .none [],[tvl [.none]],fs "match_names" 26 537 277 3 m3 [] (R 276) [],[tvl [.none]],fs "take" 27 543 283 3 m3 [] (R 282) [],[te,bp,dk [k0 p 558 m4,k1 p 560 "S4Class",k2 p 562 194,kr p "__init__" 575 301,k3 p 582 302] 5,te,pl [(196,4,300)],ck "S4Class" 553 194 291,fm 293 290 m4],M "S4Class.__init__" 28 563 295 m4 ["self","name","slots","contains","validity","virtual","prototype"]].flatten),
(42,[[tp 576 ["contains","name","prototype","slots","validity","virtual"],dk [k0 p 558 m4,k2 p 562 194,kr p "__init__" 575 301,k3 p 582 302,k5 p 584 305,k4 p 586 306,k6 p 587] 4,to 304 "S4Class" 303 551,gdc 583 304,gw 585 304,su 304,bi 304],F 29 590 309 m4 [],F 30 596 316 m4 [],F 31 602 323 m4 ["name"],[te,bp,dk [k0 p 616 m4,k1 p 618 "ClassTable",k2 p 620 223,kr p "__init__" 627 343,kr p "define" 636 350,kr p "set_union" 645 357,kr p "get" 653 364,kr p "basic" 661 371,kr p "known" 669 378,kr p "parents" 679 385,kr p "supers" 693 392,kr p "distance" 704 399,kr p "slots_of" 719 406,k3 p 722 407] 14,te,pl [(225,4,342),(229,4,349),(238,4,356),(241,4,363),(244,4,370),(247,4,377),(250,4,384),(261,4,391),(276,4,398),(284,4,405)],ck "ClassTable" 611 223 333,fm 335 332 m4],M "ClassTable.__init__" 32 621 337 m4 ["self"]].flatten),
(42,[M "ClassTable.define" 33 628 344 m4 ["self","c","name"],M "ClassTable.set_union" 34 637 351 m4 ["self","name","members"],M "ClassTable.get" 35 646 358 m4 ["self","name"],M "ClassTable.basic" 36 654 365 m4 ["self","name"],M "ClassTable.known" 37 662 372 m4 ["self","name"],M "ClassTable.parents" 38 670 379 m4 ["self","name","found","union"]].flatten),
(42,[M "ClassTable.supers" 39 680 386 m4 ["self","name","rows","seen","at","one","steps","parent"],M "ClassTable.distance" 40 694 393 m4 ["self","sub","super_name","name","steps"],M "ClassTable.slots_of" 41 705 400 m4 ["self","name","found","seen","one","steps","rows","slot","kind"],[tp 720 ["classes","unions"],dk [k0 p 616 m4,k2 p 620 223,kr p "__init__" 627 343,kr p "define" 636 350,kr p "set_union" 645 357,kr p "get" 653 364,kr p "basic" 661 371,kr p "known" 669 378,kr p "parents" 679 385,kr p "supers" 693 392,kr p "distance" 704 399,kr p "slots_of" 719 406,k3 p 722 407,k5 p 724 410,k4 p 726 411,k6 p 727] 4,to 409 "ClassTable" 408 609,gdc 723 409,gw 725 409,su 409,bi 409],F 42 730 414 m4 ["table","c","seen","slot","kind","parent"],F 43 742 421 m4 ["v","rows","one"]].flatten),
(40,[F 44 751 428 m4 ["table","v","rows","seen","own","place","name","steps"],F 45 765 435 m4 ["table","v","name","one","steps"],[te,bp,dk [k0 p 785 m5,k1 p 787 "Null",k2 p 789 339,kr p "__init__" 796 455,k3 p 799 456] 5,te,pl [(341,4,454)],ck "Null" 780 339 445,fm 447 444 m5],M "Null.__init__" 46 790 449 m5 ["self"],[tp 797 ["attrs","kind"],dk [k0 p 785 m5,k2 p 789 339,kr p "__init__" 796 455,k3 p 799 456,k5 p 801 459,k4 p 803 460,k6 p 804] 4,to 458 "Null" 457 778,gdc 800 458,gw 802 458,su 458,bi 458,te,bp,dk [k0 p 814 m5,k1 p 816 "Vector",k2 p 818 344,kr p "__init__" 828 477,kr p "copy" 836 484,k3 p 842 485] 6,te,pl [(346,4,476),(353,4,483)]]].flatten),
(40,[[ck "Vector" 809 344 466,fm 468 465 m5,tvl [.none]],fb "Vector.__init__" 47 819 471 3 m5 [] ["self","kind","items","attrs"] [] (R 470) [],M "Vector.copy" 48 829 478 m5 ["self","attrs"],[tp 837 ["attrs","items","kind","loose","shared"],dk [k0 p 814 m5,k2 p 818 344,kr p "__init__" 828 477,kr p "copy" 836 484,k3 p 842 485,k5 p 844 488,k4 p 846 489,k6 p 847] 4,to 487 "Vector" 486 807,gdc 843 487,gw 845 487,su 487,bi 487,te,bp,dk [k0 p 857 m5,k1 p 859 "Symbol",k2 p 861 358,kr p "__init__" 869 505,k3 p 873 506] 5,te,pl [(360,4,504)],ck "Symbol" 852 358 495,fm 497 494 m5],M "Symbol.__init__" 49 862 499 m5 ["self","name"],[tp 870 ["attrs","kind","name"],dk [k0 p 857 m5,k2 p 861 358,kr p "__init__" 869 505,k3 p 873 506,k5 p 875 509,k4 p 877 510,k6 p 878] 4]].flatten),
(42,[[to 508 "Symbol" 507 850,gdc 874 508,gw 876 508,su 508,bi 508,te,bp,dk [k0 p 888 m5,k1 p 890 "Call",k2 p 892 364,kr p "__init__" 902 527,k3 p 908 528] 5,te,pl [(366,4,526)],ck "Call" 883 364 516,fm 518 515 m5,tvl [.none]],fb "Call.__init__" 50 893 521 3 m5 [] ["self","items","tags","attrs"] [] (R 520) [],[tp 903 ["attrs","code","items","kind","tags"],dk [k0 p 888 m5,k2 p 892 364,kr p "__init__" 902 527,k3 p 908 528,k5 p 910 531,k4 p 912 532,k6 p 913] 4,to 530 "Call" 529 881,gdc 909 530,gw 911 530,su 530,bi 530,te,bp,dk [k0 p 923 m5,k1 p 925 "Closure",k2 p 927 372,kr p "__init__" 938 549,k3 p 944 550] 5,te,pl [(374,4,548)],ck "Closure" 918 372 538,fm 540 537 m5,tvl [.none]],fb "Closure.__init__" 51 928 543 3 m5 [] ["self","formals","body","env","attrs"] [] (R 542) []].flatten),
(43,[[tp 939 ["attrs","body","env","formals","kind"],dk [k0 p 923 m5,k2 p 927 372,kr p "__init__" 938 549,k3 p 944 550,k5 p 946 553,k4 p 948 554,k6 p 949] 4,to 552 "Closure" 551 916,gdc 945 552,gw 947 552,su 552,bi 552,te,bp,dk [k0 p 959 m5,k1 p 961 "Builtin",k2 p 963 380,kr p "__init__" 974 570,k3 p 981 571] 5,te,pl [(382,4,569)],ck "Builtin" 954 380 560,fm 562 559 m5],M "Builtin.__init__" 52 964 564 m5 ["self","name","special","fn","group"],[tp 975 ["attrs","fn","group","kind","name","special"],dk [k0 p 959 m5,k2 p 963 380,kr p "__init__" 974 570,k3 p 981 571,k5 p 983 574,k4 p 985 575,k6 p 986] 4,to 573 "Builtin" 572 952,gdc 982 573,gw 984 573,su 573,bi 573,te,bp,dk [k0 p 996 m5,k1 p 998 "Environment",k2 p 1000 389,kr p "__init__" 1010 592,k3 p 1018 593] 5,te,pl [(391,4,591)],ck "Environment" 991 389 581,fm 583 580 m5,tvl [.none]],fb "Environment.__init__" 53 1001 586 3 m5 [] ["self","number","parent","attrs"] [] (R 585) []].flatten),
(42,[[tp 1011 ["attrs","frame","kind","locked","locks","number","parent"],dk [k0 p 996 m5,k2 p 1000 389,kr p "__init__" 1010 592,k3 p 1018 593,k5 p 1020 596,k4 p 1022 597,k6 p 1023] 4,to 595 "Environment" 594 989,gdc 1019 595,gw 1021 595,su 595,bi 595,te,bp,dk [k0 p 1033 m5,k1 p 1035 "Promise",k2 p 1037 399,kr p "__init__" 1046 613,k3 p 1053 614] 5,te,pl [(401,4,612)],ck "Promise" 1028 399 603,fm 605 602 m5],M "Promise.__init__" 54 1038 607 m5 ["self","expr","env"],[tp 1047 ["attrs","env","expr","kind","state","value"],dk [k0 p 1033 m5,k2 p 1037 399,kr p "__init__" 1046 613,k3 p 1053 614,k5 p 1055 617,k4 p 1057 618,k6 p 1058] 4,to 616 "Promise" 615 1026,gdc 1054 616,gw 1056 616,su 616,bi 616,te,bp,dk [k0 p 1068 m5,k1 p 1070 "Dots",k2 p 1072 408,kr p "__init__" 1080 634,k3 p 1084 635] 5,te,pl [(410,4,633)],ck "Dots" 1063 408 624,fm 626 623 m5],M "Dots.__init__" 55 1073 628 m5 ["self","args"]].flatten),
(42,[[tp 1081 ["args","attrs","kind"],dk [k0 p 1068 m5,k2 p 1072 408,kr p "__init__" 1080 634,k3 p 1084 635,k5 p 1086 638,k4 p 1088 639,k6 p 1089] 4,to 637 "Dots" 636 1061,gdc 1085 637,gw 1087 637,su 637,bi 637,te,bp,dk [k0 p 1099 m5,k1 p 1101 "S4Object",k2 p 1103 414,kr p "__init__" 1111 655,k3 p 1116 656] 5,te,pl [(416,4,654)],ck "S4Object" 1094 414 645,fm 647 644 m5],M "S4Object.__init__" 56 1104 649 m5 ["self","name"],[tp 1112 ["attrs","kind","name","slots"],dk [k0 p 1099 m5,k2 p 1103 414,kr p "__init__" 1111 655,k3 p 1116 656,k5 p 1118 659,k4 p 1120 660,k6 p 1121] 4,to 658 "S4Object" 657 1092,gdc 1117 658,gw 1119 658,su 658,bi 658],F 57 1124 663 m5 [],F 58 1130 670 m5 ["items"]].flatten),
(42,[F 59 1137 677 m5 ["items"],F 60 1144 684 m5 ["b"],F 61 1151 691 m5 ["s"],F 62 1158 698 m5 ["name"],F 63 1165 705 m5 ["name","args","items"],F 64 1174 712 m5 ["v"]].flatten),
(42,[F 65 1181 719 m5 ["v"],[te,bp,dk [k0 p 1197 m6,k1 p 1199 "Dispatch",k2 p 1201 445,kr p "__init__" 1214 739,k3 p 1221 740] 5,te,pl [(447,4,738)],ck "Dispatch" 1192 445 729,fm 731 728 m6],M "Dispatch.__init__" 66 1202 733 m6 ["self","generic","classes","obj","call_env","def_env","group"],[tp 1215 ["call_env","classes","def_env","generic","group","obj"],dk [k0 p 1197 m6,k2 p 1201 445,kr p "__init__" 1214 739,k3 p 1221 740,k5 p 1223 743,k4 p 1225 744,k6 p 1226] 4,to 742 "Dispatch" 741 1190,gdc 1222 742,gw 1224 742,su 742,bi 742],F 67 1229 747 m6 ["interp","value"],F 68 1237 754 m6 ["interp","builtin","values"]].flatten),
(40,[F 69 1246 761 m6 ["builtin","values","items","tags","tag","value"],fs "internal_call" 70 1259 768 3 m6 [] .none [],[te,bp,dk [k0 p 1274 m7,k1 p 1276 "MethodTable",k2 p 1278 491,kr p "__init__" 1285 786,kr p "set_generic" 1294 793,kr p "is_generic" 1302 800,kr p "full_signature" 1313 807,kr p "set_method" 1323 814,kr p "exact" 1335 821,kr p "candidates" 1341 826,kr p "select" 1350 833,kr p "next_methods" 1360 840,k3 p 1362 841] 13,te,pl [(493,4,785),(496,4,792),(499,4,799),(502,4,806),(513,4,813),(516,4,820),(525,4,825),(534,4,832),(537,4,839)],ck "MethodTable" 1269 491 776,fm 778 775 m7],M "MethodTable.__init__" 71 1279 780 m7 ["self"],M "MethodTable.set_generic" 72 1286 787 m7 ["self","name","arguments"],M "MethodTable.is_generic" 73 1295 794 m7 ["self","name"]].flatten),
(40,[M "MethodTable.full_signature" 74 1303 801 m7 ["self","name","signature","arguments","classes"],M "MethodTable.set_method" 75 1314 808 m7 ["self","name","signature","function"],M "MethodTable.exact" 76 1324 815 m7 ["self","name","signature","full","one","function"],fs "MethodTable.candidates" 77 1336 822 3 m7 [] .none [],M "MethodTable.select" 78 1342 827 m7 ["self","name","rows"],M "MethodTable.next_methods" 79 1351 834 m7 ["self","name","rows","signature"]].flatten),
(40,[[tp 1361 ["generics"],dk [k0 p 1274 m7,k2 p 1278 491,kr p "__init__" 1285 786,kr p "set_generic" 1294 793,kr p "is_generic" 1302 800,kr p "full_signature" 1313 807,kr p "set_method" 1323 814,kr p "exact" 1335 821,kr p "candidates" 1341 826,kr p "select" 1350 833,kr p "next_methods" 1360 840,k3 p 1362 841,k5 p 1364 844,k4 p 1366 845,k6 p 1367] 4,to 843 "MethodTable" 842 1267,gdc 1363 843,gw 1365 843,su 843,bi 843],F 80 1370 848 m7 ["rows","name","place"],F 81 1379 855 m7 ["signature","rows","total","places","at","place"],[te,bp,dk [k0 p 1400 m8,k1 p 1402 "S4State",k2 p 1404 555,kr p "__init__" 1411 875,k3 p 1415 876] 5,te,pl [(557,4,874)],ck "S4State" 1395 555 865,fm 867 864 m8],M "S4State.__init__" 82 1405 869 m8 ["self"],[tp 1412 ["classes","methods","older"],dk [k0 p 1400 m8,k2 p 1404 555,kr p "__init__" 1411 875,k3 p 1415 876,k5 p 1417 879,k4 p 1419 880,k6 p 1420] 4,to 878 "S4State" 877 1393,gdc 1416 878,gw 1418 878]].flatten),
(44,[[su 878,bi 878],F 83 1423 883 m8 ["interp"],F 84 1430 890 m8 ["name"],F 85 1437 897 m8 ["value"],F 86 1444 904 m8 ["value"],F 87 1451 911 m8 ["interp","kind","seen","table","found"],F 88 1462 918 m8 ["interp","name","slot","kind","seen","table","one","steps","c"]].flatten),
(40,[F 89 1477 925 m8 ["interp","name","seen","made","inner","slot","kind"],F 90 1490 932 m8 ["v","made"],F 91 1498 939 m8 ["table","name","slot","one","kind"],F 92 1509 946 m8 ["table","v","faults","slot","kind","value","got"],fs "told_faults" 93 1522 953 3 m8 [] .none [],F 94 1528 958 m8 ["interp","v","table","faults","rows","name","steps","c","call"]].flatten),
(40,[fs "faults_text" 95 1543 965 3 m8 [] .none [],F 96 1549 970 m8 ["interp","v","faults"],F 97 1558 977 m8 ["table","made","value","slot","kind","got"],F 98 1570 984 m8 ["table","made","args","wrong","tag","value"],F 99 1582 991 m8 ["interp","v","args","table","made","tag","value"],F 100 1595 998 m8 ["interp","name","table","c"]].flatten),
(45,[[tvl [(R 742)],bp,dk [k0 p 1614 m9,k1 p 1616 "S4Dispatch",k2 p 1618 697,kr p "__init__" 1629 1018,k3 p 1631 1019] 5,te,pl [(699,4,1017)],ck "S4Dispatch" 1609 697 1008,fm 1010 1007 m9],M "S4Dispatch.__init__" 101 1619 1012 m9 ["self","generic","obj","env","rest"],[tp 1630 ["rest"],dk [k0 p 1614 m9,k2 p 1618 697,kr p "__init__" 1629 1018,k3 p 1631 1019,k6 p 1632] 2,ob (.type "type") none (cl (s "S4Dispatch") [(R 742)] [(R 1021),(R 742),(.type "object")] 1020 (s "S4Dispatch") true []) [(some (R 1005)),none,(some (S "S4Dispatch" 1607)),(some (S "S4Dispatch" 1615)),(some (.builtin "object.__new__")),(some (.bool true))],su 1021,bi 1021],fs "call_s4_method" 102 1635 1024 3 m9 [] .none [],F 103 1641 1029 m9 ["interp","v","args","env","call","state","rows","found","dispatch"],F 104 1658 1036 m10 ["interp","value"],F 105 1666 1043 m10 ["value","what"]].flatten),
(40,[F 106 1674 1050 m10 ["value","names","pairs","place","item","name"],fs "class_parts" 107 1686 1057 3 m10 [] .none [],F 108 1692 1062 m10 ["value","names","parts","place","item"],F 109 1703 1069 m10 ["table","c","kinds","slot","kind","name"],fb "generator" 110 1715 1076 3 m10 [] ["name","make"] ["name"] .none [],F 111 1724 1083 m10 ["interp","args","env","found","name","slots","supers","virtual","prototype","validity","table","older","c"]].flatten),
(42,[F 112 1743 1090 m10 ["interp","name","args","env","v","call","refusal","message"],F 113 1757 1097 m10 ["args","name","place"],F 114 1766 1104 m10 ["interp","args","env","c"],F 115 1776 1111 m10 ["interp","args","env"],F 116 1785 1118 m10 ["interp","args","env","found","table","steps"],F 117 1797 1125 m10 ["interp","value","name"]].flatten),
(45,[fs "b_slotNames" 118 1806 1132 3 m10 [] .none [],fs "b_getSlots" 119 1812 1137 3 m10 [] .none [],F 120 1820 1142 m11 ["env","name"],F 121 1828 1149 m11 ["env","name","found"],F 122 1839 1156 m12 ["expr","value","promise"],F 123 1848 1163 m12 ["value"],F 124 1855 1170 m12 ["arg","tag","value"]].flatten),
(41,[F 125 1864 1177 m12 ["default","env"],[tvl [.none]],fs "bind_formals" 126 1872 1185 3 m12 [] (R 1184) [],F 127 1878 1190 m12 ["env","found"],F 128 1886 1197 m12 ["name"],F 129 1893 1204 m12 ["env","name","dots","place","word"],F 130 1904 1211 m12 ["e","env","bound"]].flatten),
(43,[[te,bp,dk [k0 p 1922 m13,k1 p 1924 "Frame",k2 p 1926 907,kr p "__init__" 1938 1231,k3 p 1946 1232] 5,te,pl [(909,4,1230)],ck "Frame" 1917 907 1221,fm 1223 1220 m13],M "Frame.__init__" 131 1927 1225 m13 ["self","call","function","env","caller","args"],[tp 1939 ["args","call","caller","dispatch","env","function","on_exit"],dk [k0 p 1922 m13,k2 p 1926 907,kr p "__init__" 1938 1231,k3 p 1946 1232,k5 p 1948 1235,k4 p 1950 1236,k6 p 1951] 4,to 1234 "Frame" 1233 1915,gdc 1947 1234,gw 1949 1234,su 1234,bi 1234,te,bp,dk [k0 p 1961 m13,k1 p 1963 "Evaluator",k2 p 1965 917,kr p "__init__" 1976 1253,kr p "new_env" 1985 1260,kr p "define" 1997 1268,kr p "tick" 2004 1275,kr p "signal_error" 2013 1282,kr p "warn_all" 2022 1290,kr p "running_call" 2029 1297,kr p "eval" 2039 1304,kr p "variable" 2050 1311,kr p "dots_value" 2060 1318,kr p "force" 2068 1325,kr p "find_function" 2079 1333,kr p "function_of" 2090 1340,kr p "eval_call" 2099 1347,kr p "plain_call" 2110 1354,kr p "spread_dots" 2119 1361,kr p "promise_args" 2132 1368,kr p "eager_args" 2148 1376,kr p "empty_arg" 2158 1383,kr p "call_special" 2170 1390,kr p "call_builtin" 2186 1397,kr p "apply_closure" 2205 1405,kr p "leave" 2216 1412,kr p "run_exits" 2225 1419,kr p "shower" 2234 1426,kr p "call_value" 2245 1434,kr p "run" 2255 1441,k3 p 2275 1442] 31,te,pl [(919,4,1252),(940,4,1259),(945,4,1267),(948,4,1274),(953,4,1281),(958,4,1289),(961,4,1296),(966,4,1303),(977,4,1310),(993,4,1317),(999,4,1324),(1013,4,1332),(1026,4,1339),(1037,4,1346),(1040,4,1353),(1050,4,1360),(1056,4,1367),(1068,4,1375),(1086,4,1382),(1091,4,1389),(1099,4,1396),(1115,4,1404),(1149,4,1411),(1162,4,1418),(1170,4,1425),(1181,4,1433),(1192,4,1440)],ck "Evaluator" 1956 917 1242,fm 1244 1241 m13,tvl [(I 20000 1966),(I 40 1967)]],fb "Evaluator.__init__" 132 1968 1247 3 m13 [] ["self","limit","most_frames"] [] (R 1246) [],M "Evaluator.new_env" 133 1977 1254 m13 ["self","parent","env"]].flatten),
(44,[[tp 1986 [""]],fb "Evaluator.define" 134 1987 1262 3 m13 [] ["self","name","special","fn","group"] [] (R 1261) [],M "Evaluator.tick" 135 1998 1269 m13 ["self"],M "Evaluator.signal_error" 136 2005 1276 m13 ["self","message","call"],[tvl [.none]],fb "Evaluator.warn_all" 137 2014 1284 3 m13 [] ["self","notes","call"] [] (R 1283) [],M "Evaluator.running_call" 138 2023 1291 m13 ["self"],M "Evaluator.eval" 139 2030 1298 m13 ["self","e","env","kind"]].flatten),
(43,[M "Evaluator.variable" 140 2040 1305 m13 ["self","name","env","found","message"],M "Evaluator.dots_value" 141 2051 1312 m13 ["self","name","env","refusal"],M "Evaluator.force" 142 2061 1319 m13 ["self","promise"],[tvl [.none]],fb "Evaluator.find_function" 143 2069 1327 3 m13 [] ["self","name","env","call","found"] [] (R 1326) [],M "Evaluator.function_of" 144 2080 1334 m13 ["self","call","env","head","found"],M "Evaluator.eval_call" 145 2091 1341 m13 ["self","call","env"]].flatten),
(43,[M "Evaluator.plain_call" 146 2100 1348 m13 ["self","call","env","f","args"],M "Evaluator.spread_dots" 147 2111 1355 m13 ["self","env","dots"],M "Evaluator.promise_args" 148 2120 1362 m13 ["self","items","tags","env","args","place","item"],[tvl [(.bool false)]],fb "Evaluator.eager_args" 149 2133 1370 3 m13 [] ["self","items","tags","env","keep","args","place","item","tag","value"] [] (R 1369) [],M "Evaluator.empty_arg" 150 2149 1377 m13 ["self","item","keep","place"],M "Evaluator.call_special" 151 2159 1384 m13 ["self","f","call","env","refusal","message"]].flatten),
(44,[M "Evaluator.call_builtin" 152 2171 1391 m13 ["self","builtin","call","args","env","saved","found","value","refusal","message"],[tvl [.none]],fb "Evaluator.apply_closure" 153 2187 1399 3 m13 [] ["self","closure","args","call","caller","dispatch","env","message","refusal","frame","value","lost","signal"] [] (R 1398) [],M "Evaluator.leave" 154 2206 1406 m13 ["self","frame","value","visible","signal"],M "Evaluator.run_exits" 155 2217 1413 m13 ["self","frame","first"],fb "Evaluator.shower" 156 2226 1420 3 m13 [] ["self","show"] ["deparser"] .none [],[tvl [.none]],fb "Evaluator.call_value" 157 2235 1428 3 m13 [] ["self","f","args","env","call"] [] (R 1427) []].flatten),
(42,[M "Evaluator.run" 158 2246 1435 m13 ["self","program","value","e"],[tp 2256 ["base","current","deparser","dispatcher","frames","globals","handlers","limit","most_frames","next_number","out","restarts","s4","signaller","steps","targets","visible","warner","warnings"],dk [k0 p 1961 m13,k2 p 1965 917,kr p "__init__" 1976 1253,kr p "new_env" 1985 1260,kr p "define" 1997 1268,kr p "tick" 2004 1275,kr p "signal_error" 2013 1282,kr p "warn_all" 2022 1290,kr p "running_call" 2029 1297,kr p "eval" 2039 1304,kr p "variable" 2050 1311,kr p "dots_value" 2060 1318,kr p "force" 2068 1325,kr p "find_function" 2079 1333,kr p "function_of" 2090 1340,kr p "eval_call" 2099 1347,kr p "plain_call" 2110 1354,kr p "spread_dots" 2119 1361,kr p "promise_args" 2132 1368,kr p "eager_args" 2148 1376,kr p "empty_arg" 2158 1383,kr p "call_special" 2170 1390,kr p "call_builtin" 2186 1397,kr p "apply_closure" 2205 1405,kr p "leave" 2216 1412,kr p "run_exits" 2225 1419,kr p "shower" 2234 1426,kr p "call_value" 2245 1434,kr p "run" 2255 1441,k3 p 2275 1442,k5 p 2277 1445,k4 p 2279 1446,k6 p 2280] 4,to 1444 "Evaluator" 1443 1954,gdc 2276 1444,gw 2278 1444,su 1444,bi 1444],F 159 2283 1449 m13 ["f","args","items","tags","tag","value"],F 160 2298 1456 m14 ["script","corks","cell","cork","box","flat"],F 161 2310 1463 m14 ["corks","most"],F 162 2318 1470 m14 ["word"]].flatten),
(43,[F 163 2325 1477 m14 ["words","names"],F 164 2333 1484 m14 ["world","name","chain","at","parent"],fs "_law_slots" 165 2344 1491 3 m14 [] .none [],F 166 2350 1496 m14 ["world","name","slots","above","proto","parent","words","own_slots","slot","kind","trial","kinds"],fs "_law_set" 167 2368 1503 3 m14 [] .none [],fs "_law_same" 168 2374 1508 3 m14 [] .none [],F 169 2380 1513 m14 ["script","corks","interp","world","lap"]].flatten)]
noncomputable def fnd:Nat->List (Nat×List Obj)->Obj
  | _,[]=>default
  | i,(n,l)::r=>bif Nat.blt i n then l.getD i default else fnd (i - n) r
noncomputable def bo:Nat->Obj
  | 0=>boot_o_0 p
  | 1=>boot_o_1 p
  | 2=>boot_o_2 p
  | 3=>boot_o_3 p
  | 4=>boot_o_4 p
  | 5=>boot_o_5 p
  | 6=>boot_o_6 p
  | 7=>boot_o_7 p
  | 8=>boot_o_8 p
  | 9=>boot_o_9 p
  | _=>boot_o_10 p
noncomputable def O (a:Nat):Obj:=bif Nat.blt a 11 then bo p a else fnd (a - 11) (chs p)
noncomputable def bdt (m:Nat):Nat->Nat->Nat->BT
  | 0,_,_=>.nil
  | f+1,o,s=>bif Nat.blt o m then .node (O p o) (bdt m f (o+s) (2 * s)) (bdt m f (o+2 * s) (2 * s)) else .nil
noncomputable def A (a:Nat):Obj:=bif Nat.beq a 3 then o3 p 5 else bif Nat.beq a 2 then o2 p else O p a
noncomputable def pu (t:BT) (a:Nat) (o:Obj):BT:=t.set a fun _=>o
noncomputable def T0:BT:=bdt p 15 12 0 1
noncomputable def tr (k m:Nat):BT:=pu (pu (pu (bdt p m 12 0 1) 3 (o3 p k)) 12 (o12 k)) 2 (o2 p)
noncomputable def T1:BT:=tr p 1 330
noncomputable def T2:BT:=tr p 2 621
noncomputable def T3:BT:=tr p 3 1005
noncomputable def T4:BT:=pu (tr p 4 1470) 742 o742
noncomputable def T5:BT:=pu (tr p 5 1520) 742 o742
noncomputable def en:Env:={scope:=P.main.scope,locals:=mainNs,globals:=mainNs,cells:=[],code:=(R 13),frame:=some 14}
noncomputable def q0:Pos:=⟨0,0,0,0⟩
noncomputable def pos0:Pos:=⟨0,0,0,0⟩
noncomputable def posP:Pos:=⟨0,0,0,0⟩
noncomputable def sts (f c:Nat):List Stmt:=(P.main.body.drop f).take c
noncomputable def St (T:Params->BT) (n tk:Nat) (w:World) (os:OsState):SharedT:=⟨T w.params,n,{},⟨[]⟩,{},tk,os⟩
def Piece (f c N:Nat) (T:Params->BT) (n tk:Nat) (po:Pos) (T':Params->BT) (n' tk':Nat) (po':Pos):Prop :=
  ∀ (w:World) (p:Program) (b:List Stmt) (os:OsState),
    segRunT treeTable p w 11 (some (.ref 6)) 1 N (St T n tk w os) (piecesOf (sts f c) en (.body b en) po [topFrame q0])=some (.next,St T' n' tk' w os,.body b en,po')
theorem CK {f c N:Nat} {T:Params->BT} {n tk:Nat} {po:Pos} {T':Params->BT} {n' tk':Nat} {po':Pos}
    (h:∀ (w:World) (p:Program) (b:List Stmt) (os:OsState),PySem.W.Fast.tw10110043849684766642 PySem.W.Fast.tw14364793385576792824 p w 11 (some (.ref 6)) 1 N (St T n tk w os) ⟨(PySem.W.Fast.tw12563942051412417395 (sts f c) en).wrap doneF deadEnd id id,.body b en,po,[topFrame q0]⟩=some (.next,St T' n' tk' w os,.body b en,po')) :
    Piece f c N T n tk po T' n' tk' po':=by
  intro w p b os;rw [PySem.W.Fast.te10110043849684766642,PySem.W.Fast.te14364793385576792824];show PySem.W.Fast.tw10110043849684766642 PySem.W.Fast.tw14364793385576792824 p w 11 (some (.ref 6)) 1 N (St T n tk w os) ⟨(execs (sts f c) en).wrap doneF deadEnd id id,.body b en,po,[topFrame q0]⟩=_;rw [PySem.W.Fast.te12563942051412417395];exact h w p b os
end
end Mine
set_option Elab.async false
set_option maxRecDepth 100000
set_option linter.all false
set_option tactic.hygienic false
set_option maxHeartbeats 0
namespace Mine
open PySem PySem.W PySem.Calls PyProof.Rows
theorem pc1:Piece 0 31 2665 (T0) 15 187 ⟨0,0,0,0⟩ (T1) 330 609 ⟨207,0,222,13⟩:=CK (fun w p b os=>by kernel_rfl)
end Mine
set_option Elab.async false
set_option maxRecDepth 100000
set_option linter.all false
set_option tactic.hygienic false
set_option maxHeartbeats 0
namespace Mine
open PySem PySem.W PySem.Calls PyProof.Rows
theorem pc2:Piece 31 14 2529 (T1) 330 609 ⟨207,0,222,13⟩ (T2) 621 1061 ⟨399,0,407,25⟩:=CK (fun w p b os=>by kernel_rfl)
end Mine
set_option Elab.async false
set_option maxRecDepth 100000
set_option linter.all false
set_option tactic.hygienic false
set_option maxHeartbeats 0
namespace Mine
open PySem PySem.W PySem.Calls PyProof.Rows
theorem pc3:Piece 45 43 2459 (T2) 621 1061 ⟨399,0,407,25⟩ (T3) 1005 1607 ⟨696,0,696,8⟩:=CK (fun w p b os=>by kernel_rfl)
end Mine
set_option Elab.async false
set_option maxRecDepth 100000
set_option linter.all false
set_option tactic.hygienic false
set_option maxHeartbeats 0
namespace Mine
open PySem PySem.W PySem.Calls PyProof.Rows
theorem pc4:Piece 88 41 2688 (T3) 1005 1607 ⟨696,0,696,8⟩ (T4) 1470 2318 ⟨1224,0,1225,54⟩:=CK (fun w p b os=>by kernel_rfl)
end Mine
set_option Elab.async false
set_option maxRecDepth 100000
set_option linter.all false
set_option tactic.hygienic false
set_option maxHeartbeats 0
namespace Mine
open PySem PySem.W PySem.Calls PyProof.Rows
theorem pc5:Piece 129 8 244 (T4) 1470 2318 ⟨1224,0,1225,54⟩ (T5) 1520 2391 ⟨1328,0,1335,35⟩:=CK (fun w p b os=>by kernel_rfl)
end Mine
set_option Elab.async false
set_option maxRecDepth 100000
set_option linter.all false
set_option tactic.hygienic false
set_option maxHeartbeats 0
namespace Mine
open PySem PySem.W PySem.Calls PyProof.Rows
noncomputable abbrev NN:Nat:=60000
theorem open_is:opening P=plainProg P.main.scope.names:=by kernel_rfl
theorem fence_is:∀ s,fenceModules? P s=some s:=fun s=>by kernel_rfl
theorem boot_is:∀ w:World,(fencedOpening treeTable P w NN).map (fun s=>(s.heap,s.gens,s.drawn,s.toks))=some (boot_heap w.params,Array.mk [],boot_drawn,boot_toks) :=
  boot_open open_is (by decide +kernel) fence_is
noncomputable abbrev bodyE:List Stmt:=behindTheImports P
noncomputable abbrev cE:Code:=.body bodyE en
theorem pre_is (w:World) (os:OsState):topGo treeTable P w 11 (some (.ref 6)) 12 ⟨boot_heap w.params,Array.mk [],boot_drawn,boot_toks,os⟩ (topStub P)=some ((St T0 15 187 w os).abs,⟨denote treeTable cE,cE,posP,[topFrame q0]⟩):=by
  rw [PySem.W.Fast.te15667345088766844465,PySem.W.Fast.te11892475500146522536]
  kernel_rfl
theorem block_is (w:World) (os:OsState):segRun treeTable P w 11 (some (.ref 6)) 1 1 (St T0 15 187 w os).abs (blockOf bodyE en cE posP [topFrame q0])=some (.next,(St T0 15 187 w os).abs,cE,pos0):=by kernel_rfl
theorem fin_is (w:World) (os:OsState):topRun treeTable P w 11 (some (.ref 6)) 2 (St T5 1520 2391 w os).abs ⟨doneF .next,cE,⟨1328,0,1335,35⟩,[topFrame q0]⟩=some (St T5 1520 2391 w os).abs:=by kernel_rfl
theorem body_is:sts 0 31++(sts 31 14++(sts 45 43++(sts 88 41++(sts 129 8++[]))))=bodyE:=by kernel_rfl
theorem Piece.seg {f c N:Nat} {T:Params->BT} {n tk:Nat} {po:Pos} {T':Params->BT} {n' tk':Nat} {po':Pos} (h:Piece f c N T n tk po T' n' tk' po') (w:World) (os:OsState) :
    segRun treeTable P w 11 (some (.ref 6)) 1 N (St T n tk w os).abs (piecesOf (sts f c) en cE po [topFrame q0])=some (.next,(St T' n' tk' w os).abs,cE,po'):=segRun_of (h w P bodyE os)
noncomputable abbrev MM:Nat:=12+(1+(2665+(2529+(2459+(2688+(244+2))))))
theorem run_is (w:World) (os:OsState):topRun treeTable P w 11 (some (.ref 6)) MM ⟨boot_heap w.params,Array.mk [],boot_drawn,boot_toks,os⟩ (topStub P)=some (St T5 1520 2391 w os).abs:=by refine go_top (pre_is w os) (piece_block (block_is w os) ?_);rw [show restOf bodyE en cE pos0 [topFrame q0]=restOf (sts 0 31++(sts 31 14++(sts 45 43++(sts 88 41++(sts 129 8++[]))))) en cE pos0 [topFrame q0] from by rw [body_is]];exact piece_app (pc1.seg w os) (piece_app (pc2.seg w os) (piece_app (pc3.seg w os) (piece_app (pc4.seg w os) (piece_app (pc5.seg w os) (piece_nil (fin_is w os))))))
end Mine
set_option Elab.async false
set_option maxRecDepth 100000
set_option linter.all false
set_option tactic.hygienic false
set_option maxHeartbeats 0
namespace Mine
open PySem PySem.W PySem.Calls PyProof.Rows
noncomputable abbrev qv:Program:=view P [136]
noncomputable def loose:List Str:=P.boundNames.filter fun n => !(n == ("law" : Str))
noncomputable def H1 (p:Params):Heap:=absHeap (T5 p) 1520 {}
noncomputable abbrev mods:List Str:=importedModules P.main.body
theorem run1 (w:World) (os:OsState):topRun treeTable P w 11 (some (.ref 6)) MM ⟨boot_heap w.params,Array.mk [],boot_drawn,boot_toks,os⟩ (topStub P)=some ⟨H1 w.params,Array.mk [],{},2391,os⟩:=run_is w os
theorem size_is (w:World):((boot_heap w.params).isNs mainGlobals && (Array.mk []:Array GenState).size == 0,(boot_heap w.params).objs.size,(boot_heap w.params).nsMap mainGlobals "__annotations__")=(true,11,some (.ref 6)):=by kernel_rfl
noncomputable abbrev XT:Shared->Bool:=fun Y=>true
theorem lk1 (w:World) (os:OsState):(staticsOk mods (boot_heap w.params) (H1 w.params) && namesBound P (H1 w.params) && gensDone ⟨H1 w.params,Array.mk [],{},2391,os⟩ && laidKept (boot_heap w.params) (H1 w.params))=true:=by kernel_rfl
theorem lk2 (w:World) (os:OsState):openSeen qv loose mods XT true ⟨H1 w.params,Array.mk [],{},2391,os⟩=openGood qv loose:=by
  rw [PySem.W.Fast.te4187177175401517315]
  kernel_rfl
theorem left:LeftO P qv loose XT (fun s=>s.heap) (fun w=>H1 w.params) NN :=
  LeftO.of_pieces (H₀:=boot_heap) (H₁:=H1) (M:=MM) boot_is size_is run1 (by decide +kernel) (fun w=>funext fun os=>looks_pair (lk1 w os) (looks_pair (lk2 w os) rfl))
noncomputable abbrev rw1:OpenRow:=PySem.Challenge.rw_pq1368_01.row
noncomputable def dLaw:DefRec:=⟨"law",dArgs (stm 136),dBody (stm 136),dScope (stm 136),dPos (stm 136)⟩
theorem def_is:defOf qv ("law" : Str)=some (dLaw,[]):=by kernel_rfl
theorem theDef_is:P.theDef ("law" : Str)=some (dLaw.params,dLaw.body,dLaw.scope):=by kernel_rfl
theorem kw_is:kwWritten? dLaw.params.kwonlyargs dLaw.params.kw_defaults=some []:=by kernel_rfl
theorem ok_is:(chainsOk qv && opensWell P && (frees rw1.toRowW && rw1.within.isEmpty))=true:=by decide +kernel
theorem bare_is:P.bare:=⟨rfl,rfl,rfl,rfl,rfl,by decide +kernel⟩
theorem prom_is:rw1.toRowW.promised:=⟨[.list []],by decide +kernel,by decide +kernel⟩
abbrev YP:World->Heap->Prop:=fun w h=>∀ b o,(H1 w.params).get? b=some o->h.get? b=some o
abbrev LawWalk:Prop:=WalkO qv loose (fun Y Y=>True) YP rw1.toRowW dLaw [] fun f vs=>PySem.call f vs
theorem holds_of (ok:PySem.Challenge.rw_pq1368_01.wellSaid=true) (call:LawWalk):PySem.Challenge.rw_pq1368_01.Holds :=
  holds_law ok fun k1=>holds_open (q:=qv) (loose:=loose) (Xt:=XT) (XP:=fun Y Y=>True) (Yf:=fun s=>s.heap) (Ya:=fun w=>H1 w.params) (YP:=YP) (N:=NN) (d:=dLaw) (kwd:=[])
    left (fun w s e b o h=>by rw [e];exact h) (fun w h h' y k b o e=>k _ _ (y _ _ e)) (fun Y Y=>trivial) (fun Y Y Y Y Y=>trivial) def_is theDef_is kw_is (fun s Y=>recFacts_nil rfl) rfl k1 ok_is bare_is prom_is call
end Mine
namespace Mine
section
variable {a b c d k l m n i j:Nat} {x y:Int}
@[elab_as_elim] theorem wl {α:Sort _} {a b:α} {P:α->Prop} (h:a=b) (k:P b):P a:=h.substr k
@[elab_as_elim] theorem wr {α:Sort _} {a b:α} {P:α->Prop} (h:b=a) (k:P b):P a:=h▸k
theorem d0 (h:n<=d) (e:Nat.ble 1 n=true):0<d:=Nat.lt_of_lt_of_le (Nat.le_of_ble_eq_true e) h
theorem dle (h:n<=d) (e:Nat.ble (a+1) n=true):a<=d - 1:=Nat.le_sub_of_add_le (Nat.le_trans (Nat.le_of_ble_eq_true e) h)
theorem AN (h:a<=n) (e:Nat.ble n m=true):a<=m:=Nat.le_trans h (Nat.le_of_ble_eq_true e)
theorem r_tl (h:b<a) (k:a<=n) (e:Nat.ble n m=true):b<m:=Nat.lt_of_lt_of_le h (Nat.le_trans k (Nat.le_of_ble_eq_true e))
theorem r_el (h:b=a) (k:a<=n) (e:Nat.ble n m=true):b<=m:=h▸AN k e
theorem r_es (h:c<b) (q:a=b):c<a:=q▸h
theorem r_p (h:a+(b+1)<=n):a+b<=n:=Nat.le_trans (Nat.le_succ _) h
theorem r_p1 (h:a+(b+1)<=n):a+1+b<=n:=wl (Nat.add_right_comm a 1 b) h
theorem r_pl (h:a+(b+1)<=n) (e:Nat.ble n m=true):a<=m:=Nat.le_trans (Nat.le_add_right _ _) (AN h e)
theorem r_pt (h:a+(b+1)<=n) (e:Nat.ble n m=true):a<m:=Nat.lt_of_lt_of_le (Nat.lt_add_of_pos_right (Nat.succ_pos b)) (AN h e)
theorem r_p1l (h:a+(b+1)<=n) (e:Nat.ble n m=true):a+(0+1)<=m:=Nat.le_trans (Nat.add_le_add_left (Nat.succ_le_succ (Nat.zero_le b)) a) (AN h e)
theorem r_2 (h:a<=n) (h':b<=m) (e:Nat.ble (n+m) k=true):a+b<=k:=Nat.le_trans (Nat.add_le_add h h') (Nat.le_of_ble_eq_true e)
theorem r_3 (h:a<=n) (h':b<=m) (h'':c<=l) (e:Nat.ble (n+m+l) k=true):a+b+c<=k:=Nat.le_trans (Nat.add_le_add (Nat.add_le_add h h') h'') (Nat.le_of_ble_eq_true e)
theorem r_a1 (h:a<=c) (e:Nat.ble (c+k) n=true):a+k<=n:=Nat.le_trans (Nat.add_le_add_right h _) (Nat.le_of_ble_eq_true e)
theorem r_mul (h:b<=n) (e:Nat.ble (k * n) m=true):0+k * b<=m:=by rw [Nat.zero_add];exact Nat.le_trans (Nat.mul_le_mul_left k h) (Nat.le_of_ble_eq_true e)
theorem r_s1 (h:a<=n) (e:Nat.ble n m=true):a - k<=m:=Nat.le_trans (Nat.sub_le _ _) (AN h e)
theorem r_ml (h:a<=n) (e:Nat.ble (n+1) m=true):min i a<m:=Nat.lt_of_le_of_lt (Nat.min_le_right _ _) (AN (Nat.succ_le_succ h) e)
theorem r_sd (h:b<a):a - b=a - (b+1)+1:=wl (Nat.sub_add_eq a b 1) (Nat.sub_add_cancel (Nat.sub_pos_of_lt h)).symm
theorem r_sl (h:b<a):a - (b+1)<a - b:=Nat.sub_lt_sub_left h (Nat.lt_succ_self b)
theorem r_nl (h:¬ b<a):a<=b:=Nat.le_of_not_lt h
theorem r_ne (h:b<=a) (q:¬ b<a):b=a:=Nat.le_antisymm h (Nat.le_of_not_lt q)
theorem r_is (h:a<n) (e:Nat.ble n 9223372036854775808=true):(0:Int)<=(a:Int)/\(a:Int)<9223372036854775808:=⟨Int.natCast_nonneg a,Int.ofNat_lt.mpr (Nat.lt_of_lt_of_le h (Nat.le_of_ble_eq_true e))⟩
theorem r_i2 (h:a<n) (e:Nat.ble n 9223372036854775808=true):(0:Int)<=(a:Int)/\(a:Int)<2 ^ 63:=r_is h e
theorem r_il (h:a<=n) (e:Nat.ble n 1000000=true):(0:Int)<=(a:Int)/\(a:Int)<=1000000:=⟨Int.natCast_nonneg a,Int.ofNat_le.mpr (Nat.le_trans h (Nat.le_of_ble_eq_true e))⟩
theorem DJ (h:a<b) (k:b<=n) (e:Nat.ble n 9223372036854775808=true):(0:Int)<=(a:Int)/\(a:Int)<9223372036854775808:=r_is (Nat.lt_of_lt_of_le h k) e
theorem r_is5 (h:a<=n) (e:Nat.ble (n+1) 9223372036854775808=true):(0:Int)<=(a:Int)/\(a:Int)<9223372036854775808:=r_is (Nat.lt_succ_of_le h) e
theorem r_i22 (h:a<b) (k:b<=n) (e:Nat.ble n 9223372036854775808=true):(0:Int)<=(a:Int)/\(a:Int)<2 ^ 63:=DJ h k e
theorem r_il2 (h:a<n) (e:Nat.ble n 1000000=true):(0:Int)<=(a:Int)/\(a:Int)<=1000000:=r_il (Nat.le_of_lt h) e
theorem r_ab (h:a<b) (k:b<=c):a<c:=Nat.lt_of_lt_of_le h k
theorem r_d (h:n<=d) (e:Nat.ble (a+1) n=true):a<=d - 1:=dle h e
theorem r_dl (h:n<=d) (e:Nat.ble (a+2) n=true):a<d - 1:=dle (a:=a+1) h e
theorem BU (h:n<=d) (e:Nat.ble 1 n=true):0<d:=d0 h e
theorem r_ci (h:a<b):(a:Int)<(b:Int):=Int.ofNat_lt.mpr h
theorem r_eq (h:a=b):a<=b:=Nat.le_of_eq h
theorem r_eq' (h:a=b):b<=a:=Nat.le_of_eq h.symm
theorem r_su (h:a<=b):a<=b+1:=Nat.le_succ_of_le h
theorem r_ss (h:a<=b):a+1<=b+1:=Nat.succ_le_succ h
theorem r_d1 (h:0<d):d=d - 1+1:=(Nat.sub_add_cancel h).symm
theorem r_lt3 (h:i<3):i=0\/i=1\/i=2:=(by decide:∀ i,i<3->i=0\/i=1\/i=2) i h
theorem r_lt2 (h:i<2):i=0\/i=1:=(by decide:∀ i,i<2->i=0\/i=1) i h
theorem r_le1 (h:i<=1):i=0\/i=1:=r_lt2 (Nat.lt_succ_of_le h)
theorem r_c0 (h:0<a):((a:Nat):Int) - 1=((a - 1:Nat):Int):=(Int.ofNat_sub h).symm
theorem Bq (h:a<=n) (e:Nat.ble (n+1) m=true):a<m:=Nat.lt_of_le_of_lt h (Nat.le_of_ble_eq_true e)
theorem r_st (h:a+k * (n+1)<=m) (h2:c<=a+b) (h3:b<=k):c+k * n<=m:=Nat.le_trans (Nat.add_le_add_right (Nat.le_trans h2 (Nat.add_le_add_left h3 a)) _) (wl (Nat.add_assoc a k (k * n)) (wl (Nat.add_comm k (k * n)) h))
theorem r_sq (h:a+k * (n+1)<=m) (h3:b<=k) (e:Nat.ble m l=true):a+b<=l:=Nat.le_trans (Nat.add_le_add_left (Nat.le_trans h3 (Nat.le_mul_of_pos_right k (Nat.succ_pos n))) a) (AN h e)
theorem r_cx (h:a+c * (d+1)<=m) (e:Nat.ble k c=true):a+k+c * d<=m:=r_st h (Nat.le_refl (a+k)) (Nat.le_of_ble_eq_true e)
theorem r_cl (h:b<=d) (q:a+c * d<=m):a+c * b<=m:=Nat.le_trans (Nat.add_le_add_left (Nat.mul_le_mul_left c h) a) q
theorem r_al (h:a+b<=m) (e:Nat.ble m n=true):a<=n:=Nat.le_trans (Nat.le_add_right a b) (AN h e)
theorem r_ch (h:b<=a+1) (k:c<=b+n):c<=a+(n+1):=Nat.le_trans k (Nat.le_trans (Nat.add_le_add_right h n) (Nat.le_of_eq (Nat.add_right_comm a 1 n)))
theorem r_cc (h:b<=a+1) (k:a<=c+2):b<=c+1+2:=Nat.le_trans h (Nat.succ_le_succ k)
theorem r_n0:¬ ((n+1:Nat):Int)=0:=fun q=>Nat.succ_ne_zero n (Int.ofNat.inj q)
theorem r_gp (h:0<n):(n:Int) > 0:=Int.ofNat_lt.mpr h
theorem r_i1 (n:Nat):((n+1:Nat):Int) - 1=(n:Int):=Int.add_sub_cancel n 1
theorem r_cs (h:b<=a):(a:Int) - b=((a - b:Nat):Int):=(Int.ofNat_sub h).symm
theorem r_ri (h:i<n):(n:Int) - 1 - i=((n - 1 - i:Nat):Int):=by rw [Int.ofNat_sub (Nat.le_sub_one_of_lt h),Int.ofNat_sub (Nat.lt_of_le_of_lt (Nat.zero_le i) h)];rfl
end
end Mine
namespace Mine
open PySem PySem.W PySem.Calls PyProof.Rows
inductive V where
  | any
  | none
  | bool (b:Bool)
  | int (i:Int)
  | str (x:Str)
  | ref (a:Addr)
  | type (n:String)
  | bi (n:String)
  | tup (xs:List V)
  | lst (xs:List V)
  | dct (es:List (Str×V))
  | obj (C:Addr) (es:List (Nat×V))
inductive Cell where
  | fz (v:V)
  | mu (v:V)
  | hid (a:Addr)
  | rw (o:Obj)
  | fr (d:Data)
  | lc
  | ce
  | tb
noncomputable abbrev Gh:=Addr->Option Cell
noncomputable abbrev Hp:=Addr->Option V
noncomputable def upd {α:Type} (f:Addr->Option α) (a:Addr) (x:α):Addr->Option α:=fun b=>if b=a then some x else f b
noncomputable def del {α:Type} (f:Addr->Option α) (a:Addr):Addr->Option α:=fun b=>if b=a then none else f b
@[simp] theorem AA {α:Type} (f:Addr->Option α) (a:Addr) (x:α):upd f a x a=some x:=by simp [upd]
theorem AC {α:Type} {f:Addr->Option α} {a b:Addr} {x:α} (h:b≠a):upd f a x b=f b:=by simp [upd,h]
inductive FzAt (G:Gh) (v:V) (x:Value):Prop
  | mk (a:Addr) (e:x = .ref a) (h:G a=some (.fz v))
def VR (G:Gh):V->Value->Prop
  | .any,_=>True
  | .none,x=>x = .none
  | .bool b,x=>x = .bool b
  | .int i,x=>∃ t,x = .int i t
  | .str s,x=>∃ t,x = .str s t
  | .ref a,x=>x = .ref a
  | .type n,x=>x = .type n
  | .bi n,x=>x = .builtin n
  | .tup xs,x=>FzAt G (.tup xs) x
  | .lst xs,x=>FzAt G (.lst xs) x
  | .dct es,x=>FzAt G (.dct es) x
  | .obj C es,x=>FzAt G (.obj C es) x
inductive VRs (G:Gh):List V->List Value->Prop
  | nil:VRs G [] []
  | cons {v:V} {x:Value} {vs:List V} {xs:List Value} (h:VR G v x) (t:VRs G vs xs):VRs G (v::vs) (x::xs)
inductive VKs (G:Gh):List (Str×V)->List (Str×Value)->Prop
  | nil:VKs G [] []
  | cons {k:Str} {v:V} {x:Value} {vs:List (Str×V)} {xs:List (Str×Value)} (h:VR G v x) (t:VKs G vs xs):VKs G ((k,v)::vs) ((k,x)::xs)
noncomputable def at? {K:Type} [DecidableEq K] (es:List (K×V)) (k:K):Option V:=(es.find? fun kv=>decide (kv.1=k)).map (·.2)
noncomputable def put {K:Type} [DecidableEq K] (es:List (K×V)) (k:K) (v:V):List (K×V) :=
  if es.any (fun kv=>decide (kv.1=k)) then es.map (fun kv=>if kv.1=k then (kv.1,v) else kv) else es++[(k,v)]
noncomputable abbrev SK (w:World):KeyKind PySem.Challenge.pw_pq1368_01 w Str:=strKind PySem.Challenge.pw_pq1368_01 w
noncomputable def flds:List String:=["attrs","kind","tags","frame","items","name","formals","used","places","contains","classes","unions","slots","s4","prototype","virtual","base","next_number","globals","visible","message","validity","shared","loose","special","fn","group","number","parent","locked","locks","generics","methods","older","limit","most_frames","steps","frames","out","warnings","handlers","restarts","targets","current","dispatcher","signaller","warner","deparser"]
noncomputable def fld (i:Nat):Str:=match flds[i]? with | some n=>Str.ofString n | none=>⟨#[]⟩
noncomputable def clsL:List Addr:=[117,252,304,409,487,573,595,843,878,1444]
inductive Sn (h:Heap) (a:Addr) (n:Nat) (m:Str->Option Value):Prop
  | mk (o:Obj) (es:Array DictEntry) (ep:Nat) (h1:h.get? a=some o) (h2:o.data = .dict es ep) (h3:StrKeys es) (h4:es.size<=n) (h5:∀ x,nsFind es x=m x)
theorem Sn.keep {h h':Heap} {a:Addr} {n:Nat} {m:Str->Option Value} (x:Sn h a n m) (k:∀ o,h.get? a=some o->h'.get? a=some o):Sn h' a n m :=
  let ⟨o,es,ep,ho,r1,r2,r3,r4⟩:=x;⟨o,es,ep,k o ho,r1,r2,r3,r4⟩
theorem Sn.ns {h:Heap} {a:Addr} {n:Nat} {m:Str->Option Value} (x:Sn h a n m):h.Ns a m :=
  let ⟨o,es,ep,ho,hd,hk,_,hm⟩:=x;⟨o,es,ep,ho,hd,hk,hm⟩
theorem Sn.new (h:Heap) (cls:Value):Sn (h.push {cls,data:=.dict #[]}) h.objs.size 0 fun Y=>none :=
  ⟨_,#[],0,Heap.get?_push_size _ rfl,rfl,fun Y he=>by simp at he,Nat.le_refl _,fun Y=>rfl⟩
theorem Sn.put {h:Heap} {a:Addr} {n:Nat} {m:Str->Option Value} (x:Sn h a n m) (name:Str) (hs:Int) (t:Tok) (v:Value) :
    Sn (h.update a (Obj.putName name hs (.str name t) v)) a (if (m name).isSome then n else n+1) (fun y=>if y=name then some v else m y):=by
  obtain ⟨o,es,ep,ho,hd,hk,hz,hm⟩:=x;obtain ⟨c,d,dt,sl⟩:=o;subst hd;have hf:(m name)=match es.findIdx? (·.key.isStr name) with | some i=>es[i]?.map (·.val) | none=>none:=by rw [<- hm];exact findBy_of_findIdx? _ es name
  cases hi:es.findIdx? (·.key.isStr name) with
  | some i =>
    have hlt:i<es.size:=by exact (Array.findIdx?_eq_some_iff_findIdx_eq.mp hi).1
    have:(m name).isSome=true:=by rw [hf,hi];simp [Array.getElem?_eq_getElem hlt]
    refine wl (if_pos this ..) ?_;refine ⟨_,_,ep,Heap.get?_update_self _ ho (by simp only [Obj.putName_eq,Obj.putNameByArray,hi];rfl),by simp only [Obj.putName_eq,Obj.putNameByArray,hi];rfl,hk.modify _ _,by simpa using hz,fun x=>?_⟩;show _=if x=name then some v else m x
    rw [<- hm];exact findBy_modify (fun n v=>v.isStr n) Value.isStr_inj es name x v i hi
  | none =>
    have:¬ (m name).isSome=true:=by rw [hf,hi];simp
    refine wl (if_neg this ..) ?_;refine ⟨_,_,ep+1,Heap.get?_update_self _ ho (by simp only [Obj.putName_eq,Obj.putNameByArray,hi];rfl),by simp only [Obj.putName_eq,Obj.putNameByArray,hi];rfl,hk.push _ _ _ _,by simpa using hz,fun x=>?_⟩;show _=if x=name then some v else m x
    refine wr (hm ..) ?_;exact findBy_push (fun n v=>v.isStr n) es name x _ _ v (fun y=>by
      show (name == y)=decide (y=name);by_cases h:y=name
      . subst h;simp
      . have:¬ name=y:=fun e=>h e.symm;simp [h,this]) hi
inductive SeqIn (k:String) (G:Gh) (h:Heap) (a:Addr) (xs:List V):Prop
  | mk (items:List Value) (n:Nat) (h1:h.get? a=some {cls:=.type k,data:=.seq items.toArray n}) (h2:VRs G xs items)
inductive DctIn (w:World) (G:Gh) (h:Heap) (a:Addr) (es:List (Str×V)):Prop
  | mk (h0:(a == sysModules)=false) (kvs:List (Str×Value)) (h1:h.DictOf (SK w) a kvs) (h2:VKs G es kvs)
inductive InsIn (h:Heap) (a C dx:Addr):Prop
  | mk (hC:C∈clsL) (o:Obj) (h1:h.get? a=some o) (h2:o.cls = .ref C) (h3:o.dict=some dx) (h4:notCls o=true)
inductive ObjIn (G:Gh) (h:Heap) (a C:Addr) (es:List (Nat×V)):Prop
  | mk (dx:Addr) (i:InsIn h a C dx) (mm:Str->Option Value) (q1:G dx=some (.hid a)) (q2:Sn h dx es.length mm) (q3:es.length<=900/\∀ k v,at? es k=some v->k<flds.length)
      (q4:∀ k v,at? es k=some v->∃ x,mm (fld k)=some x/\VR G v x) (q5:∀ x,(∀ k v,at? es k=some v->fld k≠x)->mm x=none)
def OR (w:World) (G:Gh) (h:Heap) (a:Addr):V->Prop
  | .lst xs=>SeqIn "list" G h a xs
  | .tup xs=>SeqIn "tuple" G h a xs
  | .dct es=>DctIn w G h a es
  | .obj C es=>ObjIn G h a C es
  | _=>False
noncomputable def tabL:List (Addr×Addr):=[(433,429),(1081,1077)]
noncomputable def Ap (b:Addr):Bool:=b == 429 || b == 1077
def TabOk (G:Gh) (h:Heap) (a:Addr):Prop :=
  ∃ ps:Array Value,h.get? a=some {cls:=.none,data:=.fields ps}/\TriplesOk ps.toList/\∀ pos c,codeAmong pos ps.toList=some c->∃ ca vs q t,c = .ref ca/\G ca=some (.fr (.fields vs))/\vs[1]?=some (.str q t)
theorem TabOk.to {G G':Gh} {h h':Heap} {a:Addr} (x:TabOk G h a) (k:∀ o,h.get? a=some o->h'.get? a=some o) (e:∀ c d,G c=some (.fr d)->G' c=some (.fr d)):TabOk G' h' a :=
  let ⟨ps,p1,p2,p3⟩:=x;⟨ps,k _ p1,p2,fun pos c q=>let ⟨ca,vs,n,t,q1,q2,q3⟩:=p3 pos c q;⟨ca,vs,n,t,q1,e _ _ q2,q3⟩⟩
def OC (w:World) (G:Gh) (h:Heap) (a:Addr):Cell->Prop
  | .fz v=>OR w G h a v
  | .mu v=>OR w G h a v
  | .hid _=>(h.get? a).isSome=true
  | .rw o=>h.get? a=some o
  | .fr d=>∃ o,h.get? a=some o/\o.data=d
  | .lc=>∃ o es ep,h.get? a=some o/\o.data = .dict es ep
  | .ce=>(h.get? a).isSome=true
  | .tb=>TabOk G h a
structure Sat (w:World) (B:Heap) (os:OsState) (G:Gh) (s:Shared):Prop where
  top:∀ b o,Ap b=false->(H1 w.params).get? b=some o->B.get? b=some o
  base:∀ b o,B.get? b=some o->s.heap.get? b=some o
  cells:∀ a c,G a=some c->B.get? a=none/\OC w G s.heap a c
  gens:s.gens = #[]
  os:s.os=os
  tbs:∀ b,Ap b=true->G b=some .tb
def Ext (G G':Gh):Prop:=∀ a c,G a=some c->(∀ v,c≠.mu v)->G' a=some c
theorem Ext.refl (G:Gh):Ext G G:=fun Y Y h Y=>h
theorem Ext.trans {G₁ G₂ G₃:Gh} (x:Ext G₁ G₂) (y:Ext G₂ G₃):Ext G₁ G₃:=fun a c h n=>y a c (x a c h n) n
theorem Ext.fz {G G':Gh} (x:Ext G G') {a:Addr} {v:V} (h:G a=some (.fz v)):G' a=some (.fz v):=x a _ h (fun Y e=>by cases e)
theorem Ext.hid {G G':Gh} (x:Ext G G') {a b:Addr} (h:G a=some (.hid b)):G' a=some (.hid b):=x a _ h (fun Y e=>by cases e)
theorem Ext.fr {G G':Gh} (x:Ext G G') {a:Addr} {d:Data} (h:G a=some (.fr d)):G' a=some (.fr d):=x a _ h (fun Y e=>by cases e)
theorem Ext.rw {G G':Gh} (x:Ext G G') {a:Addr} {o:Obj} (h:G a=some (.rw o)):G' a=some (.rw o):=x a _ h (fun Y e=>by cases e)
theorem Ext.lc {G G':Gh} (x:Ext G G') {a:Addr} (h:G a=some .lc):G' a=some .lc:=x a _ h (fun Y e=>by cases e)
theorem Ext.tb {G G':Gh} (x:Ext G G') (h:∀ b,Ap b=true->G b=some .tb):∀ b,Ap b=true->G' b=some .tb:=fun b q=>x b _ (h b q) (fun Y e=>by cases e)
theorem VR.ext {G G':Gh} (e:Ext G G'):∀ {v:V} {x:Value},VR G v x->VR G' v x
  | .any,_,h | .none,_,h | .bool _,_,h | .int _,_,h | .str _,_,h | .ref _,_,h | .type _,_,h | .bi _,_,h=>h
  | .tup _,_,h | .lst _,_,h | .dct _,_,h | .obj _ _,_,h=>let ⟨a,h1,h2⟩:=h;⟨a,h1,e.fz h2⟩
theorem VRs.ext {G G':Gh} (e:Ext G G') {vs:List V} {xs:List Value} (h:VRs G vs xs):VRs G' vs xs:=by
  induction h with
  | nil=>exact .nil
  | cons h _ ih=>exact .cons (h.ext e) ih
theorem VKs.ext {G G':Gh} (e:Ext G G') {vs:List (Str×V)} {xs:List (Str×Value)} (h:VKs G vs xs):VKs G' vs xs:=by
  induction h with
  | nil=>exact .nil
  | cons h _ ih=>exact .cons (h.ext e) ih
theorem VRs.length {G:Gh} {vs:List V} {xs:List Value} (h:VRs G vs xs):vs.length=xs.length:=by
  induction h with
  | nil=>rfl
  | cons _ _ ih=>simp [ih]
theorem VRs.append {G:Gh} {vs ws:List V} {xs ys:List Value} (h:VRs G vs xs) (k:VRs G ws ys):VRs G (vs++ws) (xs++ys):=by
  induction h with
  | nil=>exact k
  | cons h _ ih=>exact .cons h ih
theorem VRs.get {G:Gh} {vs:List V} {xs:List Value} (h:VRs G vs xs):∀ {i:Nat} {v:V},vs[i]?=some v->∃ x,xs[i]?=some x/\VR G v x:=by
  induction h with
  | nil=>intro i v h;simp at h
  | cons h _ ih =>
    intro i v hv;cases i with
    | zero=>simp at hv;subst hv;exact ⟨_,rfl,h⟩
    | succ i=>simp at hv;obtain ⟨x,h1,h2⟩:=ih hv;exact ⟨x,by simpa using h1,h2⟩
theorem VRs.take {G:Gh} {vs:List V} {xs:List Value} (h:VRs G vs xs):∀ n,VRs G (vs.take n) (xs.take n):=by
  induction h with
  | nil=>intro n;simp;exact .nil
  | cons h _ ih=>intro n;cases n with
    | zero=>exact .nil
    | succ n=>simpa using VRs.cons h (ih n)
theorem VRs.drop {G:Gh} {vs:List V} {xs:List Value} (h:VRs G vs xs):∀ n,VRs G (vs.drop n) (xs.drop n):=by
  induction h with
  | nil=>intro n;simp;exact .nil
  | cons h t ih=>intro n;cases n with
    | zero=>exact .cons h t
    | succ n=>simpa using ih n
theorem VKs.length {G:Gh} {vs:List (Str×V)} {xs:List (Str×Value)} (h:VKs G vs xs):vs.length=xs.length:=by
  induction h with
  | nil=>rfl
  | cons _ _ ih=>simp [ih]
theorem VKs.keys {G:Gh} {vs:List (Str×V)} {xs:List (Str×Value)} (h:VKs G vs xs):xs.map (·.1)=vs.map (·.1):=by
  induction h with
  | nil=>rfl
  | cons _ _ ih=>simp [ih]
theorem VKs.at {G:Gh} {vs:List (Str×V)} {xs:List (Str×Value)} (h:VKs G vs xs) (k:Str) :
    (at? vs k=none/\valueAt xs k=none)\/∃ v x,at? vs k=some v/\valueAt xs k=some x/\VR G v x:=by
  induction h with
  | nil=>exact .inl ⟨rfl,rfl⟩
  | @cons k' v x vs xs h _ ih =>
    unfold at? valueAt;refine wl (List.find?_cons ..) ?_;refine wl (List.find?_cons ..) ?_;by_cases e:k'=k
    . simp only [e,decide_true];exact .inr ⟨v,x,rfl,rfl,h⟩
    . simp only [e,decide_false];exact ih
theorem VKs.put {G:Gh} {vs:List (Str×V)} {xs:List (Str×Value)} (h:VKs G vs xs) (k:Str) {v:V} {x:Value} (hv:VR G v x):VKs G (put vs k v) (stored xs k x):=by
  have hany:∀ {vs:List (Str×V)} {xs:List (Str×Value)},VKs G vs xs->vs.any (fun kv=>decide (kv.1=k))=xs.any (fun kv=>decide (kv.1=k)):=by
    intro vs xs h
    induction h with
    | nil=>rfl
    | cons _ _ ih=>simp only [List.any_cons,ih]
  have happ:∀ {vs:List (Str×V)} {xs:List (Str×Value)},VKs G vs xs->VKs G (vs++[(k,v)]) (xs++[(k,x)]):=by
    intro vs xs h
    induction h with
    | nil=>exact .cons hv .nil
    | cons h _ ih=>exact .cons h ih
  have hmap:∀ {vs:List (Str×V)} {xs:List (Str×Value)},VKs G vs xs->VKs G (vs.map (fun kv=>if kv.1=k then (kv.1,v) else kv)) (xs.map (fun kv=>if kv.1=k then (kv.1,x) else kv)):=by
    intro vs xs h
    induction h with
    | nil=>exact .nil
    | @cons k' v' x' _ _ h _ ih =>
      simp only [List.map_cons];by_cases e:k'=k
      . simp only [e,if_true];exact .cons hv ih
      . simp only [e,if_false];exact .cons h ih
  unfold Mine.put stored;refine wl (hany h ..) ?_;split
  . exact hmap h
  . exact happ h
theorem OR.ext {w:World} {G G':Gh} {h:Heap} {a:Addr} (e:Ext G G'):∀ {v:V},OR w G h a v->OR w G' h a v
  | .lst _,⟨i,n,h1,h2⟩=>⟨i,n,h1,h2.ext e⟩
  | .tup _,⟨i,n,h1,h2⟩=>⟨i,n,h1,h2.ext e⟩
  | .dct _,⟨s,k,h1,h2⟩=>⟨s,k,h1,h2.ext e⟩
  | .obj _ _,⟨dx,h1,k,h2,h4,h5,h6,h7⟩=>⟨dx,h1,k,e.hid h2,h4,h5,fun k v hv=>let ⟨x,a,b⟩:=h6 k v hv;⟨x,a,b.ext e⟩,h7⟩
  | .any,h | .none,h | .bool _,h | .int _,h | .str _,h | .ref _,h | .type _,h | .bi _,h=>h.elim
theorem OC.ext {w:World} {G G':Gh} {h:Heap} {a:Addr} (e:Ext G G'):∀ {c:Cell},OC w G h a c->OC w G' h a c
  | .fz _,x=>OR.ext e x
  | .mu _,x=>OR.ext e x
  | .hid _,x | .rw _,x | .fr _,x | .lc,x | .ce,x=>x
  | .tb,x=>x.to (fun Y z=>z) fun Y Y z=>e.fr z
theorem OR.alive {w:World} {G:Gh} {h:Heap} {a:Addr}:∀ {v:V},OR w G h a v->(h.get? a).isSome=true
  | .lst _,⟨i,n,h1,h2⟩=>by rw [h1];rfl
  | .tup _,⟨i,n,h1,h2⟩=>by rw [h1];rfl
  | .dct _,⟨s,k,⟨o,_,_,ho,_⟩,h2⟩=>by rw [ho];rfl
  | .obj _ _,⟨_,⟨_,_,h1,_,_,_⟩,_,_,_,_,_,_⟩=>by rw [h1];rfl
  | .any,h | .none,h | .bool _,h | .int _,h | .str _,h | .ref _,h | .type _,h | .bi _,h=>h.elim
theorem OC.alive {w:World} {G:Gh} {h:Heap} {a:Addr}:∀ {c:Cell},OC w G h a c->(h.get? a).isSome=true
  | .fz _,x=>OR.alive x
  | .mu _,x=>OR.alive x
  | .hid _,x=>x
  | .rw _,x=>by rw [show h.get? a=_ from x];rfl
  | .fr _,⟨_,x,_⟩=>by rw [x];rfl
  | .lc,⟨_,_,_,x,_⟩=>by rw [x];rfl
  | .ce,x=>x
  | .tb,⟨_,x,_⟩=>by rw [x];rfl
theorem OR.keep {w:World} {G:Gh} {h h':Heap} {a:Addr} (ka:∀ o,h.get? a=some o->h'.get? a=some o) (kd:∀ dx o,G dx=some (.hid a)->h.get? dx=some o->h'.get? dx=some o) :
    ∀ {v:V},OR w G h a v->OR w G h' a v
  | .lst _,⟨i,n,h1,h2⟩=>⟨i,n,ka _ h1,h2⟩
  | .tup _,⟨i,n,h1,h2⟩=>⟨i,n,ka _ h1,h2⟩
  | .dct _,⟨s,k,⟨o,es,ep,ho,r⟩,h2⟩=>⟨s,k,⟨o,es,ep,ka _ ho,r⟩,h2⟩
  | .obj _ _,⟨dx,⟨h0,o',h1,i1,i2,i3⟩,k,h2,h4,h5,h6,h7⟩=>⟨dx,⟨h0,o',ka _ h1,i1,i2,i3⟩,k,h2,h4.keep fun o ho=>kd dx o h2 ho,h5,h6,h7⟩
  | .any,h | .none,h | .bool _,h | .int _,h | .str _,h | .ref _,h | .type _,h | .bi _,h=>h.elim
theorem OC.keep {w:World} {G:Gh} {h h':Heap} {a:Addr} (ka:∀ o,h.get? a=some o->h'.get? a=some o) (kd:∀ dx o,G dx=some (.hid a)->h.get? dx=some o->h'.get? dx=some o) :
    ∀ {c:Cell},OC w G h a c->OC w G h' a c
  | .fz _,x=>OR.keep ka kd x
  | .mu _,x=>OR.keep ka kd x
  | .rw _,x=>ka _ x
  | .fr _,⟨o,x,y⟩=>⟨o,ka _ x,y⟩
  | .lc,⟨o,es,ep,x,y⟩=>⟨o,es,ep,ka _ x,y⟩
  | .tb,x=>x.to ka fun Y Y z=>z
  | .hid _,x | .ce,x=>by obtain ⟨o,ho⟩:=Option.isSome_iff_exists.mp x;show (h'.get? a).isSome=true;rw [ka _ ho];rfl
section
variable {w:World} {B:Heap} {os:OsState} {G G':Gh} {s s':Shared}
theorem Sat.lt (S:Sat w B os G s) {a:Addr} {c:Cell} (h:G a=some c):a<s.heap.objs.size:=by obtain ⟨o,ho⟩:=Option.isSome_iff_exists.mp (S.cells a c h).2.alive;exact Heap.lt_size ho
theorem Sat.fresh (S:Sat w B os G s):G s.heap.objs.size=none:=by
  cases h:G s.heap.objs.size with
  | none=>rfl
  | some c=>exact absurd (S.lt h) (Nat.lt_irrefl _)
theorem Sat.freshB (S:Sat w B os G s):B.get? s.heap.objs.size=none:=by
  cases h:B.get? s.heap.objs.size with
  | none=>rfl
  | some o=>exact absurd (Heap.lt_size (S.base _ _ h)) (Nat.lt_irrefl _)
theorem Sat.alone (S:Sat w B os G s) {a:Addr} {c:Cell} (h:G a=some c):B.get? a=none:=(S.cells a c h).1
theorem Ext.upd_fresh {a:Addr} {c:Cell} (h:G a=none):Ext G (upd G a c):=fun b c' e Y=>by
  by_cases q:b=a
  . subst q;rw [h] at e;cases e
  . rw [AC q];exact e
theorem Sat.keeps (S:Sat w B os G s) (k:∀ b o,s.heap.get? b=some o->s'.heap.get? b=some o) (hg:s'.gens=s.gens) (ho:s'.os=s.os):Sat w B os G s' :=
  ⟨S.top,fun b o e=>k _ _ (S.base b o e),fun a c e=>⟨(S.cells a c e).1,(S.cells a c e).2.keep (fun o=>k a o) fun dx o Y=>k dx o⟩,hg.trans S.gens,ho.trans S.os,S.tbs⟩
theorem Sat.push (S:Sat w B os G s) {o:Obj} {c:Cell} (hf:o.isFreed=false)
    (hc:∀ G',Ext G G'->OC w G' (s.heap.push o) s.heap.objs.size c) (hs:s'.heap=s.heap.push o) (hg:s'.gens=s.gens) (ho:s'.os=s.os) :
    Sat w B os (upd G s.heap.objs.size c) s':=by
  have k:∀ b o',s.heap.get? b=some o'->s'.heap.get? b=some o':=fun b o' e=>by rw [hs];exact Heap.get?_push_of_some _ e
  have e:=Ext.upd_fresh (c:=c) S.fresh;have S':=S.keeps k hg ho;refine ⟨S'.top,S'.base,fun a c' h=>?_,S'.gens,S'.os,e.tb S.tbs⟩;by_cases q:a=s.heap.objs.size
  . subst q;rw [AA] at h;cases h;exact ⟨S.freshB,by rw [hs];exact hc _ e⟩
  . rw [AC q] at h;exact ⟨(S'.cells a c' h).1,(S'.cells a c' h).2.ext e⟩
theorem Sat.setK (S:Sat w B os G s) {a:Addr} {v v':V} (ha:G a=some (.mu v)) (k:∀ b o,b≠a->s.heap.get? b=some o->s'.heap.get? b=some o) (hc:OR w G s'.heap a v') (hg:s'.gens=s.gens) (ho:s'.os=s.os) :
    Sat w B os (upd G a (.mu v')) s'/\Ext G (upd G a (.mu v')):=by
  have e:Ext G (upd G a (.mu v')):=fun b c h n=>by
    by_cases q:b=a
    . subst q;rw [ha] at h;cases h;exact absurd rfl (n v)
    . rw [AC q];exact h
  refine ⟨⟨S.top,fun b o h=>?_,fun b c h=>?_,hg.trans S.gens,ho.trans S.os,e.tb S.tbs⟩,e⟩
  . exact k b o (fun q=>by subst q;have:=(S.cells b _ ha).1;rw [h] at this;cases this) (S.base b o h)
  . by_cases q:b=a
    . subst q;rw [AA] at h;cases h;exact ⟨S.alone ha,OR.ext e hc⟩
    . rw [AC q] at h;exact ⟨S.alone h,((S.cells b c h).2.keep (fun o z=>k b o q z) fun dx o hd z=>k dx o (fun q=>by subst q;rw [ha] at hd;cases hd) z).ext e⟩
theorem Sat.set (S:Sat w B os G s) {a:Addr} {v v':V} (ha:G a=some (.mu v)) (k:Heap.SameBut a s.heap s'.heap) (hc:OR w G s'.heap a v') (hg:s'.gens=s.gens) (ho:s'.os=s.os) :
    Sat w B os (upd G a (.mu v')) s'/\Ext G (upd G a (.mu v')):=S.setK ha (fun b Y n z=>(k.2 b n).trans z) hc hg ho
theorem upd_id {α:Type} {f:Addr->Option α} {a:Addr} {x:α} (h:f a=some x):upd f a x=f:=by
  funext b;unfold upd;split
  . rename_i q;rw [q,h]
  . rfl
theorem Sat.setHid (S:Sat w B os G s) {a dx:Addr} {v v':V} (ha:G a=some (.mu v)) (hd:G dx=some (.hid a)) (k:Heap.SameBut dx s.heap s'.heap) (hl:(s'.heap.get? dx).isSome=true) (hc:OR w G s'.heap a v') (hg:s'.gens=s.gens) (ho:s'.os=s.os) :
    Sat w B os (upd G a (.mu v')) s'/\Ext G (upd G a (.mu v')):=by
  have e:Ext G (upd G a (.mu v')):=fun b c h n=>by
    by_cases q:b=a
    . subst q;rw [ha] at h;cases h;exact absurd rfl (n v)
    . rw [AC q];exact h
  refine ⟨⟨S.top,fun b o h=>?_,fun b c h=>?_,hg.trans S.gens,ho.trans S.os,e.tb S.tbs⟩,e⟩
  . have:b≠dx:=fun q=>by subst q;have:=(S.cells b _ hd).1;rw [h] at this;cases this
    exact (k.2 b this).trans (S.base b o h)
  . by_cases q:b=a
    . subst q;rw [AA] at h;cases h;exact ⟨S.alone ha,OR.ext e hc⟩
    . replace h:=AC q▸h;refine ⟨S.alone h,?_⟩;by_cases q2:b=dx
      . subst q2;rw [hd] at h;cases h;exact hl
      . refine ((S.cells b c h).2.keep (fun o z=>(k.2 b q2).trans z) fun dx' o hd' z=>?_).ext e;have:dx'≠dx:=fun z=>by subst z;rw [hd] at hd';cases hd';exact q rfl
        exact (k.2 dx' this).trans z
theorem Sat.freeze (S:Sat w B os G s) {a:Addr} {v:V} (ha:G a=some (.mu v)):Sat w B os (upd G a (.fz v)) s/\Ext G (upd G a (.fz v)):=by
  have e:Ext G (upd G a (.fz v)):=fun b c h n=>by
    by_cases q:b=a
    . subst q;rw [ha] at h;cases h;exact absurd rfl (n v)
    . rw [AC q];exact h
  refine ⟨⟨S.top,S.base,fun b c h=>?_,S.gens,S.os,e.tb S.tbs⟩,e⟩;by_cases q:b=a
  . subst q;rw [AA] at h;cases h;exact ⟨S.alone ha,OR.ext e (S.cells b _ ha).2⟩
  . rw [AC q] at h;exact ⟨S.alone h,(S.cells b c h).2.ext e⟩
end
def Le (H:Hp) (G:Gh):Prop:=∀ a v,H a=some v->G a=some (.mu v)
theorem Le.fresh {w:World} {B:Heap} {os:OsState} {H:Hp} {G:Gh} {s:Shared} (l:Le H G) (S:Sat w B os G s):H s.heap.objs.size=none:=by
  cases h:H s.heap.objs.size with
  | none=>rfl
  | some v=>have:=l _ _ h;rw [S.fresh] at this;cases this
theorem Le.upd {H:Hp} {G:Gh} (l:Le H G) (a:Addr) (v:V):Le (Mine.upd H a v) (Mine.upd G a (.mu v)):=fun b x h=>by
  by_cases q:b=a
  . subst q;rw [AA] at h;cases h;rw [AA]
  . rw [AC q] at h;rw [AC q];exact l _ _ h
theorem Le.other {H:Hp} {G:Gh} (l:Le H G) {a:Addr} {c:Cell} (h:H a=none):Le H (Mine.upd G a c):=fun b x e=>by
  have:b≠a:=fun q=>by subst q;rw [h] at e;cases e
  rw [AC this];exact l _ _ e
theorem Le.del {H:Hp} {G:Gh} (l:Le H G) (a:Addr) (c:Cell):Le (Mine.del H a) (Mine.upd G a c):=fun b x e=>by
  unfold Mine.del at e;by_cases q:b=a
  . simp [q] at e
  . simp only [q,if_false] at e;rw [AC q];exact l _ _ e
theorem Le.mono {H H':Hp} {G:Gh} (l:Le H G) (h:∀ a v,H' a=some v->H a=some v):Le H' G:=fun a v e=>l _ _ (h _ _ e)
noncomputable abbrev PP:Program:=PySem.Challenge.pw_pq1368_01
noncomputable abbrev Mo (w:World):Model:=model PP w
noncomputable abbrev CR:Addr:=117
structure Cx (A:Around) (d:Nat) (G:Gh):Prop where
  handled:0<d->A.handled=none
  depth:A.depth+8 * d<=990
  units:A.units+100 * d<=9700
  frames:∃ l,A.frames=some l/\∀ env∈l,env.scope.kind≠.module/\∃ L,env.frame=some L/\(G L=some .lc\/∃ d,G L=some (.fr d)/\∀ vs,d≠.fields vs)
theorem Cx.ext {A:Around} {d:Nat} {G G':Gh} (c:Cx A d G) (e:Ext G G'):Cx A d G':=by obtain ⟨h,x,y,l,hl,z⟩:=c;refine ⟨h,x,y,l,hl,fun env m=>?_⟩;obtain ⟨a,L,b,q⟩:=z env m;exact ⟨a,L,b,q.imp e.lc fun ⟨d,q,n⟩=>⟨d,e.fr q,n⟩⟩
theorem Cx.le {A:Around} {d d':Nat} {G:Gh} (c:Cx A d G) (h:d'<=d):Cx A d' G :=
  ⟨fun p=>c.handled (Nat.lt_of_lt_of_le p h),r_cl h c.depth,r_cl h c.units,c.frames⟩
def LKeep (G:Gh) (h h':Heap):Prop:=∀ a,(G a=some .lc->∀ o,h.get? a=some o->∃ o',h'.get? a=some o'/\o'.data=o.data)/\(∀ v,G a=some (.fz v)->∀ o,h.get? a=some o->h'.get? a=some o)
theorem LKeep.refl (G:Gh) (h:Heap):LKeep G h h:=fun Y=>⟨fun Y o e=>⟨o,e,rfl⟩,fun Y Y Y e=>e⟩
theorem LKeep.trans {G G₁:Gh} {h h₁ h₂:Heap} (x:LKeep G h h₁) (e:Ext G G₁) (y:LKeep G₁ h₁ h₂):LKeep G h h₂:=fun a=>⟨fun l o ho=>by
  obtain ⟨o₁,a1,b1⟩:=(x a).1 l o ho;obtain ⟨o₂,a2,b2⟩:=(y a).1 (e.lc l) o₁ a1;exact ⟨o₂,a2,b2.trans b1⟩,fun v l o ho=>(y a).2 v (e.fz l) o ((x a).2 v l o ho)⟩
theorem LKeep.keeps {G:Gh} {h h':Heap} (k:∀ a o,h.get? a=some o->h'.get? a=some o):LKeep G h h':=fun a=>⟨fun Y o e=>⟨o,k a o e,rfl⟩,fun Y Y o e=>k a o e⟩
theorem LKeep.sameBut {G:Gh} {h h':Heap} {b:Addr} (k:Heap.SameBut b h h') (n:G b≠some .lc/\∀ v,G b≠some (.fz v)):LKeep G h h':=fun a =>
  ⟨fun l o e=>⟨o,(k.2 a fun q=>n.1 (q▸l)).trans e,rfl⟩,fun v l o e=>(k.2 a fun q=>n.2 v (q▸l)).trans e⟩
theorem ns_data {h h':Heap} {L:Addr} {mm:Str->Option Value} (x:h.Ns L mm) (k:∀ o,h.get? L=some o->∃ o',h'.get? L=some o'/\o'.data=o.data):h'.Ns L mm:=by obtain ⟨o,es,ep,a,b,r⟩:=x;obtain ⟨o',a',b'⟩:=k o a;exact ⟨o',es,ep,a',b'.trans b,r⟩
structure Loc (env:Env) (ls:List Str) (m:List (Option V)) (G:Gh) (h:Heap):Prop where
  kind:env.scope.kind = .function
  globs:env.globals=mainGlobals
  blts:env.builtins=builtinsNs
  lc:G env.locals=some .lc
  ns:∃ mm,h.Ns env.locals mm/\∀ (i:Nat) (x:Str) (v:V),ls[i]?=some x->m[i]?=some (some v)->env.kindOf x=some .local->∃ y,mm x=some y/\VR G v y
  cells:∀ (i:Nat) (x:Str) (v:V),ls[i]?=some x->m[i]?=some (some v)->(env.kindOf x=some .cell\/env.kindOf x=some .free)->∃ c o y,env.cells.lookup x=some c/\G c=some (.rw o)/\o.data = .cell (some y)/\VR G v y
theorem Loc.step {env:Env} {ls:List Str} {m:List (Option V)} {G G':Gh} {h h':Heap} (l:Loc env ls m G h) (e:Ext G G') (k:LKeep G h h'):Loc env ls m G' h':=by
  obtain ⟨a,b,c,d,⟨mm,hn,hv⟩,hc⟩:=l;refine ⟨a,b,c,e.lc d,⟨mm,ns_data hn ((k _).1 d),fun i x v h1 h2 h3=>?_⟩,fun i x v h1 h2 h3=>?_⟩
  . obtain ⟨y,q1,q2⟩:=hv i x v h1 h2 h3;exact ⟨y,q1,q2.ext e⟩
  . obtain ⟨c,o,y,q1,q2,q3,q4⟩:=hc i x v h1 h2 h3;exact ⟨c,o,y,q1,e.rw q2,q3,q4.ext e⟩
inductive Tbk (nt:Prop) (fl:Value->Prop) (B:Heap) (G:Gh) (h:Heap) (ea dx:Addr) (vs:Array Value):Prop
  | no (n:nt) (q:vs[1]?=some .none)
  | one (T:Addr) (oT:Obj) (ts:Array Value) (f:Value) (q1:vs[1]?=some (.ref T)) (q2:T≠ea) (q3:T≠dx) (q4:G T=none) (q5:B.get? T=none) (q6:h.get? T=some oT) (q7:oT.data = .fields ts) (q8:ts[3]?=some f) (q9:fl f)
inductive RaisedX (nt:Prop) (fl:Value->Prop) (w:World) (B:Heap) (G:Gh) (x:Value) (msg:Str) (h:Heap):Prop
  | mk (ea dx:Addr) (oe:Obj) (vs:Array Value) (t:Tok) (h1:x = .ref ea) (h2:G ea=none) (h3:B.get? ea=none) (h4:h.get? ea=some oe) (h5:oe.cls = .ref CR) (h6:oe.dict=some dx) (h7:oe.data = .fields vs) (h8:2<vs.size)
    (h9:G dx=none) (h10:B.get? dx=none) (h11:dx≠ea) (h12:Sn h dx 1 (fun y=>if y=fld 20 then some (.str msg t) else none)) (h13:Tbk nt fl B G h ea dx vs)
abbrev Raised (w:World) (B:Heap) (G:Gh) (x:Value) (msg:Str) (h:Heap):Prop:=RaisedX True (· = .none) w B G x msg h
theorem RaisedX.mono {nt nt':Prop} {fl fl':Value->Prop} {w:World} {B:Heap} {G:Gh} {x:Value} {msg:Str} {h:Heap} (r:RaisedX nt fl w B G x msg h) (a:nt->nt') (b:∀ v,fl v->fl' v):RaisedX nt' fl' w B G x msg h:=by
  obtain ⟨ea,dx,oe,vs,t,h1,h2,h3,h4,h5,h6,h7,h8,h9,h10,h11,h12,h13⟩:=r;refine ⟨ea,dx,oe,vs,t,h1,h2,h3,h4,h5,h6,h7,h8,h9,h10,h11,h12,?_⟩;cases h13 with
  | no n q=>exact .no (a n) q
  | one T oT ts f q1 q2 q3 q4 q5 q6 q7 q8 q9=>exact .one T oT ts f q1 q2 q3 q4 q5 q6 q7 q8 (b _ q9)
inductive PG {α β:Type} (w:World) (B:Heap) (os:OsState) (rel:Gh->β->α->Prop) (G:Gh) (h:Heap) (K:β->Hp->Prop) (a:α) (s':Shared):Prop
  | mk (G':Gh) (b:β) (H':Hp) (e:Ext G G') (S:Sat w B os G' s') (l:LKeep G h s'.heap) (le:Le H' G') (r:rel G' b a) (k:K b H')
section
variable (w:World) (B:Heap) (os:OsState)
abbrev Post (G:Gh) (h:Heap) (K:V->Hp->Prop) (x:Value) (s':Shared):Prop:=PG w B os VR G h K x s'
inductive PostX (G:Gh) (h:Heap) (X:Str->Hp->Prop) (x:Value) (s':Shared):Prop
  | mk (G':Gh) (msg:Str) (H':Hp) (e:Ext G G') (S:Sat w B os G' s') (l:LKeep G h s'.heap) (le:Le H' G') (r:Raised w B G' x msg s'.heap) (k:X msg H')
variable {w B os}
theorem PostX.pre {G G₁:Gh} {h h₁:Heap} {K:Str->Hp->Prop} {x:Value} {s':Shared} (e:Ext G G₁) (l:LKeep G h h₁) (p:PostX w B os G₁ h₁ K x s'):PostX w B os G h K x s' :=
  p.casesOn fun G' v H' a b c d r k=>⟨G',v,H',e.trans a,b,l.trans e c,d,r,k⟩
end
section
variable (w:World) (B:Heap) (os:OsState)
def WC (A:Around) (t:Sem Value) (K:V->Hp->Prop) (X:Str->Hp->Prop) (G:Gh) (s:Shared):Prop :=
  wpAny (Mo w) A t (Post w B os G s.heap K) (PostX w B os G s.heap X) s
def CallW (d:Nat) (f:V) (args:List V) (K:V->Hp->Prop) (X:Str->Hp->Prop) (H:Hp):Prop :=
  ∀ A G s x xs,Sat w B os G s->Cx A d G->Le H G->VR G f x->VRs G args xs->WC w B os A (PySem.call x xs) K X G s
end
inductive X where
  | bad
  | nil
  | cons (h t:X)
  | omit
  | opt (e:X)
  | cst (v:V)
  | loc (i:Nat)
  | glb (v:V)
  | attr (e:X) (n:Nat)
  | sub (e i:X)
  | slc (e lo hi:X)
  | call (f:X) (args:X)
  | meth (o:X) (n:Nat) (args:X)
  | extr (o a:X)
  | bin (op:Operator) (l r:X)
  | cmp (op:CmpOp) (l r:X)
  | not (e:X)
  | bop (op:BoolOp) (es:X)
  | ite (c a b:X)
  | list (es:X)
  | tup (es:X)
  | dict (ks vs:X)
  | comp (mask:List Bool) (elt it cond:X)
  | fstr (parts:X)
  | fval (e:X)
  | len (e:X)
  | mkl (e:X)
  | mkd (e:X)
  | max (a b:X)
  | isi (a:X) (C:Addr)
  | rng (e:X)
  | rev (e:X)
  | itv (e:X)
inductive Tg where
  | one (i:Nat)
  | two (i j:Nat)
  | three (i j k:Nat)
inductive C where
  | bad
  | skip
  | seq (s t:C)
  | ret (e:X)
  | asg (i:Nat) (e:X)
  | asgc (i:Nat) (mask:List Bool) (elt it cond:X)
  | unp (t:Tg) (e:X)
  | sat (o:X) (n:Nat) (e:X)
  | sit (o i e:X)
  | auv (i:Nat) (op:Operator) (e:X)
  | aua (o:X) (n:Nat) (op:Operator) (e:X)
  | exp (e:X)
  | iff (c:X) (a b:C)
  | whl (c:X) (b:C)
  | frs (t:Tg) (it:X) (b:C)
  | rse (e:X)
  | rer
  | tri (b:C) (n:Option Nat) (h:C)
  | dli (o i:X)
  | srt (o:X)
  | dfn (i:Nat)
structure Sc where
  sc:Scope
  ls:List Str
  gl:Str->Option V
noncomputable def Sc.ix (c:Sc) (x:Str):Option Nat:=c.ls.findIdx? fun y=>decide (y=x)
noncomputable def Sc.own (c:Sc) (x:Str):Bool:=match c.sc.names.lookup x with
  | some .local=>true
  | some .cell=>true
  | some .free=>true
  | _=>false
noncomputable def Sc.glob (c:Sc) (x:Str):Bool:=c.sc.names.lookup x == some .globalImplicit
noncomputable def Sc.builtin (c:Sc) (x n:Str):Bool:=decide (x=n) && c.glob x && (c.gl x).isNone && !(x == ("__debug__" : Str))
noncomputable def Sc.nm (c:Sc) (x:Str):X :=
  if (x == ("__debug__" : Str)) || (x == ("__classdict__" : Str)) then .bad else
  if c.own x then (match c.ix x with | some i=>.loc i | none=>.bad) else if c.glob x then (match c.gl x with | some v=>.glb v | none=>.bad) else .bad
noncomputable def Sc.fn (c:Sc) (x:Str):X :=
  if (x == ("__debug__" : Str)) || (x == ("__classdict__" : Str)) || c.own x then .bad else if c.glob x then (match c.gl x with | some v=>.glb v | none=>.bad) else .bad
noncomputable def cst?:Const->X
  | .none=>.cst .none
  | .bool b=>.cst (.bool b)
  | .int i=>.cst (.int i)
  | .str s=>.cst (.str s)
  | _=>.bad
noncomputable def Sc.inner (c:Sc) (sc:Scope) (x:Str):Sc:=⟨sc,x::c.ls,c.gl⟩
noncomputable def Sc.mask (c:Sc) (sc:Scope):List Bool:=c.ls.map fun y=>sc.names.lookup y == some .free
noncomputable def Sc.loc? (c:Sc) (x:Str):Option Nat:=if c.sc.names.lookup x == some .local then c.ix x else none
noncomputable def Ad:Expr->Bool
  | .Call f as ks _ => !(Nat.beq f.ctorIdx 23 && as.isEmpty && ks.isEmpty)
  | _=>true
noncomputable def Aw (e:Expr):Bool:=Nat.beq e.ctorIdx 26
noncomputable def meths:List String:=["append","pop","get","extend","partial_of","startswith","is_free","exact","partial","positional","rest","known","distance","basic","parents","supers","slots_of","define","new_env"]
noncomputable def DP (i:Nat):Str:=match meths[i]? with | some n=>Str.ofString n | none=>⟨#[]⟩
noncomputable def fIx (n:Str):Option Nat:=(List.range flds.length).find? fun i=>decide (fld i=n)
noncomputable def mIx (n:Str):Option Nat:=(List.range meths.length).find? fun i=>decide (DP i=n)
theorem fIx_fld {n:Str} {k:Nat} (h:fIx n=some k):fld k=n/\k<flds.length:=by
  refine ⟨?_,?_⟩
  . have:=List.find?_some h;simpa using this
  . have:=List.mem_of_find?_eq_some h;simpa using this
theorem mIx_name {n:Str} {k:Nat} (h:mIx n=some k):DP k=n:=by have:=List.find?_some h;simpa using this
noncomputable def Cj (e:Expr):Bool:=Nat.beq e.ctorIdx 7
noncomputable def one1 (c:Sc) (x:Str) (a:X):X :=
  if c.builtin x "len" then .len a
  else if c.builtin x "list" then .mkl a
  else if c.builtin x "dict" then .mkd a
  else if c.builtin x "range" then .rng a
  else if c.builtin x "reversed" then .rev a
  else .call (c.fn x) (.cons a .nil)
noncomputable def two2 (c:Sc) (x:Str) (a b:X):X :=
  if c.builtin x "max" then .max a b
  else if c.builtin x "isinstance" then (match b with | .glb (.ref C)=>.isi a C | _=>.bad)
  else .call (c.fn x) (.cons a (.cons b .nil))
noncomputable def AP:List Expr->Bool
  | []=>true
  | e::r => !(Nat.beq e.ctorIdx 22) && AP r
mutual
noncomputable def BF:Expr->Bool
  | .Name _ _=>true
  | .Attribute _ _ _=>true
  | .Subscript _ _ _=>true
  | .Call _ _ _ _=>true
  | .Compare _ [_] [_] _=>true
  | .BoolOp _ es _=>Aq es
  | .UnaryOp .Not e _=>BF e
  | _=>false
noncomputable def Aq:List Expr->Bool
  | []=>true
  | e::r=>BF e && Aq r
end
noncomputable def CQ (x:X):Bool:=Nat.beq x.ctorIdx 30 || Nat.beq x.ctorIdx 31
noncomputable def Cf (x:X):X:=cond (CQ x) x (.itv x)
noncomputable def DA (c:Sc) (sc:Scope) (x:Str) (a:Int) (it:Expr) (ifs:List Expr):Bool :=
  a == 0 && !Cj it && sc.names.lookup x == some .local && sc.kind == .function && Aq ifs && decide (ifs.length<=1) &&
  sc.names.all fun (n,k)=>(k != .cell) && (k != .local || (sc.names.lookup n == some .local)) && (k != .free || (c.sc.names.lookup n == some .cell))
mutual
noncomputable def comp (c:Sc):Expr->X
  | .Constant k _ _=>cst? k
  | .Name x _=>c.nm x
  | .Attribute e n _=>if Ad e then (match fIx n with | some k=>.attr (comp c e) k | none=>.bad) else .bad
  | .Subscript e i _=>match i with
    | .Slice lo hi none _=>.slc (comp c e) (compO c lo) (compO c hi)
    | i=>if Aw i then .bad else .sub (comp c e) (comp c i)
  | .BinOp l op r _=>.bin op (comp c l) (comp c r)
  | .UnaryOp .Not e _=>.not (comp c e)
  | .BoolOp op es _=>.bop op (AT c es)
  | .Compare l [op] [r] _=>if Cj r then .bad else .cmp op (comp c l) (comp c r)
  | .IfExp t a b _=>if BF t then .ite (comp c t) (comp c a) (comp c b) else .bad
  | .List es _=>if AP es then .list (AT c es) else .bad
  | .Tuple es _ _=>if AP es then .tup (AT c es) else .bad
  | .Dict ks vs _=>if ks.length == vs.length then .dict (compK c ks) (AT c vs) else .bad
  | .JoinedStr es _=>(match es with | _::_::_=>.fstr (AT c es) | _=>.bad)
  | .FormattedValue e k none _=>if k == -1 then .fval (comp c e) else .bad
  | .Call (.Name x _) [a] [] _=>if AP [a] then one1 c x (comp c a) else .bad
  | .Call (.Name x _) [a,b] [] _=>if AP [a,b] then two2 c x (comp c a) (comp c b) else .bad
  | .Call (.Name x _) as [] _=>if AP as && decide (as.length<20) then .call (c.fn x) (AT c as) else .bad
  | .Call (.Attribute o n ap) [.Call (.Name r _) [a] [] _] [] p=>if Ad o && (ap.endLine == p.line) && AP [a] then
      (if (n == ("extend" : Str)) && c.builtin r "reversed" then .extr (comp c o) (comp c a)
      else (match mIx n with | some k=>.meth (comp c o) k (.cons (one1 c r (comp c a)) .nil) | none=>.bad)) else .bad
  | .Call (.Attribute o n ap) as [] p=>if Ad o && AP as && (ap.endLine == p.line) && decide (as.length<20) then
      (match mIx n with | some k=>.meth (comp c o) k (AT c as) | none=>.bad) else .bad
  | .ListComp elt [⟨.Name x _,it,ifs,a⟩] sc _ =>
    if DA c sc x a it ifs then .comp (c.mask sc) (comp (c.inner sc x) elt) (Cf (comp c it)) (AT (c.inner sc x) ifs) else .bad
  | _=>.bad
noncomputable def compO (c:Sc):Option Expr->X
  | none=>.omit
  | some e=>.opt (comp c e)
noncomputable def AT (c:Sc):List Expr->X
  | []=>.nil
  | e::r=>.cons (comp c e) (AT c r)
noncomputable def compK (c:Sc):List (Option Expr)->X
  | []=>.nil
  | e::r=>.cons (compO c e) (compK c r)
end
noncomputable def nm?:Expr->Option Str
  | .Name x _=>some x
  | _=>none
noncomputable def locs (c:Sc):List Expr->Option (List Nat)
  | []=>some []
  | e::r=>(nm? e).bind fun x=>(c.loc? x).bind fun i=>(locs c r).map (i :: ·)
noncomputable def tgOf:List Nat->Option Tg
  | [i,j]=>some (.two i j)
  | [i,j,k]=>some (.three i j k)
  | _=>none
noncomputable def tg? (c:Sc):Expr->Option Tg
  | .Name x _=>(c.loc? x).map .one
  | .Tuple es _ _=>(locs c es).bind tgOf
  | _=>none
noncomputable def isTuple (e:Expr):Bool:=Nat.beq e.ctorIdx 25
noncomputable def Ax (e:Expr):Bool:=Nat.ble 8 e.ctorIdx && Nat.ble e.ctorIdx 10
noncomputable def tabSc (sc:Scope):Bool:=(sc.names.lookup ("make" : Str) == some .local) || ((sc.names.lookup ("own" : Str) == some .local) && (sc.names.lookup ("steps" : Str) == some .local))
noncomputable def freesIn (c sc:Scope):Bool:=sc.names.all fun (n,k)=>k != .free || (c.names.lookup n == some .cell)
noncomputable def Dc (la:Arguments):Bool:=la.posonlyargs.isEmpty && la.vararg.isNone && la.kwonlyargs.isEmpty && la.kw_defaults.isEmpty && la.kwarg.isNone && la.defaults.isEmpty
noncomputable def isOne:Expr->Bool
  | .Constant (.int n) _ _=>n == 1
  | _=>false
noncomputable def second (r:Str):Expr->Bool
  | .Subscript o i _=>nm? o == some r && isOne i
  | _=>false
noncomputable def key1 (lb:Expr) (sc:Scope):List Arg->Bool
  | [⟨r,a,_⟩]=>a.isNone && second r lb && !(r == ("__debug__" : Str)) && (sc.names.lookup r == some .local) && (sc.kind == .function) && !sc.isCoroutine && !sc.isGenerator && sc.names.all fun (_,k)=>k == .local
  | _=>false
noncomputable def Cw (la:Arguments) (lb:Expr) (sc:Scope):Bool:=Dc la && key1 lb sc la.args
noncomputable def isPlainArgs (la:Arguments):Bool:=Dc la && la.args.all fun a=>a.annotation.isNone
mutual
noncomputable def Al (c:Sc):Stmt->C
  | .Return (some e) _=>.ret (comp c e)
  | .Return none _=>.ret (.cst .none)
  | .Assign [.Name x p] e _=>match c.loc? x with
    | none=>.bad
    | some i=>match e with
      | .ListComp elt [⟨.Name y _,it,ifs,a⟩] sc q =>
        if DA c sc y a it ifs && p.line == q.line && !(sc.names.any fun (n,k)=>n == x && (k == .local || k == .cell)) then .asgc i (c.mask sc) (comp (c.inner sc y) elt) (Cf (comp c it)) (AT (c.inner sc y) ifs) else .bad
      | e=>if Ax e then .bad else .asg i (comp c e)
  | .Assign [.Attribute o n _] e _=>if Ax e || !Ad o then .bad else (match fIx n with | some k=>.sat (comp c o) k (comp c e) | none=>.bad)
  | .Assign [.Subscript o i _] e _=>if Ax e || Aw i then .bad else .sit (comp c o) (comp c i) (comp c e)
  | .Assign [.Tuple ts a p] e _=>if Ax e || isTuple e then .bad else (match tg? c (.Tuple ts a p) with | some t=>.unp t (comp c e) | none=>.bad)
  | .AugAssign (.Name x _) op e _=>(match c.loc? x with | some i=>.auv i op (comp c e) | none=>.bad)
  | .AugAssign (.Attribute o n _) op e _=>if Ad o then (match fIx n with | some k=>.aua (comp c o) k op (comp c e) | none=>.bad) else .bad
  | .Expr (.Call (.Attribute (.Name x xp) n ap) [] [⟨some k,.Lambda la lb sc lp,kp⟩] cp) _=>if (n == ("sort" : Str)) && (k == ("key" : Str)) && Cw la lb sc && (ap.endLine == cp.line) && tabSc c.sc then .srt (comp c (.Name x xp)) else .bad
  | .FunctionDef name args body [] none [] scope none nm _=>if (nm == name) && isPlainArgs args && freesIn c.sc scope && tabSc c.sc then (match c.loc? name with | some i=>.dfn i | none=>.bad) else .bad
  | .Expr e _=>if Ax e then .bad else .exp (comp c e)
  | .If t a b _=>if BF t then .iff (comp c t) (Ac c a) (Ac c b) else .bad
  | .While t b [] _=>if BF t then .whl (comp c t) (Ac c b) else .bad
  | .For t it b [] _=>if Cj it then .bad else (match tg? c t with | some g=>.frs g (Cf (comp c it)) (Ac c b) | none=>.bad)
  | .Raise (some (.Call (.Name r _) [a] [] _)) none _=>(match c.fn r with | .glb (.ref x)=>if x == CR then .rse (comp c a) else .bad | _=>.bad)
  | .Raise none none _=>.rer
  | .Try b [.ExceptHandler (some (.Name r _)) n h _] [] [] _=>if h.isEmpty then .bad else (match c.fn r with
    | .glb (.ref x)=>if x == CR then (match n with
      | none=>.tri (Ac c b) none (Ac c h)
      | some y=>(match c.loc? y with | some i=>.tri (Ac c b) (some i) (Ac c h) | none=>.bad)) else .bad
    | _=>.bad)
  | .Delete [.Subscript o i _] _=>if Aw i then .bad else .dli (comp c o) (comp c i)
  | _=>.bad
noncomputable def Ac (c:Sc):List Stmt->C
  | []=>.skip
  | s::r=>.seq (Al c s) (Ac c r)
end
abbrev KV:=V->Hp->Prop
abbrev KX:=Str->Hp->Prop
noncomputable abbrev Lm:=List (Option V)
inductive ConvTo (w:World) (B:Heap) (os:OsState) (G:Gh) (s:Shared) (v v':V) (H':Hp):Prop
  | mk (G':Gh) (e:Ext G G') (S:Sat w B os G' s) (l:Le H' G') (k:∀ x,VR G v x->VR G' v' x)
def Conv (v:V) (H:Hp) (v':V) (H':Hp):Prop:=∀ w B os G s,Sat w B os G s->Le H G->ConvTo w B os G s v v' H'
theorem Conv.refl (v:V) (H:Hp):Conv v H v H:=fun Y Y Y G Y S l=>⟨G,.refl G,S,l,fun Y h=>h⟩
theorem Conv.trans {v₁ v₂ v₃:V} {H₁ H₂ H₃:Hp} (a:Conv v₁ H₁ v₂ H₂) (b:Conv v₂ H₂ v₃ H₃):Conv v₁ H₁ v₃ H₃:=fun w B os G s S l=>by obtain ⟨G',e,S',l',k⟩:=a w B os G s S l;obtain ⟨G'',e',S'',l'',k'⟩:=b w B os G' s S' l';exact ⟨G'',e.trans e',S'',l'',fun x h=>k' x (k x h)⟩
theorem VR.of_fz {w:World} {h:Heap} {G:Gh} {a:Addr} {v:V} (q:G a=some (.fz v)) (o:OR w G h a v):VR G v (.ref a):=by
  cases v with
  | tup _ | lst _ | dct _ | obj _ _=>exact ⟨a,rfl,q⟩
  | _=>exact o.elim
theorem Conv.freeze {a:Addr} {c:V} {H:Hp} (h:H a=some c):Conv (.ref a) H c (del H a):=fun w B os G s S l=>by obtain ⟨S',e⟩:=S.freeze (l a c h);refine ⟨_,e,S',l.del a _,fun x hx=>?_⟩;cases (show x = .ref a from hx);exact VR.of_fz (AA _ _ _) (S'.cells a _ (AA _ _ _)).2
def Wk (es es':List (Nat×V)):Prop:=es'.length=es.length/\∀ k,match at? es' k with
  | some v'=>∃ v,at? es k=some v/\(v'=v\/v' = .any)
  | none=>at? es k=none
theorem Conv.forget {a:Addr} {C:Addr} {es es':List (Nat×V)} {H:Hp} (h:H a=some (.obj C es)) (k:Wk es es'):Conv (.ref a) H (.ref a) (upd H a (.obj C es')):=fun w B os G s S l=>by
  have ha:=l a _ h;obtain ⟨n,dx,h1,mm,h2,h4,h5,h6,h7⟩:=S.cells a _ ha;have hc:OR w G s.heap a (.obj C es'):=by
    refine ⟨dx,h1,mm,h2,k.1▸h4,⟨k.1▸h5.1,fun i v' q=>?_⟩,fun i v' q=>?_,fun x q=>h7 x fun i v z=>?_⟩
    . have:=k.2 i;rw [q] at this;obtain ⟨v,z,_⟩:=this;exact h5.2 i v z
    . have:=k.2 i;rw [q] at this;obtain ⟨v,z,y⟩:=this;obtain ⟨x,p1,p2⟩:=h6 i v z;exact ⟨x,p1,by rcases y with rfl | rfl<;>first | exact p2 | trivial⟩
    . have:=k.2 i;cases y:at? es' i with
      | some v'=>exact q i v' y
      | none=>rw [y] at this;rw [this] at z;cases z
  obtain ⟨S',e⟩:=S.set ha (.refl ..) hc rfl rfl;exact ⟨_,e,S',l.upd a _,fun x hx=>hx⟩
inductive CvTo (v:V) (H:Hp) (K:KV):Prop
  | mk (v':V) (H':Hp) (c:Conv v H v' H') (k:K v' H')
def cv (v:V) (H:Hp) (K:KV):Prop:=match v with
  | .ref a=>CvTo (.ref a) H K
  | v=>K v H
theorem AB {v:V} {H:Hp} {K:KV} (h:K v H):cv v H K:=by cases v<;>first | exact h | exact ⟨_,_,.refl _ _,h⟩
theorem cv_to {a:Addr} {v':V} {H H':Hp} {K:KV} (c:Conv (.ref a) H v' H') (h:K v' H'):cv (.ref a) H K:=⟨_,_,c,h⟩
theorem DX {a:Addr} {c:V} {H:Hp} {K:KV} (e:H a=some c) (h:K c (del H a)):cv (.ref a) H K:=⟨_,_,.freeze e,h⟩
theorem cv_conv {v:V} {H:Hp} {K:KV} (h:cv v H K):CvTo v H K:=by cases v<;>first | exact h | exact ⟨_,_,.refl _ _,h⟩
noncomputable def look (H:Hp):V->Option V
  | .ref a=>H a
  | v=>some v
def aB (v:V) (P:Bool->Prop):Prop:=match v with | .bool x=>P x | _=>False
def aI (v:V) (P:Int->Prop):Prop:=match v with | .int x=>P x | _=>False
def aS (v:V) (P:Str->Prop):Prop:=match v with | .str x=>P x | _=>False
def aN (v:V) (P:Prop):Prop:=match v with | .none=>P | _=>False
def aR (v:V) (P:Addr->Prop):Prop:=match v with | .ref x=>P x | _=>False
def aL (v:V) (P:List V->Prop):Prop:=match v with | .lst x=>P x | _=>False
def aT (v:V) (P:List V->Prop):Prop:=match v with | .tup x=>P x | _=>False
def aD (v:V) (P:List (Str×V)->Prop):Prop:=match v with | .dct x=>P x | _=>False
def aO (v:V) (P:Addr->List (Nat×V)->Prop):Prop:=match v with | .obj C x=>P C x | _=>False
def oX {α:Type} (o:Option α) (P:α->Prop):Prop:=match o with | some x=>P x | none=>False
section
variable {v:V}
@[simp] theorem aB_b {P:Bool->Prop} {x}:aB (.bool x) P=P x:=rfl
@[simp] theorem aI_i {P:Int->Prop} {x}:aI (.int x) P=P x:=rfl
@[simp] theorem aS_s {P:Str->Prop} {x}:aS (.str x) P=P x:=rfl
@[simp] theorem aN_n {P:Prop}:aN .none P=P:=rfl
@[simp] theorem aR_r {P:Addr->Prop} {x}:aR (.ref x) P=P x:=rfl
@[simp] theorem aL_l {P:List V->Prop} {x}:aL (.lst x) P=P x:=rfl
@[simp] theorem aT_t {P:List V->Prop} {x}:aT (.tup x) P=P x:=rfl
@[simp] theorem aD_d {P:List (Str×V)->Prop} {x}:aD (.dct x) P=P x:=rfl
@[simp] theorem aO_o {P:Addr->List (Nat×V)->Prop} {C x}:aO (.obj C x) P=P C x:=rfl
@[simp] theorem BE {α:Type} {P:α->Prop} {x}:oX (some x) P=P x:=rfl
theorem aB_inv {P:Bool->Prop}:aB v P->∃ x,v = .bool x/\P x:=by cases v<;>first | exact False.elim | exact fun h=>⟨_,rfl,h⟩
theorem Ba {P:Int->Prop}:aI v P->∃ x,v = .int x/\P x:=by cases v<;>first | exact False.elim | exact fun h=>⟨_,rfl,h⟩
theorem CU {P:Str->Prop}:aS v P->∃ x,v = .str x/\P x:=by cases v<;>first | exact False.elim | exact fun h=>⟨_,rfl,h⟩
theorem aN_inv {P:Prop}:aN v P->v = .none/\P:=by cases v<;>first | exact False.elim | exact fun h=>⟨rfl,h⟩
theorem Dx {P:Addr->Prop}:aR v P->∃ x,v = .ref x/\P x:=by cases v<;>first | exact False.elim | exact fun h=>⟨_,rfl,h⟩
theorem BZ {P:List V->Prop}:aL v P->∃ x,v = .lst x/\P x:=by cases v<;>first | exact False.elim | exact fun h=>⟨_,rfl,h⟩
theorem aT_inv {P:List V->Prop}:aT v P->∃ x,v = .tup x/\P x:=by cases v<;>first | exact False.elim | exact fun h=>⟨_,rfl,h⟩
theorem aD_inv {P:List (Str×V)->Prop}:aD v P->∃ x,v = .dct x/\P x:=by cases v<;>first | exact False.elim | exact fun h=>⟨_,rfl,h⟩
theorem aO_inv {P:Addr->List (Nat×V)->Prop}:aO v P->∃ C x,v = .obj C x/\P C x:=by cases v<;>first | exact False.elim | exact fun h=>⟨_,_,rfl,h⟩
theorem AK {α:Type} {o:Option α} {P:α->Prop}:oX o P->∃ x,o=some x/\P x:=by cases o<;>first | exact False.elim | exact fun h=>⟨_,rfl,h⟩
end
def isAdd (op:Operator) (P:Prop):Prop:=match op with | .Add=>P | _=>False
@[simp] theorem isAdd_a {P:Prop}:isAdd .Add P=P:=rfl
theorem isAdd_inv {op:Operator} {P:Prop}:isAdd op P->op = .Add/\P:=by cases op<;>first | exact False.elim | exact fun h=>⟨rfl,h⟩
noncomputable def strOf:V->Option Str
  | .str k=>some k
  | _=>none
noncomputable def intOf:V->Option Int
  | .int k=>some k
  | _=>none
theorem Bo {v:V} {k:Str}:strOf v=some k->v = .str k:=by cases v<;>intro h<;>cases h<;>rfl
theorem Dl {v:V} {k:Int}:intOf v=some k->v = .int k:=by cases v<;>intro h<;>cases h<;>rfl
def AD (d:Nat) (f:V) (args:List V) (K:KV) (X:KX) (H:Hp):Prop:=∀ w B os,CallW w B os d f args K X H
noncomputable def Bd:V->Bool
  | .any=>false
  | .bi _=>false
  | _=>true
@[simp] theorem handV_none:Bd .none=true:=rfl
@[simp] theorem handV_bool {x}:Bd (.bool x)=true:=rfl
@[simp] theorem handV_int {x}:Bd (.int x)=true:=rfl
@[simp] theorem handV_str {x}:Bd (.str x)=true:=rfl
@[simp] theorem handV_ref {x}:Bd (.ref x)=true:=rfl
@[simp] theorem handV_lst {x}:Bd (.lst x)=true:=rfl
@[simp] theorem handV_tup {x}:Bd (.tup x)=true:=rfl
@[simp] theorem handV_dct {x}:Bd (.dct x)=true:=rfl
@[simp] theorem handV_obj {x y}:Bd (.obj x y)=true:=rfl
def CD (o:V) (n:Nat) (K:KV) (H:Hp):Prop:=oX (look H o) fun c=>aO c fun Y es=>oX (at? es n) fun v=>Bd v=true/\K v H
def setA (o:V) (n:Nat) (v:V) (K:Hp->Prop) (H:Hp):Prop:=match o with
  | .ref a=>oX (H a) fun c=>aO c fun C es=>es.length<900/\K (upd H a (.obj C (put es n v)))
  | .obj _ es=>at? es n=some .any/\K H
  | _=>False
def setC (o:V) (n:Nat) (v:V) (K:Hp->Prop) (H:Hp):Prop:=oX (look H o) fun c=>aO c fun C Y=>C≠117/\setA o n v K H
def idxV (xs:List V) (j:V) (K:KV) (H:Hp):Prop:=aI j fun i=>(0<=i/\i<2 ^ 63)/\oX xs[i.toNat]? fun v=>K v H
def keyV (es:List (Str×V)) (j:V) (K:KV) (H:Hp):Prop:=aS j fun k=>oX (at? es k) fun v=>K v H
def subW (o j:V) (K:KV) (H:Hp):Prop:=match o with
  | .lst xs=>idxV xs j K H
  | .tup xs=>idxV xs j K H
  | .dct es=>keyV es j K H
  | _=>False
def subV (o j:V) (K:KV) (H:Hp):Prop:=oX (look H o) fun c=>subW c j K H
def setW (a:Addr) (c j v:V) (K:Hp->Prop) (H:Hp):Prop:=match c with
  | .lst xs=>aI j fun i=>(0<=i/\i<xs.length/\i<2 ^ 63)/\K (upd H a (.lst (xs.set i.toNat v)))
  | .dct es=>aS j fun k=>es.length<1000000/\K (upd H a (.dct (put es k v)))
  | _=>False
def setI (o j v:V) (K:Hp->Prop) (H:Hp):Prop:=aR o fun a=>oX (H a) fun c=>setW a c j v K H
def delI (o j:V) (K:Hp->Prop) (H:Hp):Prop:=aR o fun a=>oX (H a) fun c=>aD c fun es=>aS j fun k =>
  es.length<=1000000/\(at? es k).isSome=true/\K (upd H a (.dct (es.filter fun kv => !decide (kv.1=k))))
@[simp] noncomputable def Ak (c:V) (K:KV) (H:Hp):Prop:=∀ r,H r=none->K (.ref r) (upd H r c)
noncomputable def cutV (xs:List V) (a b:Option V):Option (List V):=match a with
  | none=>(match b with | none=>some xs | some v=>(intOf v).bind fun j=>if 0<=j then some (xs.take j.toNat) else none)
  | some v=>(match b with | none=>(intOf v).bind fun i=>if 0<=i then some (xs.drop i.toNat) else none | some _=>none)
def slcV (o:V) (a b:Option V) (K:KV) (H:Hp):Prop:=oX (look H o) fun c=>aL c fun xs=>xs.length<=1000000/\oX (cutV xs a b) fun ys=>Ak (.lst ys) K H
def Dg (f:Int->Int->Prop) (a b:V):Prop:=aI a fun x=>aI b fun y=>f x y
def addL (a b:V) (K:KV) (H:Hp):Prop:=oX (look H a) fun c=>oX (look H b) fun e=>aL c fun x=>aL e fun y=>x.length+y.length<=1000000/\Ak (.lst (x++y)) K H
def addV (a b:V) (K:KV) (H:Hp):Prop:=match a with
  | .int x=>Dg (fun x y=>K (.int (x+y)) H) (.int x) b
  | .str x=>aS b fun y=>x.length+y.length<=1000000/\K (.str (x++y)) H
  | .tup x=>aT b fun y=>x.length+y.length<=1000000/\x≠[]/\y≠[]/\K (.tup (x++y)) H
  | l=>addL l b K H
def repL (o:Option V) (n:Int) (K:KV) (H:Hp):Prop:=oX o fun c=>aL c fun xs=>match xs with | [x]=>0<=n/\n<=10000/\Ak (.lst (List.replicate n.toNat x)) K H | _=>False
def mulB (o:Option V) (b:V) (K:KV) (H:Hp):Prop:=aI b fun n=>repL o n K H
def mulV (a b:V) (K:KV) (H:Hp):Prop:=match a with
  | .int x=>Dg (fun x y=>IntMulOk x y/\K (.int (x * y)) H) (.int x) b
  | l=>mulB (look H l) b K H
def DC (op:Operator) (a b:V) (K:KV) (H:Hp):Prop:=match op with
  | .Add=>addV a b K H
  | .Sub=>Dg (fun x y=>K (.int (x - y)) H) a b
  | .Mult=>mulV a b K H
  | .Mod=>Dg (fun x y=>y≠0/\K (.int (x.fmod y)) H) a b
  | .FloorDiv=>Dg (fun x y=>(y≠0/\Builtin.divisionGoesByPylong x y=false)/\K (.int (x.fdiv y)) H) a b
  | _=>False
noncomputable def eqV (a b:V):Option Bool:=match a with
  | .str x=>(match b with | .str y=>some (decide (x=y)) | .none=>some false | _=>none)
  | .int x=>(match b with | .int y=>some (decide (x=y)) | .none=>some false | _=>none)
  | .none=>(match b with | .str _=>some false | .int _=>some false | .none=>some true | _=>none)
  | _=>none
mutual
noncomputable def toD:V->Option PyData
  | .none=>some .none
  | .int i=>some (.int i)
  | .str x=>some (.str x)
  | .lst xs=>(Dh xs).map .list
  | .tup xs=>(Dh xs).map .tuple
  | _=>none
noncomputable def Dh:List V->Option (List PyData)
  | []=>some []
  | x::xs=>(toD x).bind fun d=>(Dh xs).map (d :: ·)
end
noncomputable def Ai:V->Option Bool
  | .none=>some true
  | .any=>none
  | .bi _=>none
  | _=>some false
@[simp] theorem isN_none:Ai .none=some true:=rfl
@[simp] theorem isN_bool {x}:Ai (.bool x)=some false:=rfl
@[simp] theorem isN_int {x}:Ai (.int x)=some false:=rfl
@[simp] theorem isN_str {x}:Ai (.str x)=some false:=rfl
@[simp] theorem isN_ref {x}:Ai (.ref x)=some false:=rfl
@[simp] theorem isN_lst {x}:Ai (.lst x)=some false:=rfl
@[simp] theorem isN_tup {x}:Ai (.tup x)=some false:=rfl
@[simp] theorem isN_dct {x}:Ai (.dct x)=some false:=rfl
@[simp] theorem isN_obj {x y}:Ai (.obj x y)=some false:=rfl
noncomputable def BI:List V->Option (List Str)
  | []=>some []
  | v::r=>(strOf v).bind fun s=>(BI r).map (s :: ·)
@[simp] theorem strs_n:BI []=some []:=rfl
@[simp] theorem strs_c {s r}:BI (.str s::r)=(BI r).map (s :: ·):=rfl
noncomputable def hasW (c:V) (k:Str):Option Bool:=match c with
  | .lst xs=>(BI xs).map fun l=>l.contains k
  | .tup xs=>(BI xs).map fun l=>l.contains k
  | .dct es=>some (at? es k).isSome
  | _=>none
noncomputable def Dn (o v:V) (H:Hp):Option Bool:=(strOf v).bind fun k=>(look H o).bind fun c=>hasW c k
noncomputable def eqL (xs ys:List V):Option Bool:=(toD (.lst xs)).bind fun d=>(toD (.lst ys)).bind fun e=>if SeqAt.shaped d && SeqAt.shaped e then some (PyData.eqv d e) else none
noncomputable def lstOf:V->Option (List V)
  | .lst xs=>some xs
  | _=>none
theorem lstOf_inv {v:V} {xs:List V}:lstOf v=some xs->v = .lst xs:=by cases v<;>intro h<;>cases h<;>rfl
noncomputable def eqW (x y:V):Option Bool:=match lstOf x with
  | some xs=>(lstOf y).bind fun ys=>eqL xs ys
  | none=>eqV x y
noncomputable def Bb (a b:V) (H:Hp):Option Bool:=(look H a).bind fun x=>(look H b).bind fun y=>eqW x y
def oB (o:Option Bool) (K:Bool->Hp->Prop) (H:Hp):Prop:=oX o fun b=>K b H
def CG (op:CmpOp) (a b:V) (K:Bool->Hp->Prop) (H:Hp):Prop:=match op with
  | .Is=>aN b (oB (Ai a) K H)
  | .IsNot=>aN b (oB (Ai a) (fun t=>K (!t)) H)
  | .Eq=>oB (Bb a b H) K H
  | .NotEq=>oB (Bb a b H) (fun t=>K (!t)) H
  | .In=>oB (Dn b a H) K H
  | .NotIn=>oB (Dn b a H) (fun t=>K (!t)) H
  | .Lt=>Dg (fun x y=>K (decide (x<y)) H) a b
  | .LtE=>Dg (fun x y=>K (decide (x<=y)) H) a b
  | .Gt=>Dg (fun x y=>K (decide (x > y)) H) a b
  | .GtE=>Dg (fun x y=>K (decide (x ≥ y)) H) a b
section
variable {a b:V} {x y:Int} {K:Bool->Hp->Prop} {H:Hp}
@[simp] theorem cm_is:CG .Is a .none K H=oB (Ai a) K H:=rfl
@[simp] theorem cm_isnt:CG .IsNot a .none K H=oB (Ai a) (fun t=>K (!t)) H:=rfl
@[simp] theorem cm_eq:CG .Eq a b K H=oB (Bb a b H) K H:=rfl
@[simp] theorem cm_ne:CG .NotEq a b K H=oB (Bb a b H) (fun t=>K (!t)) H:=rfl
@[simp] theorem cm_in:CG .In a b K H=oB (Dn b a H) K H:=rfl
@[simp] theorem cm_ni:CG .NotIn a b K H=oB (Dn b a H) (fun t=>K (!t)) H:=rfl
@[simp] theorem cm_lt:CG .Lt (.int x) (.int y) K H=K (decide (x<y)) H:=rfl
@[simp] theorem cm_le:CG .LtE (.int x) (.int y) K H=K (decide (x<=y)) H:=rfl
@[simp] theorem cm_gt:CG .Gt (.int x) (.int y) K H=K (decide (x > y)) H:=rfl
@[simp] theorem cm_ge:CG .GtE (.int x) (.int y) K H=K (decide (x ≥ y)) H:=rfl
end
noncomputable def mthL:List (Addr×Nat×Addr):=[(252,4,230),(252,6,244),(252,7,216),(252,8,223),(252,9,237),(252,10,249),(409,11,378),(409,12,399),(409,13,371),(409,14,385),(409,15,392),(409,16,406),(409,17,350),(409,2,364),(1444,18,1260)]
noncomputable def Ah (C:Addr) (n:Nat):Option Addr:=(mthL.find? fun q=>decide (q.1=C) && decide (q.2.1=n)).map (·.2.2)
inductive Rc where
  | l
  | d
  | f (a:Addr)
noncomputable def rcvW (c:V) (n:Nat):Option Rc:=match c with
  | .lst _=>if n<=1 then some .l else none
  | .dct _=>if n=2 then some .d else none
  | .obj C _=>(Ah C n).map .f
  | _=>none
noncomputable def rcv (H:Hp) (o:V) (n:Nat):Option Rc:=(look H o).bind fun c=>rcvW c n
inductive RcV (H:Hp) (o:V) (n:Nat):Rc->Prop
  | l (xs:List V) (h:look H o=some (.lst xs)) (k:n<=1):RcV H o n .l
  | d (es:List (Str×V)) (h:look H o=some (.dct es)) (k:n=2):RcV H o n .d
  | f (C:Addr) (es:List (Nat×V)) (fa:Addr) (h:look H o=some (.obj C es)) (k:Ah C n=some fa):RcV H o n (.f fa)
theorem rcv_inv {H:Hp} {o:V} {n:Nat} {rc:Rc} (e:rcv H o n=some rc):RcV H o n rc:=by
  obtain ⟨c,h,e⟩:=Option.bind_eq_some_iff.mp e;cases c<;>first | exact Option.noConfusion rfl (heq_of_eq e) | skip
  . by_cases k:n<=1
    . cases (if_pos k).symm.trans e;exact .l _ h k
    . cases (if_neg k).symm.trans e
  . by_cases k:n=2
    . cases (if_pos k).symm.trans e;exact .d _ h k
    . cases (if_neg k).symm.trans e
  . obtain ⟨f,hf,rfl⟩:=Option.map_eq_some_iff.mp e;exact .f _ _ _ h hf
def vs1 (vs:List V) (P:V->Prop):Prop:=match vs with | [v]=>P v | _=>False
theorem vs1_inv {vs:List V} {P:V->Prop}:vs1 vs P->∃ v,vs=[v]/\P v:=by
  match vs with
  | [v]=>exact fun h=>⟨v,rfl,h⟩
  | []=>exact False.elim
  | _::_::_=>exact False.elim
def Bc (d:Nat) (rc:Option Rc) (o:V) (n:Nat) (vs:List V) (K:KV) (X:KX) (H:Hp):Prop:=match rc with
  | some .l=>aR o fun a=>oX (H a) fun c=>aL c fun xs=>if n=0 then vs1 vs fun v=>xs.length<1000000/\K .none (upd H a (.lst (xs++[v]))) else vs=[]/\xs.length<=1000000/\oX xs.getLast? fun y=>K y (upd H a (.lst xs.dropLast))
  | some .d=>oX (look H o) fun c=>aD c fun es=>vs1 vs fun v=>aS v fun k=>(match at? es k with | some v=>K v H | none=>K .none H)
  | some (.f f)=>AD d (.ref f) (o::vs) K X H
  | none=>False
def lenW (c:V) (K:KV) (H:Hp):Prop:=match c with
  | .lst xs=>xs.length<=1000000/\K (.int xs.length) H
  | .tup xs=>xs.length<=1000000/\K (.int xs.length) H
  | .dct es=>es.length<=1000000/\K (.int es.length) H
  | _=>False
def lenV (o:V) (K:KV) (H:Hp):Prop:=oX (look H o) fun c=>lenW c K H
def mklW (c:V) (K:KV) (H:Hp):Prop:=match c with
  | .lst xs=>xs.length<=1000000/\Ak (.lst xs) K H
  | .tup xs=>xs.length<=1000000/\Ak (.lst xs) K H
  | _=>False
def mklV (o:V) (K:KV) (H:Hp):Prop:=oX (look H o) fun c=>mklW c K H
noncomputable def pr? (v:V):Option (Str×V):=match v with
  | .tup xs=>(match xs with | [a,b]=>(strOf a).map fun k=>(k,b) | _=>none)
  | _=>none
set_option tactic.hygienic true in
theorem pr_inv {v:V} {p:Str×V} (h:pr? v=some p):v = .tup [.str p.1,p.2]:=by
  cases v<;>first | exact Option.noConfusion rfl (heq_of_eq h) | skip
  rename_i xs
  match xs,h with
  | [a,b],h=>obtain ⟨k,hk,rfl⟩:=Option.map_eq_some_iff.mp h;exact wl (Bo hk ..) rfl
noncomputable def Bh:List V->Option (List (Str×V))
  | []=>some []
  | x::r=>(pr? x).bind fun p=>(Bh r).map (p :: ·)
@[simp] theorem pairs_n:Bh []=some []:=rfl
@[simp] theorem pairs_c {k v r}:Bh (.tup [.str k,v]::r)=(Bh r).map ((k,v) :: ·):=rfl
@[simp] noncomputable def Cq (es:List (Str×V)):List (Str×V)->List (Str×V)
  | []=>es
  | (k,v)::r=>Cq (put es k v) r
def mkdW (c:V) (K:KV) (H:Hp):Prop:=match c with
  | .dct es=>es.length<=1000000/\Ak (.dct es) K H
  | .lst xs=>xs.length<=1000000/\oX (Bh xs) fun l=>Ak (.dct (Cq [] l)) K H
  | _=>False
def mkdV (o:V) (K:KV) (H:Hp):Prop:=oX (look H o) fun c=>mkdW c K H
noncomputable def srcW (o c:V):Option (List V):=match c with
  | .lst xs=>some xs
  | .tup xs=>some xs
  | .dct es=>(match o with | .ref _=>none | _=>some (es.map fun kv=>.str kv.1))
  | _=>none
noncomputable def srcV (o:V) (H:Hp):Option (List V):=(look H o).bind fun c=>srcW o c
def AL (o:V) (H₀ H:Hp):Prop:=match o with
  | .ref a=>H a=H₀ a
  | _=>True
section
variable {a:Addr} {H₀ H:Hp}
@[simp] theorem stays_ref:AL (.ref a) H₀ H=(H a=H₀ a):=rfl
@[simp] theorem stays_lst {x}:AL (.lst x) H₀ H=True:=rfl
@[simp] theorem stays_tup {x}:AL (.tup x) H₀ H=True:=rfl
@[simp] theorem stays_dct {x}:AL (.dct x) H₀ H=True:=rfl
@[simp] theorem stays_none:AL .none H₀ H=True:=rfl
end
def aT2 (v:V) (P:V->V->Prop):Prop:=aT v fun xs=>match xs with | [a,b]=>P a b | _=>False
def aT3 (v:V) (P:V->V->V->Prop):Prop:=aT v fun xs=>match xs with | [a,b,c]=>P a b c | _=>False
def BL (t:Tg) (v:V) (m:Lm) (N:Lm->Prop):Prop:=match t with
  | .one i=>N (m.set i (some v))
  | .two i j=>aT2 v fun a b=>N ((m.set i (some a)).set j (some b))
  | .three i j k=>aT3 v fun a b c=>N (((m.set i (some a)).set j (some b)).set k (some c))
section
variable {i j k:Nat} {v a b c:V} {m:Lm} {N:Lm->Prop}
@[simp] theorem bindT_1:BL (.one i) v m N=N (m.set i (some v)):=rfl
@[simp] theorem bindT_2:BL (.two i j) (.tup [a,b]) m N=N ((m.set i (some a)).set j (some b)):=rfl
@[simp] theorem bindT_3:BL (.three i j k) (.tup [a,b,c]) m N=N (((m.set i (some a)).set j (some b)).set k (some c)):=rfl
end
noncomputable def msk:List Bool->Lm->Lm
  | [],_=>[]
  | b::bs,m=>match m with
    | []=>[]
    | x::m=>(match b with | true=>x | false=>none)::msk bs m
@[simp] theorem msk_n {m}:msk [] m=[]:=rfl
@[simp] theorem msk_t {bs x m}:msk (true::bs) (x::m)=x::msk bs m:=rfl
@[simp] theorem msk_f {bs x m}:msk (false::bs) (x::m)=none::msk bs m:=rfl
def compV (d:Nat) (o:V) (items:List V) (elt:KV->KX->Lm->Hp->Prop) (cond:(Bool->Hp->Prop)->KX->Lm->Hp->Prop) (mask:List Bool) (m:Lm) (K:KV) (H:Hp):Prop :=
  0<d/\items.length<=1000000/\∃ I:Nat->List V->Hp->Prop,I 0 [] H /\
    (∀ i acc v H',items[i]?=some v->I i acc H'->AL o H H' /\
      cond (fun t H''=>(t=true->elt (fun w H=>cv w H (fun w H=>I (i+1) (acc++[w]) H)) (fun Y Y=>False) (some v::msk mask m) H'')/\(t=false->I (i+1) acc H'')) (fun Y Y=>False) (some v::msk mask m) H') /\
    (∀ acc H',I items.length acc H'->AL o H H'/\Ak (.lst acc) K H')
noncomputable def asB (K:Bool->Hp->Prop):KV:=fun v H=>aB v fun b=>K b H
@[simp] theorem asB_b {K:Bool->Hp->Prop} {b H}:asB K (.bool b) H=K b H:=rfl
noncomputable def keyE (m:Lm):X->Option Str
  | .cst v=>strOf v
  | .loc i=>m[i]?.bind fun o=>o.bind strOf
  | _=>none
noncomputable def keyO (m:Lm):X->Option Str
  | .opt e=>keyE m e
  | _=>none
noncomputable def CB (m:Lm):X->Option (List Str)
  | .nil=>some []
  | .cons h t=>(keyO m h).bind fun k=>(CB m t).map (k :: ·)
  | _=>none
section
variable {m:Lm} {t:X} {k:Str} {i:Nat}
@[simp] theorem keys_n:CB m .nil=some []:=rfl
@[simp] theorem keys_s:CB m (.cons (.opt (.cst (.str k))) t)=(CB m t).map (k :: ·):=rfl
@[simp] theorem keys_l:CB m (.cons (.opt (.loc i)) t)=(m[i]?.bind fun o=>o.bind strOf).bind fun k=>(CB m t).map (k :: ·):=rfl
@[simp] theorem strOf_s:strOf (.str k)=some k:=rfl
end
mutual
def vcE (d:Nat):X->KV->KX->Lm->Hp->Prop
  | .cst v,K,_,_,H=>K v H
  | .loc i,K,_,m,H=>oX m[i]? fun o=>oX o fun v=>K v H
  | .glb v,K,_,_,H=>K v H
  | .attr e n,K,E,m,H=>vcE d e (fun o=>CD o n K) E m H
  | .sub e i,K,E,m,H=>vcE d e (fun o=>vcE d i (fun j=>subV o j K) E m) E m H
  | .slc e lo hi,K,E,m,H=>vcE d e (fun o=>vcO d lo (fun a=>vcO d hi (fun b=>slcV o a b K) E m) E m) E m H
  | .call f as,K,E,m,H=>vcE d f (fun fv=>CE d as (fun vs=>AD d fv vs K E) E m) E m H
  | .meth o n as,K,E,m,H=>vcE d o (fun ov H0=>(rcv H0 ov n).isSome=true/\CE d as (fun vs=>Bc d (rcv H0 ov n) ov n vs K E) E m H0) E m H
  | .extr o a,K,E,m,H=>vcE d o (fun ov H0=>aR ov fun r=>oX (H0 r) fun c=>aL c fun Y=>vcE d a (fun av H=>aL av fun ys=>oX (H r) fun c=>aL c fun xs=>(0<d/\xs.length<=1000000/\ys.length<=1000000)/\K .none (upd H r (.lst (xs++ys.reverse)))) E m H0) E m H
  | .bin op l r,K,E,m,H=>vcE d l (fun a=>vcE d r (fun b=>DC op a b K) E m) E m H
  | .cmp op l r,K,E,m,H=>vcE d l (fun a=>vcE d r (fun b=>CG op a b (fun t=>K (.bool t))) E m) E m H
  | .not e,K,E,m,H=>vcE d e (asB fun t=>K (.bool !t)) E m H
  | .bop .And es,K,E,m,H=>vcAnd d es K E m H
  | .bop .Or es,K,E,m,H=>vcOr d es K E m H
  | .ite c a b,K,E,m,H=>vcE d c (asB fun t H=>(t=true->vcE d a K E m H)/\(t=false->vcE d b K E m H)) E m H
  | .list es,K,E,m,H=>CE d es (fun vs H=>vs.length<=1000000/\Ak (.lst vs) K H) E m H
  | .tup es,K,E,m,H=>CE d es (fun vs H=>vs.length<=1000000/\K (.tup vs) H) E m H
  | .dict ks es,K,E,m,H=>oX (CB m ks) fun l=>l.length<=15/\CE d es (fun vs H=>l.length=vs.length/\Ak (.dct (Cq [] (l.zip vs))) K H) E m H
  | .comp mask elt it cond,K,E,m,H=>vcI d it (fun o items=>compV d o items (vcE d elt) (vcC d cond) mask m K) E m H
  | .fstr ps,K,E,m,H=>vcF d ps Str.empty K E m H
  | .fval e,K,E,m,H=>vcE d e (fun v H=>aS v fun x=>x.length<=1000000/\K v H) E m H
  | .len e,K,E,m,H=>vcE d e (fun v=>lenV v K) E m H
  | .mkl e,K,E,m,H=>vcE d e (fun v=>mklV v K) E m H
  | .mkd e,K,E,m,H=>vcE d e (fun v H=>0<d/\mkdV v K H) E m H
  | .max a b,K,E,m,H=>vcE d a (fun x=>vcE d b (fun y H=>Dg (fun i j=>0<d/\K (.int (if j > i then j else i)) H) x y) E m) E m H
  | .isi a C,K,E,m,H=>vcE d a (fun v H=>oX (look H v) fun c=>aO c fun D Y=>D=C/\K (.bool true) H) E m H
  | _,_,_,_,_=>False
def vcF (d:Nat):X->Str->KV->KX->Lm->Hp->Prop
  | .nil,acc,K,_,_,H=>K (.str acc) H
  | .cons h t,acc,K,E,m,H=>vcE d h (fun v H=>aS v fun y=>acc.length+y.length<=1000000/\vcF d t (acc++y) K E m H) E m H
  | _,_,_,_,_,_=>False
def vcO (d:Nat):X->(Option V->Hp->Prop)->KX->Lm->Hp->Prop
  | .omit,K,_,_,H=>K none H
  | .opt e,K,E,m,H=>vcE d e (fun v=>K (some v)) E m H
  | _,_,_,_,_=>False
def CE (d:Nat):X->(List V->Hp->Prop)->KX->Lm->Hp->Prop
  | .nil,K,_,_,H=>K [] H
  | .cons h t,K,E,m,H=>vcE d h (fun v H=>cv v H (fun v=>CE d t (fun vs=>K (v::vs)) E m)) E m H
  | _,_,_,_,_=>False
def vcAnd (d:Nat):X->KV->KX->Lm->Hp->Prop
  | .cons e .nil,K,E,m,H=>vcE d e K E m H
  | .cons e t,K,E,m,H=>vcE d e (asB fun b H=>(b=true->vcAnd d t K E m H)/\(b=false->K (.bool false) H)) E m H
  | _,_,_,_,_=>False
def vcOr (d:Nat):X->KV->KX->Lm->Hp->Prop
  | .cons e .nil,K,E,m,H=>vcE d e K E m H
  | .cons e t,K,E,m,H=>vcE d e (asB fun b H=>(b=true->K (.bool true) H)/\(b=false->vcOr d t K E m H)) E m H
  | _,_,_,_,_=>False
def vcC (d:Nat):X->(Bool->Hp->Prop)->KX->Lm->Hp->Prop
  | .nil,K,_,_,H=>K true H
  | .cons e .nil,K,E,m,H=>vcE d e (asB K) E m H
  | _,_,_,_,_=>False
def vcI (d:Nat):X->(V->List V->Hp->Prop)->KX->Lm->Hp->Prop
  | .rng e,K,E,m,H=>vcE d e (fun v H=>aI v fun n=>(0<=n/\n<=1000000)/\K .none ((List.range n.toNat).map fun i=>.int (Int.ofNat i)) H) E m H
  | .rev e,K,E,m,H=>vcE d e (fun v H=>oX (look H v) fun c=>aL c fun xs=>xs.length<=1000000/\K v xs.reverse H) E m H
  | .itv e,K,E,m,H=>vcE d e (fun v H=>oX (srcV v H) fun xs=>K v xs H) E m H
  | _,_,_,_,_=>False
end
noncomputable def sk? (v:V):Option Int:=match v with
  | .tup xs=>(match xs with | [_,b]=>intOf b | _=>none)
  | _=>none
set_option tactic.hygienic true in
theorem sk_inv {v:V} {k:Int} (h:sk? v=some k):∃ a,v = .tup [a,.int k]:=by
  cases v<;>first | exact Option.noConfusion rfl (heq_of_eq h) | skip
  rename_i xs
  match xs,h with
  | [a,b],h=>exact ⟨a,by rw [Dl h]⟩
noncomputable def BD:List V->Option (List Int)
  | []=>some []
  | x::r=>(sk? x).bind fun k=>(BD r).map (k :: ·)
@[simp] theorem srt_n:BD []=some []:=rfl
@[simp] theorem srt_c {v k r}:BD (.tup [v,.int k]::r)=(BD r).map (k :: ·):=rfl
noncomputable def Bu:List Int->Bool
  | []=>true
  | a::r=>(match r with | []=>true | b::_=>decide (a<b)) && Bu r
abbrev KS:=Str->Lm->Hp->Prop
def vcS (d:Nat) (cur:Option Str):C->(Lm->Hp->Prop)->KV->KS->Lm->Hp->Prop
  | .skip,N,_,_,m,H=>N m H
  | .seq s t,N,R,E,m,H=>vcS d cur s (fun m H=>vcS d cur t N R E m H) R E m H
  | .ret e,_,R,E,m,H=>vcE d e (fun v H=>cv v H R) (fun x H=>E x m H) m H
  | .asg i e,N,_,E,m,H=>vcE d e (fun v H=>cv v H (fun v=>N (m.set i (some v)))) (fun x H=>E x m H) m H
  | .asgc i mask elt it cond,N,_,E,m,H=>vcE d (.comp mask elt it cond) (fun v H=>cv v H (fun v=>N (m.set i (some v)))) (fun x H=>E x m H) m H
  | .unp t e,N,_,E,m,H=>0<d/\vcE d e (fun v H=>BL t v m (fun m=>N m H)) (fun x H=>E x m H) m H
  | .sat o n e,N,_,E,m,H=>vcE d e (fun v H=>cv v H (fun v=>vcE d o (fun ov=>setC ov n v (N m)) (fun x H=>E x m H) m)) (fun x H=>E x m H) m H
  | .sit o i e,N,_,E,m,H=>vcE d e (fun v H=>cv v H (fun v=>vcE d o (fun ov=>vcE d i (fun iv=>setI ov iv v (N m)) (fun x H=>E x m H) m) (fun x H=>E x m H) m)) (fun x H=>E x m H) m H
  | .auv i op e,N,_,E,m,H=>oX m[i]? fun o=>oX o fun u=>aI u fun x=>vcE d e (fun v H=>isAdd op (aI v fun y=>N (m.set i (some (.int (x+y)))) H)) (fun x H=>E x m H) m H
  | .aua o n op e,N,_,E,m,H=>vcE d o (fun ov=>CD ov n (fun old=>vcE d e (fun v H=>isAdd op (aI old fun x=>aI v fun y=>setC ov n (.int (x+y)) (N m) H)) (fun x H=>E x m H) m)) (fun x H=>E x m H) m H
  | .exp e,N,_,E,m,H=>vcE d e (fun Y=>N m) (fun x H=>E x m H) m H
  | .iff c a b,N,R,E,m,H=>vcE d c (asB fun t H=>(t=true->vcS d cur a N R E m H)/\(t=false->vcS d cur b N R E m H)) (fun x H=>E x m H) m H
  | .whl c b,N,R,E,m,H=>∃ I:Nat->Lm->Hp->Prop,(∃ n,I n m H)/\∀ n m H,I n m H ->
      vcE d c (asB fun t H=>(t=true->vcS d cur b (fun m H=>∃ n',n'<n/\I n' m H) R E m H)/\(t=false->N m H)) (fun x H=>E x m H) m H
  | .frs t it b,N,R,E,m,H=>vcI d it (fun o items H=>0<d/\∃ I:Nat->Lm->Hp->Prop,I 0 m H /\
      (∀ i v m H',items[i]?=some v->I i m H'->AL o H H'/\BL t v m (fun m=>vcS d cur b (I (i+1)) R E m H')) /\
      (∀ m H',I items.length m H'->AL o H H'/\N m H')) (fun x H=>E x m H) m H
  | .rse e,_,_,E,m,H=>1<d/\vcE d e (fun v H=>aS v fun x=>E x m H) (fun x H=>E x m H) m H
  | .rer,_,_,E,m,H=>oX cur fun x=>E x m H
  | .tri b n h,N,R,E,m,H=>1<d/\cur=none/\vcS (d - 1) none b N R (fun x m H=>match n with
      | some i=>vcS 0 none h (fun m H=>N (m.set i none) H) (fun Y Y=>False) (fun Y Y Y=>False) (m.set i (some (.obj 117 [(20,.str x)]))) H
      | none=>vcS 0 (some x) h N R E m H) m H
  | .srt o,N,_,E,m,H=>2<d/\vcE d o (fun ov H=>aR ov fun a=>oX (H a) fun c=>aL c fun xs=>xs.length<64/\oX (BD xs) fun ks=>Bu ks=true/\N m H) (fun x H=>E x m H) m H
  | .dfn i,N,_,_,m,H=>N (m.set i (some .any)) H
  | .dli o i,N,_,E,m,H=>vcE d o (fun ov=>vcE d i (fun iv=>delI ov iv (N m)) (fun x H=>E x m H) m) (fun x H=>E x m H) m H
  | .bad,_,_,_,_,_=>False
section
variable {d:Nat} {K:KV} {X:KX} {m:Lm} {H:Hp} {cur:Option Str} {N:Lm->Hp->Prop} {R:KV} {E:KS}
@[simp] theorem E_cst {v}:vcE d (.cst v) K X m H=K v H:=rfl
@[simp] theorem Df {i}:vcE d (.loc i) K X m H=oX m[i]? fun o=>oX o fun v=>K v H:=rfl
@[simp] theorem E_glb {v}:vcE d (.glb v) K X m H=K v H:=rfl
@[simp] theorem E_attr {e n}:vcE d (.attr e n) K X m H=vcE d e (fun o=>CD o n K) X m H:=rfl
@[simp] theorem E_sub {e i}:vcE d (.sub e i) K X m H=vcE d e (fun o=>vcE d i (fun j=>subV o j K) X m) X m H:=rfl
@[simp] theorem E_slc {e lo hi}:vcE d (.slc e lo hi) K X m H=vcE d e (fun o=>vcO d lo (fun a=>vcO d hi (fun b=>slcV o a b K) X m) X m) X m H:=rfl
@[simp] theorem Dy {f as}:vcE d (.call f as) K X m H=vcE d f (fun fv=>CE d as (fun vs=>AD d fv vs K X) X m) X m H:=rfl
@[simp] theorem E_meth {o n as}:vcE d (.meth o n as) K X m H=vcE d o (fun ov H0=>(rcv H0 ov n).isSome=true/\CE d as (fun vs=>Bc d (rcv H0 ov n) ov n vs K X) X m H0) X m H:=rfl
@[simp] theorem E_bin {op l r}:vcE d (.bin op l r) K X m H=vcE d l (fun a=>vcE d r (fun b=>DC op a b K) X m) X m H:=rfl
@[simp] theorem E_cmp {op l r}:vcE d (.cmp op l r) K X m H=vcE d l (fun a=>vcE d r (fun b=>CG op a b (fun t=>K (.bool t))) X m) X m H:=rfl
@[simp] theorem E_not {e}:vcE d (.not e) K X m H=vcE d e (asB fun t=>K (.bool !t)) X m H:=rfl
@[simp] theorem E_and {es}:vcE d (.bop .And es) K X m H=vcAnd d es K X m H:=rfl
@[simp] theorem E_or {es}:vcE d (.bop .Or es) K X m H=vcOr d es K X m H:=rfl
@[simp] theorem E_ite {c a b}:vcE d (.ite c a b) K X m H=vcE d c (asB fun t H=>(t=true->vcE d a K X m H)/\(t=false->vcE d b K X m H)) X m H:=rfl
@[simp] theorem E_list {es}:vcE d (.list es) K X m H=CE d es (fun vs H=>vs.length<=1000000/\Ak (.lst vs) K H) X m H:=rfl
@[simp] theorem E_tup {es}:vcE d (.tup es) K X m H=CE d es (fun vs H=>vs.length<=1000000/\K (.tup vs) H) X m H:=rfl
@[simp] theorem E_dict {ks es}:vcE d (.dict ks es) K X m H=oX (CB m ks) fun l=>l.length<=15/\CE d es (fun vs H=>l.length=vs.length/\Ak (.dct (Cq [] (l.zip vs))) K H) X m H:=rfl
@[simp] theorem E_comp {mask elt it cond}:vcE d (.comp mask elt it cond) K X m H=vcI d it (fun o items=>compV d o items (vcE d elt) (vcC d cond) mask m K) X m H:=rfl
@[simp] theorem E_fstr {ps}:vcE d (.fstr ps) K X m H=vcF d ps Str.empty K X m H:=rfl
@[simp] theorem E_fval {e}:vcE d (.fval e) K X m H=vcE d e (fun v H=>aS v fun x=>x.length<=1000000/\K v H) X m H:=rfl
@[simp] theorem E_len {e}:vcE d (.len e) K X m H=vcE d e (fun v=>lenV v K) X m H:=rfl
@[simp] theorem E_mkl {e}:vcE d (.mkl e) K X m H=vcE d e (fun v=>mklV v K) X m H:=rfl
@[simp] theorem E_mkd {e}:vcE d (.mkd e) K X m H=vcE d e (fun v H=>0<d/\mkdV v K H) X m H:=rfl
@[simp] theorem E_max {a b}:vcE d (.max a b) K X m H=vcE d a (fun x=>vcE d b (fun y H=>Dg (fun i j=>0<d/\K (.int (if j > i then j else i)) H) x y) X m) X m H:=rfl
theorem E_extr {o a}:vcE d (.extr o a) K X m H=vcE d o (fun ov H0=>aR ov fun r=>oX (H0 r) fun c=>aL c fun Y=>vcE d a (fun av H=>aL av fun ys=>oX (H r) fun c=>aL c fun xs=>(0<d/\xs.length<=1000000/\ys.length<=1000000)/\K .none (upd H r (.lst (xs++ys.reverse)))) X m H0) X m H:=rfl
@[simp] theorem E_isi {a C}:vcE d (.isi a C) K X m H=vcE d a (fun v H=>oX (look H v) fun c=>aO c fun D Y=>D=C/\K (.bool true) H) X m H:=rfl
@[simp] theorem F_nil {acc}:vcF d .nil acc K X m H=K (.str acc) H:=rfl
@[simp] theorem F_cons {h t acc}:vcF d (.cons h t) acc K X m H=vcE d h (fun v H=>aS v fun y=>acc.length+y.length<=1000000/\vcF d t (acc++y) K X m H) X m H:=rfl
@[simp] theorem O_omit {K:Option V->Hp->Prop}:vcO d .omit K X m H=K none H:=rfl
@[simp] theorem O_opt {K:Option V->Hp->Prop} {e}:vcO d (.opt e) K X m H=vcE d e (fun v=>K (some v)) X m H:=rfl
@[simp] theorem Es_nil {K:List V->Hp->Prop}:CE d .nil K X m H=K [] H:=rfl
@[simp] theorem Bf {K:List V->Hp->Prop} {h t}:CE d (.cons h t) K X m H=vcE d h (fun v H=>cv v H (fun v=>CE d t (fun vs=>K (v::vs)) X m)) X m H:=rfl
@[simp] theorem A_one {e}:vcAnd d (.cons e .nil) K X m H=vcE d e K X m H:=rfl
@[simp] theorem A_more {e h t}:vcAnd d (.cons e (.cons h t)) K X m H=vcE d e (asB fun b H=>(b=true->vcAnd d (.cons h t) K X m H)/\(b=false->K (.bool false) H)) X m H:=rfl
@[simp] theorem O_one {e}:vcOr d (.cons e .nil) K X m H=vcE d e K X m H:=rfl
@[simp] theorem O_more {e h t}:vcOr d (.cons e (.cons h t)) K X m H=vcE d e (asB fun b H=>(b=true->K (.bool true) H)/\(b=false->vcOr d (.cons h t) K X m H)) X m H:=rfl
@[simp] theorem C_nil {K:Bool->Hp->Prop}:vcC d .nil K X m H=K true H:=rfl
@[simp] theorem C_one {K:Bool->Hp->Prop} {e}:vcC d (.cons e .nil) K X m H=vcE d e (asB K) X m H:=rfl
@[simp] theorem I_rng {K:V->List V->Hp->Prop} {e}:vcI d (.rng e) K X m H=vcE d e (fun v H=>aI v fun n=>(0<=n/\n<=1000000)/\K .none ((List.range n.toNat).map fun i=>.int (Int.ofNat i)) H) X m H:=rfl
@[simp] theorem I_rev {K:V->List V->Hp->Prop} {e}:vcI d (.rev e) K X m H=vcE d e (fun v H=>oX (look H v) fun c=>aL c fun xs=>xs.length<=1000000/\K v xs.reverse H) X m H:=rfl
@[simp] theorem I_itv {K:V->List V->Hp->Prop} {e}:vcI d (.itv e) K X m H=vcE d e (fun v H=>oX (srcV v H) fun xs=>K v xs H) X m H:=rfl
@[simp] theorem S_skip:vcS d cur .skip N R E m H=N m H:=rfl
@[simp] theorem De {s t}:vcS d cur (.seq s t) N R E m H=vcS d cur s (fun m H=>vcS d cur t N R E m H) R E m H:=rfl
@[simp] theorem S_ret {e}:vcS d cur (.ret e) N R E m H=vcE d e (fun v H=>cv v H R) (fun x H=>E x m H) m H:=rfl
@[simp] theorem S_asg {i e}:vcS d cur (.asg i e) N R E m H=vcE d e (fun v H=>cv v H (fun v=>N (m.set i (some v)))) (fun x H=>E x m H) m H:=rfl
@[simp] theorem S_asgc {i mask elt it cond}:vcS d cur (.asgc i mask elt it cond) N R E m H=vcI d it (fun o items=>compV d o items (vcE d elt) (vcC d cond) mask m (fun v H=>cv v H (fun v=>N (m.set i (some v))))) (fun x H=>E x m H) m H:=rfl
@[simp] theorem S_unp {t e}:vcS d cur (.unp t e) N R E m H=(0<d/\vcE d e (fun v H=>BL t v m (fun m=>N m H)) (fun x H=>E x m H) m H):=rfl
@[simp] theorem S_sat {o n e}:vcS d cur (.sat o n e) N R E m H=vcE d e (fun v H=>cv v H (fun v=>vcE d o (fun ov=>setC ov n v (N m)) (fun x H=>E x m H) m)) (fun x H=>E x m H) m H:=rfl
@[simp] theorem S_sit {o i e}:vcS d cur (.sit o i e) N R E m H=vcE d e (fun v H=>cv v H (fun v=>vcE d o (fun ov=>vcE d i (fun iv=>setI ov iv v (N m)) (fun x H=>E x m H) m) (fun x H=>E x m H) m)) (fun x H=>E x m H) m H:=rfl
@[simp] theorem S_auv {i op e}:vcS d cur (.auv i op e) N R E m H=oX m[i]? fun o=>oX o fun u=>aI u fun x=>vcE d e (fun v H=>isAdd op (aI v fun y=>N (m.set i (some (.int (x+y)))) H)) (fun x H=>E x m H) m H:=rfl
@[simp] theorem S_aua {o n op e}:vcS d cur (.aua o n op e) N R E m H=vcE d o (fun ov=>CD ov n (fun old=>vcE d e (fun v H=>isAdd op (aI old fun x=>aI v fun y=>setC ov n (.int (x+y)) (N m) H)) (fun x H=>E x m H) m)) (fun x H=>E x m H) m H:=rfl
@[simp] theorem S_exp {e}:vcS d cur (.exp e) N R E m H=vcE d e (fun Y=>N m) (fun x H=>E x m H) m H:=rfl
@[simp] theorem S_iff {c a b}:vcS d cur (.iff c a b) N R E m H=vcE d c (asB fun t H=>(t=true->vcS d cur a N R E m H)/\(t=false->vcS d cur b N R E m H)) (fun x H=>E x m H) m H:=rfl
theorem S_rer:vcS d cur .rer N R E m H=oX cur fun x=>E x m H:=rfl
theorem S_tri {b n h}:vcS d cur (.tri b n h) N R E m H=(1<d/\cur=none/\vcS (d - 1) none b N R (fun x m H=>match n with
      | some i=>vcS 0 none h (fun m H=>N (m.set i none) H) (fun Y Y=>False) (fun Y Y Y=>False) (m.set i (some (.obj 117 [(20,.str x)]))) H
      | none=>vcS 0 (some x) h N R E m H) m H):=rfl
theorem S_dli {o i}:vcS d cur (.dli o i) N R E m H=vcE d o (fun ov=>vcE d i (fun iv=>delI ov iv (N m)) (fun x H=>E x m H) m) (fun x H=>E x m H) m H:=rfl
@[simp] theorem S_rse {e}:vcS d cur (.rse e) N R E m H=(1<d/\vcE d e (fun v H=>aS v fun x=>E x m H) (fun x H=>E x m H) m H):=rfl
def whlP (d:Nat) (cur:Option Str) (c:Mine.X) (b:Mine.C) (N:Lm->Hp->Prop) (R:KV) (E:KS) (m:Lm) (H:Hp):Prop:=∃ I:Nat->Lm->Hp->Prop,(∃ n,I n m H)/\∀ n m H,I n m H ->
      vcE d c (asB fun t H=>(t=true->vcS d cur b (fun m H=>∃ n',n'<n/\I n' m H) R E m H)/\(t=false->N m H)) (fun x H=>E x m H) m H
def frsP (d:Nat) (cur:Option Str) (t:Tg) (b:Mine.C) (o:V) (items:List V) (N:Lm->Hp->Prop) (R:KV) (E:KS) (m:Lm) (H:Hp):Prop:=0<d/\∃ I:Nat->Lm->Hp->Prop,I 0 m H /\
      (∀ i v m H',items[i]?=some v->I i m H'->AL o H H'/\BL t v m (fun m=>vcS d cur b (I (i+1)) R E m H')) /\
      (∀ m H',I items.length m H'->AL o H H'/\N m H')
@[simp] theorem S_whl {c b}:vcS d cur (.whl c b) N R E m H=whlP d cur c b N R E m H:=rfl
@[simp] theorem S_frs {t it b}:vcS d cur (.frs t it b) N R E m H=vcI d it (fun o items H=>frsP d cur t b o items N R E m H) (fun x H=>E x m H) m H:=rfl
end
inductive TgV (c:Sc):Expr->Tg->Prop
  | one {x:Str} {p:Pos} {i:Nat} (h:c.loc? x=some i):TgV c (.Name x p) (.one i)
  | tup {es:List Expr} {k:Nat} {p:Pos} {ls:List Nat} {t:Tg} (h:locs c es=some ls) (q:tgOf ls=some t):TgV c (.Tuple es k p) t
inductive Key1:Arguments->Expr->Scope->Prop
  | mk {r:Str} {ps q1 q2 q3:Pos} {n1:Nat} {sc:Scope} (k1:(r == ("__debug__" : Str))=false) (k2:sc.names.lookup r=some .local) (k3:sc.kind = .function) (k4:sc.isCoroutine=false) (k5:sc.isGenerator=false) (k6:(sc.names.all fun (_,k)=>k == .local)=true) :
    Key1 ⟨[],[⟨r,none,ps⟩],none,[],[],none,[]⟩ (.Subscript (.Name r q1) (.Constant (.int 1) n1 q2) q3) sc
section
variable {c:Sc} {e l r t a b o i lo hi:Expr} {es as:List Expr} {p q np ap px:Pos} {n x y:Str} {k:Nat} {op:Operator} {cop:CmpOp} {ks:List (Option Expr)} {vs:List Expr} {z:Int}
theorem comp_Constant {k:Const} {n}:comp c (.Constant k n p)=cst? k:=rfl
theorem comp_Name:comp c (.Name x p)=c.nm x:=rfl
theorem comp_Attribute:comp c (.Attribute e n p)=if Ad e then (match fIx n with | some k=>.attr (comp c e) k | none=>.bad) else .bad:=rfl
theorem comp_BinOp:comp c (.BinOp l op r p) = .bin op (comp c l) (comp c r):=rfl
theorem comp_Not:comp c (.UnaryOp .Not e p) = .not (comp c e):=rfl
theorem Be {op:BoolOp}:comp c (.BoolOp op es p) = .bop op (AT c es):=rfl
theorem DY:comp c (.Compare l [cop] [r] p)=if Cj r then .bad else .cmp cop (comp c l) (comp c r):=rfl
theorem comp_IfExp:comp c (.IfExp t a b p)=if BF t then .ite (comp c t) (comp c a) (comp c b) else .bad:=rfl
theorem comp_List:comp c (.List es p)=if AP es then .list (AT c es) else .bad:=rfl
theorem comp_Tuple:comp c (.Tuple es k p)=if AP es then .tup (AT c es) else .bad:=rfl
theorem comp_Dict:comp c (.Dict ks vs p)=if ks.length == vs.length then .dict (compK c ks) (AT c vs) else .bad:=rfl
theorem CS:comp c (.JoinedStr es p)=match es with | _::_::_=>.fstr (AT c es) | _=>.bad:=rfl
theorem BK:comp c (.FormattedValue e z none p)=if z == -1 then .fval (comp c e) else .bad:=rfl
theorem comp_Slice {lo hi:Option Expr}:comp c (.Subscript e (.Slice lo hi none q) p) = .slc (comp c e) (compO c lo) (compO c hi):=rfl
theorem comp_Subscript (h:Aw i=false):comp c (.Subscript e i p) = .sub (comp c e) (comp c i):=by cases i<;>first | rfl | (cases h)
theorem By:comp c (.Call (.Name x np) [a] [] p)=if AP [a] then one1 c x (comp c a) else .bad:=rfl
theorem comp_call2:comp c (.Call (.Name x np) [a,b] [] p)=if AP [a,b] then two2 c x (comp c a) (comp c b) else .bad:=rfl
theorem comp_call0:comp c (.Call (.Name x np) [] [] p)=if AP [] && decide (([]:List Expr).length<20) then .call (c.fn x) (AT c []) else .bad:=rfl
theorem comp_call3:comp c (.Call (.Name x np) (a::b::e::as) [] p)=if AP (a::b::e::as) && decide ((a::b::e::as).length<20) then .call (c.fn x) (AT c (a::b::e::as)) else .bad:=rfl
theorem comp_extr:comp c (.Call (.Attribute o n ap) [.Call (.Name x np) [a] [] q] [] p)=if Ad o && (ap.endLine == p.line) && AP [a] then
      (if (n == ("extend" : Str)) && c.builtin x "reversed" then .extr (comp c o) (comp c a)
      else (match mIx n with | some k=>.meth (comp c o) k (.cons (one1 c x (comp c a)) .nil) | none=>.bad)) else .bad:=rfl
theorem comp_ListComp {ifs:List Expr} {sc:Scope} {w:Int}:comp c (.ListComp e [⟨.Name x px,i,ifs,w⟩] sc p)=if DA c sc x w i ifs then .comp (c.mask sc) (comp (c.inner sc x) e) (Cf (comp c i)) (AT (c.inner sc x) ifs) else .bad:=rfl
theorem comp_meth (hn:∀ r np a q,es≠[.Call (.Name r np) [a] [] q]):comp c (.Call (.Attribute o n ap) es [] p)=if Ad o && AP es && (ap.endLine == p.line) && decide (es.length<20) then (match mIx n with | some k=>.meth (comp c o) k (AT c es) | none=>.bad) else .bad:=by
  match es,hn with
  | [],_=>rfl
  | e::r,hn =>
    cases e with
    | Call f as kws q =>
      cases f with
      | Name x np =>
        match as,kws,r,hn with
        | [],_,_,_=>rfl
        | _::_::_,_,_,_=>rfl
        | [a],_::_,_,_=>rfl
        | [a],[],_::_,_=>rfl
        | [a],[],[],hn=>exact absurd rfl (hn _ _ _ _)
      | _=>rfl
    | _=>rfl
theorem comp_kw {f:Expr} {k:Keyword} {ks:List Keyword}:comp c (.Call f as (k::ks) p) = .bad:=by
  cases f with
  | Name x np =>
    match as with
    | []=>rfl
    | [_]=>rfl
    | [_,_]=>rfl
    | _::_::_::_=>rfl
  | Attribute o n ap =>
    match as with
    | []=>rfl
    | e::r =>
      cases e with
      | Call f as kws q =>
        cases f with
        | Name x np =>
          match as,kws,r with
          | [],_,_=>rfl
          | _::_::_,_,_=>rfl
          | [a],_::_,_=>rfl
          | [a],[],_::_=>rfl
          | [a],[],[]=>rfl
        | _=>rfl
      | _=>rfl
  | _=>rfl
theorem comp_gens {g h:Comprehension} {r:List Comprehension} {sc:Scope}:comp c (.ListComp e (g::h::r) sc p) = .bad:=by obtain ⟨t,i,f,w⟩:=g;cases t<;>rfl
theorem AZ:AT c [] = .nil:=rfl
theorem AY:AT c (e::es) = .cons (comp c e) (AT c es):=rfl
theorem DZ {x:Option Expr}:Al c (.Return x p)=match x with | some e=>.ret (comp c e) | none=>.ret (.cst .none):=by cases x<;>rfl
theorem compS_If {x y:List Stmt}:Al c (.If t x y p)=if BF t then .iff (comp c t) (Ac c x) (Ac c y) else .bad:=rfl
theorem compS_While {b:List Stmt}:Al c (.While t b [] p)=if BF t then .whl (comp c t) (Ac c b) else .bad:=rfl
theorem compS_For {b:List Stmt}:Al c (.For t i b [] p)=if Cj i then .bad else (match tg? c t with | some g=>.frs g (Cf (comp c i)) (Ac c b) | none=>.bad):=rfl
theorem compS_attr:Al c (.Assign [.Attribute o n q] e p)=if Ax e || !Ad o then .bad else (match fIx n with | some k=>.sat (comp c o) k (comp c e) | none=>.bad):=rfl
theorem compS_sub:Al c (.Assign [.Subscript o i q] e p)=if Ax e || Aw i then .bad else .sit (comp c o) (comp c i) (comp c e):=rfl
theorem compS_tup {ts:List Expr}:Al c (.Assign [.Tuple ts k q] e p)=if Ax e || isTuple e then .bad else (match tg? c (.Tuple ts k q) with | some t=>.unp t (comp c e) | none=>.bad):=rfl
theorem compS_auv:Al c (.AugAssign (.Name x np) op e p)=match c.loc? x with | some i=>.auv i op (comp c e) | none=>.bad:=rfl
theorem compS_aua:Al c (.AugAssign (.Attribute o n ap) op e p)=if Ad o then (match fIx n with | some k=>.aua (comp c o) k op (comp c e) | none=>.bad) else .bad:=rfl
theorem compS_del:Al c (.Delete [.Subscript o i q] p)=if Aw i then .bad else .dli (comp c o) (comp c i):=rfl
theorem compS_rse:Al c (.Raise (some (.Call (.Name x np) [a] [] q)) none p)=match c.fn x with | .glb (.ref z)=>if z == CR then .rse (comp c a) else .bad | _=>.bad:=rfl
theorem compS_rer:Al c (.Raise none none p) = .rer:=rfl
theorem compS_try {b h:List Stmt} {m:Option Str}:Al c (.Try b [.ExceptHandler (some (.Name x np)) m h q] [] [] p)=if h.isEmpty then .bad else (match c.fn x with
    | .glb (.ref z)=>if z == CR then (match m with
      | none=>.tri (Ac c b) none (Ac c h)
      | some y=>(match c.loc? y with | some i=>.tri (Ac c b) (some i) (Ac c h) | none=>.bad)) else .bad
    | _=>.bad):=rfl
theorem compS_asgc {e i:Expr} {ifs:List Expr} {sc:Scope} {w:Int}:Al c (.Assign [.Name x np] (.ListComp e [⟨.Name y px,i,ifs,w⟩] sc q) p)=match c.loc? x with
    | none=>.bad
    | some j=>if DA c sc y w i ifs && np.line == q.line && !(sc.names.any fun (n,k)=>n == x && (k == .local || k == .cell)) then .asgc j (c.mask sc) (comp (c.inner sc y) e) (Cf (comp c i)) (AT (c.inner sc y) ifs) else .bad:=rfl
theorem compB_nil:Ac c [] = .skip:=rfl
theorem compB_cons {s:Stmt} {r:List Stmt}:Ac c (s::r) = .seq (Al c s) (Ac c r):=rfl
theorem BB {e:Expr} {r:List Expr} {env:Env} (h:AP (e::r)=true):starEach (e::r) env=(false,eval e env)::starEach r env/\AP r=true:=by cases e<;>first | exact ⟨rfl,h⟩ | exact absurd h Bool.false_ne_true
theorem DM {r:List Expr}:Aq (e::r)=(BF e && Aq r):=rfl
theorem slice_inv (h:Aw i=true):∃ lo hi st q,i = .Slice lo hi st q:=by cases i<;>first | exact absurd h Bool.false_ne_true | exact ⟨_,_,_,_,rfl⟩
theorem folded_no {it:Expr} {env:Env} {x:Value} (h:Cj it=false):foldedSetIterable it env x=pure x:=by cases it<;>first | rfl | exact absurd h.symm Bool.false_ne_true
theorem marks_no {op:CmpOp} {r:Expr} (h:Cj r=false):behindInMarks op r=false:=by cases r<;>first | rfl | exact absurd h.symm Bool.false_ne_true
theorem swaps_no {e:Expr} {t:Option Expr} {n:Nat} {env:Env} (h:Ax e=false):swapsWith e t n env=pure false:=by unfold swapsWith;cases e<;>first | rfl | exact absurd h.symm Bool.false_ne_true
theorem nm_inv (h:nm? e=some x):∃ p,e = .Name x p:=by cases e<;>first | (cases h;exact ⟨_,rfl⟩) | exact Option.noConfusion rfl (heq_of_eq h)
theorem tg_inv {t:Tg} (h:tg? c e=some t):TgV c e t:=by
  cases e<;>first | exact Option.noConfusion rfl (heq_of_eq h) | skip
  . obtain ⟨i,hi,rfl⟩:=Option.map_eq_some_iff.mp h;exact .one hi
  . obtain ⟨ls,h1,h2⟩:=Option.bind_eq_some_iff.mp h;exact .tup h1 h2
theorem bare_inv {la:Arguments} (h:Dc la=true):la=⟨[],la.args,none,[],[],none,[]⟩:=by obtain ⟨po,as,va,ko,kd,kw,df⟩:=la;simp only [Dc,Bool.and_eq_true,List.isEmpty_iff,Option.isNone_iff_eq_none] at h;obtain ⟨⟨⟨⟨⟨rfl,rfl⟩,rfl⟩,rfl⟩,rfl⟩,rfl⟩:=h;rfl
set_option tactic.hygienic true in
theorem one_inv (h:isOne e=true):∃ n p,e = .Constant (.int 1) n p:=by
  cases e<;>first | exact absurd h Bool.false_ne_true | skip
  rename_i k n p;cases k<;>first | exact absurd h Bool.false_ne_true | exact ⟨n,p,by rw [beq_iff_eq.mp h]⟩
theorem second_inv (h:second x e=true):∃ q1 n q2 q3,e = .Subscript (.Name x q1) (.Constant (.int 1) n q2) q3:=by
  cases e<;>first | exact absurd h Bool.false_ne_true | skip
  obtain ⟨h1,h2⟩:=Bool.and_eq_true_iff.mp h;obtain ⟨n,q2,rfl⟩:=one_inv h2;obtain ⟨q1,rfl⟩:=nm_inv (beq_iff_eq.mp h1);exact ⟨_,_,_,_,rfl⟩
theorem key1_inv {la:Arguments} {sc:Scope} (h:Cw la e sc=true):Key1 la e sc:=by
  obtain ⟨h1,h2⟩:=Bool.and_eq_true_iff.mp h;refine wl (bare_inv h1 ..) ?_;generalize la.args=as at h2
  match as,h2 with
  | [⟨r,a,p⟩],h2=>change (_ && _)=true at h2;simp only [Bool.and_eq_true,beq_iff_eq,Bool.not_eq_true',Option.isNone_iff_eq_none] at h2;obtain ⟨⟨⟨⟨⟨⟨⟨rfl,k0⟩,k1⟩,k2⟩,k3⟩,k4⟩,k5⟩,k6⟩:=h2;obtain ⟨_,_,_,_,rfl⟩:=second_inv k0;exact .mk k1 k2 k3 k4 k5 k6
end
def relB (_:Gh) (b a:Bool):Prop:=b=a
def relU (_:Gh) (_ _:Unit):Prop:=True
section
variable {α β γ δ:Type} {w:World} {B:Heap} {os:OsState} {A:Around} {G:Gh} {s:Shared} {X:KX}
theorem PG.pre {rel:Gh->β->α->Prop} {G₁:Gh} {h h₁:Heap} {K:β->Hp->Prop} {a:α} {s':Shared} (e:Ext G G₁) (l:LKeep G h h₁) (p:PG w B os rel G₁ h₁ K a s'):PG w B os rel G h K a s' :=
  p.casesOn fun G' v H' a b c d r k=>⟨G',v,H',e.trans a,b,l.trans e c,d,r,k⟩
abbrev WG (w:World) (B:Heap) (os:OsState) (A:Around) (t:Sem α) (rel:Gh->β->α->Prop) (K:β->Hp->Prop) (X:KX) (G:Gh) (s:Shared):Prop :=
  wpAny (Mo w) A t (PG w B os rel G s.heap K) (PostX w B os G s.heap X) s
theorem WG.to {t:Sem α} {rel:Gh->β->α->Prop} {K:β->Hp->Prop} {Q:α->Shared->Prop} (h:WG w B os A t rel K X G s)
    (k:∀ G' b H' a s',Ext G G'->Sat w B os G' s'->LKeep G s.heap s'.heap->Le H' G'->rel G' b a->K b H'->Q a s'):wpAny (Mo w) A t Q (PostX w B os G s.heap X) s :=
  wpAny_mono h (fun a s' p=>p.casesOn fun G' b H' e S l le r q=>k G' b H' a s' e S l le r q) fun Y Y e=>e
theorem WG.on {t:Sem α} {rel:Gh->β->α->Prop} {K:β->Hp->Prop} {Q:α->Shared->Prop} {E:Value->Shared->Prop} (h:WG w B os A t rel K X G s)
    (k:∀ G' b H' a s',Ext G G'->Sat w B os G' s'->LKeep G s.heap s'.heap->Le H' G'->rel G' b a->K b H'->Q a s') (x:∀ y s',PostX w B os G s.heap X y s'->E y s'):wpAny (Mo w) A t Q E s :=
  wpAny_mono h (fun a s' p=>p.casesOn fun G' b H' e S l le r q=>k G' b H' a s' e S l le r q) x
theorem WG.bind {t:Sem α} {f:α->Sem γ} {rel:Gh->β->α->Prop} {rel2:Gh->δ->γ->Prop} {K:β->Hp->Prop} {K2:δ->Hp->Prop}
    (h:WG w B os A t rel K X G s)
    (k:∀ G' b H' a s',Ext G G'->Sat w B os G' s'->LKeep G s.heap s'.heap->Le H' G'->rel G' b a->K b H'->WG w B os A (f a) rel2 K2 X G' s') :
    WG w B os A (t >>= f) rel2 K2 X G s :=
  wpAny_bind (h.to fun G' b H' a s' e S l le r q=>wpAny_mono (k G' b H' a s' e S l le r q) (fun Y Y p=>p.pre e l) fun Y Y p=>p.pre e l)
theorem WG.bind' {t:Sem α} {rel:Gh->β->α->Prop} {rel2:Gh->δ->γ->Prop} {K:β->Hp->Prop} {K2:δ->Hp->Prop} {f:α->Sem γ}
    (h:WG w B os A t rel K X G s)
    (k:∀ G' b H' a s',Ext G G'->Sat w B os G' s'->LKeep G s.heap s'.heap->Le H' G'->rel G' b a->K b H'->WG w B os A (f a) rel2 K2 X G' s') :
    wpAny (Mo w) A t (fun a s'=>wpAny (Mo w) A (f a) (PG w B os rel2 G s.heap K2) (PostX w B os G s.heap X) s') (PostX w B os G s.heap X) s :=
  h.to fun G' b H' a s' e S l le r q=>wpAny_mono (k G' b H' a s' e S l le r q) (fun Y Y p=>p.pre e l) fun Y Y p=>p.pre e l
theorem WG.now {rel:Gh->β->α->Prop} {K:β->Hp->Prop} {H:Hp} {b:β} {a:α} (S:Sat w B os G s) (l:Le H G) (r:rel G b a) (k:K b H) {s':Shared} (eh:s'.heap=s.heap:=by rfl) (eg:s'.gens=s.gens:=by rfl) (eo:s'.os=s.os:=by rfl):PG w B os rel G s.heap K a s' :=
  ⟨G,b,H,.refl G,S.keeps (fun b o e=>by rw [eh];exact e) eg eo,by rw [eh];exact .refl _ _,l,r,k⟩
theorem WG.pure {rel:Gh->β->α->Prop} {K:β->Hp->Prop} {H:Hp} {b:β} {a:α} (S:Sat w B os G s) (l:Le H G) (r:rel G b a) (k:K b H):WG w B os A (pure a:Sem α) rel K X G s :=
  wpAny_pure (WG.now S l r k)
theorem WG.stand {t:Sem α} {pos:Pos} {rel:Gh->β->α->Prop} {K:β->Hp->Prop} (h:WG w B os A t rel K X G s):WG w B os A (standAt pos >>= fun Y=>t) rel K X G s:=wpAny_bind (wpAny_standAt h)
theorem WG.hold {t:Sem α} {vs:List Value} {rel:Gh->β->α->Prop} {K:β->Hp->Prop} (h:WG w B os A t rel K X G s):WG w B os A (holding vs t) rel K X G s:=wpAny_holding h
theorem WG.oper {t:Sem Value} {vs:List Value} {rel:Gh->β->Value->Prop} {K:β->Hp->Prop} (h:WG w B os A t rel K X G s):WG w B os A (operate vs t) rel K X G s:=wpAny_operating h
theorem WG.conv {t:Sem Value} {K:KV} (h:WG w B os A t VR (fun v H=>cv v H K) X G s):WG w B os A t VR K X G s :=
  h.to fun G' b H' x s' e S l le r q=>by obtain ⟨v',H'',c,k⟩:=cv_conv q;obtain ⟨G'',e',S',le',k'⟩:=c w B os G' s' S le;exact ⟨G'',v',H'',e.trans e',S',l,le',k' x r,k⟩
theorem PG.new {K:KV} {H:Hp} {c:V} {o:Obj} {s':Shared} (S:Sat w B os G s) (l:Le H G) (hf:o.isFreed=false) (hc:∀ G',Ext G G'->OR w G' (s.heap.push o) s.heap.objs.size c) (k:Ak c K H)
    (hs:s'.heap=s.heap.push o:=by rfl) (hg:s'.gens=s.gens:=by rfl) (ho:s'.os=s.os:=by rfl):PG w B os VR G s.heap K (.ref s.heap.objs.size) s':=by
  refine ⟨_,.ref s.heap.objs.size,upd H s.heap.objs.size c,.upd_fresh S.fresh,S.push (c:=.mu c) hf hc hs hg ho,?_,l.upd _ _,rfl,k _ (l.fresh S)⟩;rw [hs];exact .keeps fun b o e=>Heap.get?_push_of_some _ e
theorem PG.newFz {K:KV} {H:Hp} {c:V} {o:Obj} {s':Shared} (S:Sat w B os G s) (l:Le H G) (hf:o.isFreed=false) (hc:∀ G',Ext G G'->OR w G' (s.heap.push o) s.heap.objs.size c) (k:K c H)
    (hs:s'.heap=s.heap.push o:=by rfl) (hg:s'.gens=s.gens:=by rfl) (ho:s'.os=s.os:=by rfl):PG w B os VR G s.heap K (.ref s.heap.objs.size) s':=by
  have S':=S.push (c:=.fz c) hf hc hs hg ho;refine ⟨_,c,H,.upd_fresh S.fresh,S',?_,l.other (l.fresh S),VR.of_fz (AA _ _ _) (S'.cells _ _ (AA _ _ _)).2,k⟩;rw [hs];exact .keeps fun b o e=>Heap.get?_push_of_some _ e
theorem PG.set {K:β->Hp->Prop} {rel:Gh->β->α->Prop} {H:Hp} {a:Addr} {v v':V} {b:β} {x:α} {s':Shared} (S:Sat w B os G s) (l:Le H G) (ha:H a=some v) (k:Heap.SameBut a s.heap s'.heap) (hc:OR w G s'.heap a v') (hg:s'.gens=s.gens) (ho:s'.os=s.os)
    (r:∀ G',Ext G G'->rel G' b x) (q:K b (upd H a v')):PG w B os rel G s.heap K x s':=by
  obtain ⟨S',e⟩:=S.set (l a v ha) k hc hg ho;exact ⟨_,b,_,e,S',.sameBut k (by rw [l a v ha];simp),l.upd a v',r _ e,q⟩
theorem PG.setHid {K:β->Hp->Prop} {rel:Gh->β->α->Prop} {H:Hp} {a dx:Addr} {v v':V} {b:β} {x:α} {s':Shared} (S:Sat w B os G s) (l:Le H G) (ha:H a=some v) (hd:G dx=some (.hid a)) (k:Heap.SameBut dx s.heap s'.heap) (hl:(s'.heap.get? dx).isSome=true) (hc:OR w G s'.heap a v') (hg:s'.gens=s.gens) (ho:s'.os=s.os)
    (r:∀ G',Ext G G'->rel G' b x) (q:K b (upd H a v')):PG w B os rel G s.heap K x s':=by
  obtain ⟨S',e⟩:=S.setHid (l a v ha) hd k hl hc hg ho;exact ⟨_,b,_,e,S',.sameBut k (by rw [hd];simp),l.upd a v',r _ e,q⟩
end
structure At (w:World) (B:Heap) (os:OsState) (A:Around) (d:Nat) (env:Env) (ls:List Str) (m:Lm) (H:Hp) (G:Gh) (s:Shared):Prop where
  sat:Sat w B os G s
  cx:Cx A d G
  loc:Loc env ls m G s.heap
  le:Le H G
section
variable {w:World} {B:Heap} {os:OsState} {A:Around} {d:Nat} {env:Env} {ls:List Str} {m:Lm} {H H':Hp} {G G':Gh} {s s':Shared}
theorem At.step (a:At w B os A d env ls m H G s) (e:Ext G G') (S:Sat w B os G' s') (k:LKeep G s.heap s'.heap) (l:Le H' G'):At w B os A d env ls m H' G' s' :=
  ⟨S,a.cx.ext e,a.loc.step e k,l⟩
end
def EW (w:World) (B:Heap) (os:OsState) (A:Around) (d:Nat) (env:Env) (ls:List Str) (t:Sem Value) (K:KV) (X:KX) (m:Lm) (H:Hp):Prop :=
  ∀ G s,At w B os A d env ls m H G s->WG w B os A t VR K X G s
theorem look_at {w:World} {B:Heap} {os:OsState} {H:Hp} {G:Gh} {s:Shared} (S:Sat w B os G s) (l:Le H G) {v:V} {x:Value} (r:VR G v x) {c:V} (h:look H v=some c)
    (hc:match c with | .lst _=>True | .tup _=>True | .dct _=>True | .obj _ _=>True | _=>False):∃ a,x = .ref a/\OR w G s.heap a c/\B.get? a=none:=by
  cases v with
  | ref a=>exact ⟨a,r,(S.cells a _ (l a c h)).2,(S.cells a _ (l a c h)).1⟩
  | lst _ | tup _ | dct _ | obj _ _=>cases h;obtain ⟨a,e,q⟩:=r;exact ⟨a,e,(S.cells a _ q).2,(S.cells a _ q).1⟩
  | _=>cases h;exact hc.elim
section
variable {w:World} {B:Heap} {os:OsState} {A:Around} {G:Gh} {s:Shared} {H:Hp} {X:KX} {K:KV} {a b:V} {x y:Value}
theorem An {n:Nat} (h:n<=1000000):n<=sizeLine:=Nat.le_trans h (by rw [sizeLine_eq];decide)
theorem lim63 {n:Nat} (h:n<=1000000):(n:Int)<2 ^ 63:=Int.ofNat_lt.mpr (Nat.lt_of_le_of_lt h (by decide))
inductive LstAt (B:Heap) (G:Gh) (h:Heap) (xs:List V) (x:Value):Prop
  | mk (p:Addr) (items:List Value) (n:Nat) (e:x = .ref p) (h1:IsL h p items.toArray n) (h2:VRs G xs items) (h3:B.get? p=none)
inductive TupAt (G:Gh) (h:Heap) (xs:List V) (x:Value):Prop
  | mk (p:Addr) (items:List Value) (n:Nat) (e:x = .ref p) (h1:h.get? p=some {cls:=.type "tuple",data:=.seq items.toArray n}) (h2:VRs G xs items)
theorem Am (S:Sat w B os G s) (l:Le H G) (r:VR G a x) {xs:List V} (h:look H a=some (.lst xs)):LstAt B G s.heap xs x:=by obtain ⟨p,e,⟨items,n,q1,q2⟩,z⟩:=look_at S l r h trivial;exact ⟨p,items,n,e,q1,q2,z⟩
theorem CI (S:Sat w B os G s) (l:Le H G) (r:VR G a x) {xs:List V} (h:look H a=some (.tup xs)):TupAt G s.heap xs x:=by obtain ⟨p,e,⟨items,n,q1,q2⟩,z⟩:=look_at S l r h trivial;exact ⟨p,items,n,e,q1,q2⟩
theorem VRs.cast {vs:List V} {xs ys:List Value} (h:VRs G vs xs) (e:xs=ys):VRs G vs ys:=e▸h
theorem VRs.size {vs:List V} {xs:List Value} (h:VRs G vs xs):xs.toArray.size=vs.length:=by rw [List.size_toArray,h.length]
theorem VRs.repl {v:V} {x:Value} (h:VR G v x):∀ n,VRs G (List.replicate n v) (List.replicate n x)
  | 0=>.nil
  | n+1=>.cons h (VRs.repl h n)
theorem foldl_app (xs:List (Array Value)):∀ z:Array Value,(xs.foldl (fun x1 x2=>x1++x2) z).toList=z.toList++(xs.map Array.toList).flatten:=by
  induction xs with
  | nil=>intro z;simp
  | cons a t ih=>intro z;simp [ih]
theorem Bm {f:Int->Int->Prop} (k:Dg f a b):∃ x y,a = .int x/\b = .int y/\f x y:=by obtain ⟨x,rfl,kz⟩:=Ba k;obtain ⟨y,rfl,kzz⟩:=Ba kz;exact ⟨x,y,rfl,rfl,kzz⟩
theorem DF {f:Int->Int->Prop} {op:Operator} (ra:VR G a x) (rb:VR G b y) (k:Dg f a b) (h:∀ i j t u,f i j->WG w B os A (binaryOp op (.int i t) (.int j u)) VR K X G s):WG w B os A (binaryOp op x y) VR K X G s:=by obtain ⟨i,j,rfl,rfl,kz⟩:=Bm k;obtain ⟨t,rfl⟩:=ra;obtain ⟨u,rfl⟩:=rb;exact h _ _ _ _ kz
theorem addL_ok (S:Sat w B os G s) (l:Le H G) (ra:VR G a x) (rb:VR G b y) (k:addL a b K H):WG w B os A (binaryOp .Add x y) VR K X G s:=by
  obtain ⟨c,hx,k⟩:=AK k;obtain ⟨e,hy,k⟩:=AK k;obtain ⟨xs,rfl,kz⟩:=BZ k;obtain ⟨ys,rfl,kzz⟩:=BZ kz;obtain ⟨p,items,n,rfl,h1,h2,_⟩:=Am S l ra hx;obtain ⟨p',items',n',rfl,h1',h2',_⟩:=Am S l rb hy;refine P.add_list h1 h1' (PG.new (c:=.lst _) S l ?_ (fun G' e=>⟨items++items',0,?_,(h2.append h2').ext e⟩) kzz.2) ?_
  . rfl
  . rw [Heap.get?_push_size _ rfl];simp
  rw [h2.size,h2'.size];exact An kzz.1
theorem addT_ok {u v:List V} (S:Sat w B os G s) (l:Le H G) (ra:VR G (.tup u) x) (rb:VR G (.tup v) y) (k:addV (.tup u) (.tup v) K H):WG w B os A (binaryOp .Add x y) VR K X G s:=by
  obtain ⟨p,rfl,q⟩:=ra;obtain ⟨p',rfl,q'⟩:=rb;obtain ⟨items,n,h1,h2⟩:=(S.cells p _ q).2;obtain ⟨items',n',h1',h2'⟩:=(S.cells p' _ q').2;obtain ⟨k1,k2,k3,k4⟩:=k;refine P.add_tuple h1 h1' ?_ ?_ (PG.newFz (c:=.tup _) S l ?_ (fun G' e=>⟨items++items',0,?_,(h2.append h2').ext e⟩) k4) ?_
  . have:=h2.length;simp only [Array.isEmpty_iff_size_eq_zero,List.size_toArray];intro z;exact k2 (List.eq_nil_of_length_eq_zero (this.trans z))
  . have:=h2'.length;simp only [Array.isEmpty_iff_size_eq_zero,List.size_toArray];intro z;exact k3 (List.eq_nil_of_length_eq_zero (this.trans z))
  . rfl
  . rw [Heap.get?_push_size _ rfl];simp
  . rw [h2.size,h2'.size];exact An k1
theorem add_ok (S:Sat w B os G s) (l:Le H G) (ra:VR G a x) (rb:VR G b y) (k:addV a b K H):WG w B os A (binaryOp .Add x y) VR K X G s:=by
  cases a<;>first | exact addL_ok S l ra rb k | skip
  . exact DF (f:=fun x y=>K (.int (x+y)) H) ra rb k fun i j t u k=>add_int (WG.now S l ⟨_,rfl⟩ k)
  . obtain ⟨b,rfl,kz⟩:=CU k;obtain ⟨t,rfl⟩:=ra;obtain ⟨u,rfl⟩:=rb;exact add_str (fun t' tk=>WG.now S l ⟨_,rfl⟩ kz.2) (An kz.1)
  . have k':=k;obtain ⟨b,rfl,_⟩:=aT_inv k';exact addT_ok S l ra rb k
theorem repL_ok {i:Int} (S:Sat w B os G s) (l:Le H G) (ra:VR G a x) (rb:VR G (.int i) y) (k:repL (look H a) i K H):WG w B os A (binaryOp .Mult x y) VR K X G s:=by
  obtain ⟨c,hx,k⟩:=AK k;obtain ⟨xs,rfl,kz⟩:=BZ k
  match xs,kz with
  | [v],kz =>
    obtain ⟨p,items,n,rfl,h1,h2,-⟩:=Am S l ra hx;obtain ⟨u,rfl⟩:=rb;cases h2 with | cons hv ht=>cases ht with | nil =>
    rename_i x;obtain ⟨k0,k1,k2⟩:=kz;refine wpAny_binaryOp_repeat_ref (T := "list") (U := "int") (by decide) ⟨_,h1,rfl⟩ (fun s'=>typeIs_int s' i u) noFill_list_mul F.fills_int_mul F.slot_int_rmul repeat_list F.slot_int_index.lookup
      (call_meets F.slot_int_rmul (typeIs_int s i u) F.entry_int_rmul (F.args_int_rmul_2 _ _) (int___rmul___int_list i u p [x].toArray n)
        ⟨h1,rfl,⟨_,h1,rfl⟩,call_meets F.slot_list_mul ⟨_,h1,rfl⟩ F.entry_list_mul (F.args_list_mul_2 _ _)
          (AutoListH.list___mul___list_int_3 p [x].toArray n i u (by simp [Builtin.List.listFitsIndex];omega) (by simp;omega) (by simp [Builtin.List.listTooLong,sizeLine];omega))
          ⟨h1,PG.new (c:=.lst _) S l ?_ (fun G' e=>⟨List.replicate i.toNat x,0,?_,(VRs.repl hv _).ext e⟩) k2⟩⟩)
    . rfl
    refine wl (Heap.get?_push_size _ rfl ..) ?_;have:(List.foldl (fun x1 x2=>x1++x2) (#[]:Array Value) (List.replicate (if [x].toArray.isEmpty=true then 0 else i.toNat) [x].toArray))=(List.replicate i.toNat x).toArray:=by apply Array.ext';refine wl (foldl_app ..) ?_;simp
    exact wl (this ..) rfl
theorem mulB_ok (S:Sat w B os G s) (l:Le H G) (ra:VR G a x) (rb:VR G b y) (k:mulB (look H a) b K H):WG w B os A (binaryOp .Mult x y) VR K X G s:=by obtain ⟨i,rfl,kz⟩:=Ba k;exact repL_ok S l ra rb kz
theorem mul_ok (S:Sat w B os G s) (l:Le H G) (ra:VR G a x) (rb:VR G b y) (k:mulV a b K H):WG w B os A (binaryOp .Mult x y) VR K X G s:=by cases a<;>first | exact mulB_ok S l ra rb k | exact DF (f:=fun x y=>IntMulOk x y/\K (.int (x * y)) H) ra rb k fun i j t u k=>mul_int (WG.now S l ⟨_,rfl⟩ k.2) k.1
theorem bin_ok {op:Operator} (hu:A.units<=9700) (S:Sat w B os G s) (l:Le H G) (ra:VR G a x) (rb:VR G b y) (k:DC op a b K H) :
    WG w B os A (binaryOp op x y) VR K X G s:=by
  cases op<;>first | exact k.elim | exact add_ok S l ra rb k | exact mul_ok S l ra rb k | skip
  . exact DF ra rb k fun i j t u k=>sub_int (WG.now S l ⟨_,rfl⟩ k)
  . exact DF ra rb k fun i j t u k=>mod_int k.1 (WG.now S l ⟨_,rfl⟩ k.2)
  . exact DF ra rb k fun i j t u k=>floordiv_int k.1.1 (WG.now S l ⟨_,rfl⟩ k.2) (.inl k.1.2)
end
end Mine
namespace Mine
open PySem PySem.W PySem.Calls PyProof.Rows PySem.MeetsSeq PySem.SeqAt PySem.EqNone
section
variable {w:World} {B:Heap} {os:OsState} {A:Around} {G:Gh} {s:Shared} {H:Hp} {X:KX} {a b:V} {x y:Value}
def Rd (G:Gh) (s:Shared) (v:V):Prop:=∀ x d,toD v=some d->VR G v x->∃ as,Reads s.heap x d as
theorem rd_all {vs:List V} (ih:∀ v∈vs,Rd G s v) {xs:List Value} {ds:List PyData} (e:Dh vs=some ds) (r:VRs G vs xs):∃ as,ReadsAll s.heap xs ds as:=by
  induction vs generalizing xs ds with
  | nil=>cases r;cases e;exact ⟨_,.nil⟩
  | cons v vs IH =>
    cases r with
    | cons h t=>obtain ⟨d,h1,e⟩:=Option.bind_eq_some_iff.mp e;obtain ⟨ds,h2,e⟩:=Option.map_eq_some_iff.mp e;obtain ⟨as,z⟩:=ih _ (.head _) _ _ h1 h;obtain ⟨bs,z'⟩:=IH (fun v m=>ih v (.tail _ m)) h2 t;rw [<- e];exact ⟨_,.cons z z'⟩
theorem rd_no {v:V} (h:toD v=none):Rd G s v:=fun x d e Y=>Option.noConfusion rfl (heq_of_eq (h.symm.trans e))
theorem rd_any (S:Sat w B os G s) (v:V):Rd G s v:=by
  refine V.rec (motive_1:=Rd G s) (motive_2:=fun vs=>∀ v∈vs,Rd G s v) (motive_3:=fun Y=>True) (motive_4:=fun Y=>True) (motive_5:=fun Y=>True) (motive_6:=fun Y=>True)
    (rd_no rfl) (fun x d e r=>?_) (fun Y=>rd_no rfl) (fun i x d e r=>?_) (fun i x d e r=>?_) (fun Y=>rd_no rfl) (fun Y=>rd_no rfl) (fun Y=>rd_no rfl) (fun xs ih x d e r=>?_) (fun xs ih x d e r=>?_) (fun Y Y=>rd_no rfl) (fun Y Y Y=>rd_no rfl) (fun Y m=>nomatch m) (fun v vs h ih u m=>?_)
    trivial (fun Y Y Y Y=>trivial) trivial (fun Y Y Y Y=>trivial) (fun Y Y Y=>trivial) (fun Y Y Y=>trivial) v
  . cases e;cases (show _=_ from r);exact ⟨_,.none⟩
  . cases e;obtain ⟨t,rfl⟩:=r;exact ⟨_,.int i t⟩
  . cases e;obtain ⟨t,rfl⟩:=r;exact ⟨_,.str i t⟩
  . obtain ⟨ds,e',rfl⟩:=Option.map_eq_some_iff.mp e;obtain ⟨p,rfl,q⟩:=r;obtain ⟨items,n,h1,h2⟩:=(S.cells p _ q).2;obtain ⟨as,z⟩:=rd_all ih e' h2;exact ⟨_,.tuple h1 rfl rfl (by simpa using z)⟩
  . obtain ⟨ds,e',rfl⟩:=Option.map_eq_some_iff.mp e;obtain ⟨p,rfl,q⟩:=r;obtain ⟨items,n,h1,h2⟩:=(S.cells p _ q).2;obtain ⟨as,z⟩:=rd_all ih e' h2;exact ⟨_,.list h1 rfl rfl (by simpa using z)⟩
  . cases m with
    | head=>exact h
    | tail _ m=>exact ih u m
theorem reads_toD (S:Sat w B os G s) {v:V} {x:Value} {d:PyData} (e:toD v=some d) (r:VR G v x):∃ as,Reads s.heap x d as:=rd_any S v _ _ e r
theorem reads_toDs (S:Sat w B os G s) {vs:List V} {xs:List Value} {ds:List PyData} (e:Dh vs=some ds) (r:VRs G vs xs):∃ as,ReadsAll s.heap xs ds as:=rd_all (fun v Y=>rd_any S v) e r
theorem ite_some {α:Type} {p:Prop} [Decidable p] {o:Option α} {x:α} (e:(if p then o else none)=some x):p/\o=some x:=by
  by_cases h:p
  . rw [if_pos h] at e;exact ⟨h,e⟩
  . rw [if_neg h] at e;cases e
theorem reads_lst (S:Sat w B os G s) (l:Le H G) (r:VR G a x) {xs:List V} (h:look H a=some (.lst xs)) {d:PyData} (e:toD (.lst xs)=some d):∃ as,Reads s.heap x d as:=by obtain ⟨p,items,n,rfl,h1,h2,-⟩:=Am S l r h;obtain ⟨ds,e',rfl⟩:=Option.map_eq_some_iff.mp e;obtain ⟨as,z⟩:=reads_toDs S e' h2;exact ⟨_,.list h1 rfl rfl (by simpa using z)⟩
theorem VR.look_val {v c:V} (r:VR G v x) (h:look H v=some c):v=c\/∃ p,v = .ref p/\H p=some c:=by cases v<;>first | exact .inr ⟨_,rfl,h⟩ | (cases h;exact .inl rfl)
inductive EqC:V->V->Bool->Prop
  | ss (x y:Str):EqC (.str x) (.str y) (decide (x=y))
  | ii (x y:Int):EqC (.int x) (.int y) (decide (x=y))
  | ns (y:Str):EqC .none (.str y) false
  | sn (x:Str):EqC (.str x) .none false
  | nn:EqC .none .none true
  | ni (y:Int):EqC .none (.int y) false
  | inn (x:Int):EqC (.int x) .none false
theorem eqV_inv {t:Bool} (e:eqV a b=some t):EqC a b t:=by cases a<;>first | exact Option.noConfusion rfl (heq_of_eq e) | (cases b<;>first | exact Option.noConfusion rfl (heq_of_eq e) | (cases e;constructor))
theorem beq_dec {α:Type} [BEq α] [LawfulBEq α] [DecidableEq α] (p q:α):(p == q)=decide (p=q):=by by_cases h:p=q<;>simp [h]
theorem bne_dec {α:Type} [BEq α] [LawfulBEq α] [DecidableEq α] (p q:α):(p != q) = !decide (p=q):=by rw [bne,beq_dec]
theorem eqV_ok {t:Bool} (e:EqC a b t) (ra:VR G a x) (rb:VR G b y) {E:Value->Shared->Prop} {Q:Value->Shared->Prop} :
    (Q (.bool t) s->wpAny (Mo w) A (compareOp .Eq x y) Q E s)/\(Q (.bool !t) s->wpAny (Mo w) A (compareOp .NotEq x y) Q E s):=by
  cases e with
  | ss p q=>obtain ⟨t,rfl⟩:=ra;obtain ⟨u,rfl⟩:=rb;exact ⟨fun k=>eq_str (beq_dec p q▸k),fun k=>ne_str (bne_dec p q▸k)⟩
  | ii p q=>obtain ⟨t,rfl⟩:=ra;obtain ⟨u,rfl⟩:=rb;exact ⟨fun k=>eq_int (beq_dec p q▸k),fun k=>ne_int (bne_dec p q▸k)⟩
  | ns=>cases (show _=_ from ra);obtain ⟨u,rfl⟩:=rb;exact ⟨eq_none_str,ne_none_str⟩
  | sn=>cases (show _=_ from rb);obtain ⟨u,rfl⟩:=ra;exact ⟨eq_str_none,ne_str_none⟩
  | nn=>cases (show _=_ from ra);cases (show _=_ from rb);exact ⟨eq_none_none,ne_none_none⟩
  | ni=>cases (show _=_ from ra);obtain ⟨u,rfl⟩:=rb;exact ⟨eq_none_int,ne_none_int⟩
  | inn=>cases (show _=_ from rb);obtain ⟨u,rfl⟩:=ra;exact ⟨eq_int_none,ne_int_none⟩
theorem eqC_mu {t:Bool} (S:Sat w B os G s) (l:Le H G) (e:EqC a b t):(∀ p,H p≠some a)/\∀ p,H p≠some b:=by cases e<;>exact ⟨fun p h=>(S.cells p _ (l p _ h)).2,fun p h=>(S.cells p _ (l p _ h)).2⟩
theorem eqAt_ok {t:Bool} (hu:A.units<=9700) (S:Sat w B os G s) (l:Le H G) (e:Bb a b H=some t) (ra:VR G a x) (rb:VR G b y) {E:Value->Shared->Prop} {Q:Value->Shared->Prop} :
    (Q (.bool t) s->wpAny (Mo w) A (compareOp .Eq x y) Q E s)/\(Q (.bool !t) s->wpAny (Mo w) A (compareOp .NotEq x y) Q E s):=by
  obtain ⟨va,h1,e⟩:=Option.bind_eq_some_iff.mp e;obtain ⟨vb,h2,e⟩:=Option.bind_eq_some_iff.mp e;unfold eqW at e;cases q:lstOf va with
  | some xs=>replace e:=q▸e;obtain ⟨ys,q',e⟩:=Option.bind_eq_some_iff.mp e;replace h1:=lstOf_inv q▸h1;replace h2:=lstOf_inv q'▸h2;obtain ⟨d,q1,e⟩:=Option.bind_eq_some_iff.mp e;obtain ⟨d',q2,e⟩:=Option.bind_eq_some_iff.mp e;obtain ⟨q,e⟩:=ite_some e;cases e;obtain ⟨q3,q4⟩:=Bool.and_eq_true_iff.mp q;obtain ⟨as,r1⟩:=reads_lst S l ra h1 q1;obtain ⟨bs,r2⟩:=reads_lst S l rb h2 q2;have hu':A.units+64<cLine:=Nat.lt_of_le_of_lt (Nat.add_le_add_right hu 64) (by decide);exact ⟨fun k=>eq_dataH r1 r2 q3 q4 hu' k,fun k=>ne_dataH r1 r2 q3 q4 hu' k⟩
  | none =>
    replace e:=q▸e;have e:=eqV_inv e;have P:=eqC_mu S l e;rcases ra.look_val h1 with rfl | ⟨p,_,hp⟩
    . rcases rb.look_val h2 with rfl | ⟨p,_,hp⟩
      . exact eqV_ok e ra rb
      . exact absurd hp (P.2 p)
    . exact absurd hp (P.1 p)
theorem is_none {t:Bool} (e:Ai a=some t) (ra:VR G a x):plainIs x .none=true/\(x == .none)=t:=by
  cases a with
  | none=>cases e;cases (show _=_ from ra);exact ⟨rfl,rfl⟩
  | any=>cases e
  | bi=>cases e
  | bool=>cases e;cases (show _=_ from ra);exact ⟨rfl,rfl⟩
  | type=>cases e;cases (show _=_ from ra);exact ⟨rfl,rfl⟩
  | ref=>cases e;cases (show _=_ from ra);exact ⟨rfl,rfl⟩
  | int | str=>cases e;obtain ⟨_,rfl⟩:=ra;exact ⟨rfl,rfl⟩
  | lst | tup | dct | obj=>cases e;obtain ⟨_,rfl,_⟩:=ra;exact ⟨rfl,rfl⟩
noncomputable def eqTo (k:Str):Value->Bool
  | .str z _=>z == k
  | _=>false
theorem strs_ok {k:Str} {t:Tok}:∀ {xs:List V} {items:List Value} {ls:List Str},BI xs=some ls->VRs G xs items->(∀ y∈items,EqAt A s y (.str k t) (eqTo k y))/\items.any (eqTo k)=ls.contains k:=by
  intro l
  induction l with
  | nil=>intro _ _ e r;cases r;cases e;exact ⟨(fun Y h=>nomatch h),rfl⟩
  | cons v xs IH =>
    intro _ _ e r;obtain ⟨z,hz,e⟩:=Option.bind_eq_some_iff.mp e;obtain ⟨ls',e',rfl⟩:=Option.map_eq_some_iff.mp e;cases r with
    | cons h r =>
      replace h:=Bo hz▸h;obtain ⟨u,rfl⟩:=h;obtain ⟨q1,q2⟩:=IH e' r;refine ⟨fun y hy=>?_,?_⟩
      . rcases List.mem_cons.mp hy with rfl | hy
        . exact EqAt.str_str z u k t
        . exact q1 y hy
      . refine wl (List.any_cons ..) ?_;refine wl (q2 ..) ?_;refine wl (List.contains_cons ..) ?_;refine wl (show eqTo k (.str z u)=(z == k) from rfl ..) ?_;exact wl (Bool.beq_comm (a:=z) ..) rfl
inductive DctAt (w:World) (B:Heap) (G:Gh) (h:Heap) (es:List (Str×V)) (x:Value):Prop
  | mk (p:Addr) (kvs:List (Str×Value)) (e:x = .ref p) (h0:(p == sysModules)=false) (h1:h.DictOf (SK w) p kvs) (h2:VKs G es kvs) (h3:B.get? p=none)
theorem Dt (S:Sat w B os G s) (l:Le H G) (r:VR G a x) {es:List (Str×V)} (h:look H a=some (.dct es)):DctAt w B G s.heap es x:=by obtain ⟨p,e,⟨q0,kvs,q1,q2⟩,z⟩:=look_at S l r h trivial;exact ⟨p,kvs,e,q0,q1,q2,z⟩
end
section
variable {w:World} {B:Heap} {os:OsState} {A:Around} {G:Gh} {s:Shared} {H:Hp} {X:KX} {a b:V} {x y:Value} {K:KV}
theorem As (k:Str) (t:Tok):(SK w).is k (.str k t)=true:=by show Value.isStrOf k (.str k t)=true;simp [Value.isStrOf]
set_option tactic.hygienic true in
theorem in_ok {t:Bool} (S:Sat w B os G s) (l:Le H G) (e:Dn b a H=some t) (ra:VR G a x) (rb:VR G b y) {E:Value->Shared->Prop} {Q:Value->Shared->Prop} :
    ((∀ tk,Q (.bool t) {s with toks:=tk})->wpAny (Mo w) A (compareOp .In x y) Q E s)/\((∀ tk,Q (.bool !t) {s with toks:=tk})->wpAny (Mo w) A (compareOp .NotIn x y) Q E s):=by
  have hn:∀ {Q:Value->Shared->Prop} {b:Value},(∀ tk,Q b {s with toks:=tk})->Q b s:=fun k=>k s.toks;obtain ⟨k,hk,e⟩:=Option.bind_eq_some_iff.mp e;obtain ⟨c,hx,e⟩:=Option.bind_eq_some_iff.mp e;rw [Bo hk] at ra;obtain ⟨u,rfl⟩:=ra;have seq:∀ {xs:List V} {items:List Value},(BI xs).map (fun l=>l.contains k)=some t->VRs G xs items->(∀ y,y∈items.toArray->EqAt A.in1 s y (.str k u) (eqTo k y))/\items.toArray.any (eqTo k)=t:=fun e h2=>by obtain ⟨ls,e',rfl⟩:=Option.map_eq_some_iff.mp e;obtain ⟨q1,q2⟩:=strs_ok (A:=A.in1) (s:=s) (k:=k) (t:=u) e' h2;exact ⟨fun y hy=>q1 y (List.mem_toArray.mp hy),by rw [<- q2];simp⟩
  cases c<;>first | exact Option.noConfusion rfl (heq_of_eq e) | skip
  . obtain ⟨p,items,n,rfl,h1,h2⟩:=CI S l rb hx;obtain ⟨hy,q3⟩:=seq e h2;have h1':s.heap.IsTuple p items.toArray:=⟨_,h1,rfl,n,rfl⟩
    exact ⟨fun z=>in_tupleAt _ h1' hy (by rw [q3];exact z _),fun z=>notIn_tupleAt _ h1' hy (by rw [q3];exact z _)⟩
  . obtain ⟨p,items,n,rfl,h1,h2,-⟩:=Am S l rb hx;obtain ⟨hy,q3⟩:=seq e h2;exact ⟨fun z=>in_listAt _ h1.isList hy (by rw [q3];exact z _),fun z=>notIn_listAt _ h1.isList hy (by rw [q3];exact z _)⟩
  . rename_i es;obtain ⟨p,kvs,rfl,h0,h1,h2,-⟩:=Dt S l rb hx;cases e;have q:(valueAt kvs k).isSome=(at? es k).isSome:=by rcases h2.at k with ⟨e1,e2⟩ | ⟨v,x,e1,e2,_⟩<;>rw [e1,e2]<;>rfl
    exact ⟨fun z=>wpAny_in_of (knd:=SK w) (As k u) h0 h1.mapOf (by rw [q];exact z _),fun z=>wpAny_notIn_of (knd:=SK w) (As k u) h0 h1.mapOf (by rw [q];exact z _)⟩
theorem cmp_ok {op:CmpOp} {K:Bool->Hp->Prop} (hu:A.units<=9700) (S:Sat w B os G s) (l:Le H G) (ra:VR G a x) (rb:VR G b y) (k:CG op a b K H) :
    WG w B os A (compareOp op x y) VR (asB K) X G s:=by
  have out:∀ t,K t H->∀ tk,PG w B os VR G s.heap (asB K) (.bool t) {s with toks:=tk}:=fun t k tk=>WG.now (b:=.bool t) S l rfl k;have out':∀ t,K t H->PG w B os VR G s.heap (asB K) (.bool t) s:=fun t k=>WG.now (b:=.bool t) S l rfl k;cases op with
  | Is=>obtain ⟨rfl,kz⟩:=aN_inv k;obtain ⟨t,e,kz⟩:=AK kz;cases (show y = .none from rb);obtain ⟨h1,h2⟩:=is_none e ra;exact wpAny_is_plain h1 (h2.symm▸out' t kz)
  | IsNot=>obtain ⟨rfl,kz⟩:=aN_inv k;obtain ⟨t,e,kz⟩:=AK kz;cases (show y = .none from rb);obtain ⟨h1,h2⟩:=is_none e ra;exact wpAny_isNot_plain h1 (h2.symm▸out' _ kz)
  | Eq=>obtain ⟨t,e,k⟩:=AK k;exact (eqAt_ok hu S l e ra rb).1 (out' t k)
  | NotEq=>obtain ⟨t,e,k⟩:=AK k;exact (eqAt_ok hu S l e ra rb).2 (out' _ k)
  | In=>obtain ⟨t,e,k⟩:=AK k;exact (in_ok S l e ra rb).1 (out t k)
  | NotIn=>obtain ⟨t,e,k⟩:=AK k;exact (in_ok S l e ra rb).2 (out _ k)
  | Lt=>obtain ⟨i,j,rfl,rfl,k⟩:=Bm k;obtain ⟨t,rfl⟩:=ra;obtain ⟨u,rfl⟩:=rb;exact lt_int (out' _ k)
  | LtE=>obtain ⟨i,j,rfl,rfl,k⟩:=Bm k;obtain ⟨t,rfl⟩:=ra;obtain ⟨u,rfl⟩:=rb;exact le_int (out' _ k)
  | Gt=>obtain ⟨i,j,rfl,rfl,k⟩:=Bm k;obtain ⟨t,rfl⟩:=ra;obtain ⟨u,rfl⟩:=rb;exact gt_int (out' _ k)
  | GtE=>obtain ⟨i,j,rfl,rfl,k⟩:=Bm k;obtain ⟨t,rfl⟩:=ra;obtain ⟨u,rfl⟩:=rb;exact ge_int (out' _ k)
theorem VRs.at {xs:List V} {items:List Value} (h:VRs G xs items) {i:Nat} {v:V} (e:xs[i]?=some v):∃ x,items.toArray[i]?=some x/\VR G v x:=by obtain ⟨x,h1,h2⟩:=h.get e;exact ⟨x,by simpa using h1,h2⟩
theorem sub_ok (S:Sat w B os G s) (l:Le H G) (ra:VR G a x) (rb:VR G b y) (k:subV a b K H) {E:Value->Shared->Prop} {Q:Value->Shared->Prop} (q:∀ v tk,PG w B os VR G s.heap K v {s with toks:=tk}->Q v {s with toks:=tk}) :
    SubscriptOn (Mo w) A x y Q E s:=by
  have out:∀ v x tk,VR G v x->K v H->Q x {s with toks:=tk}:=fun v x tk r k=>q x tk (WG.now (b:=v) S l r k);obtain ⟨c,hx,k⟩:=AK k;cases c<;>first | exact False.elim k | skip
  . obtain ⟨p,items,n,rfl,h1,h2⟩:=CI S l ra hx;obtain ⟨i,rfl,⟨k0,k1⟩,kz⟩:=Ba k;obtain ⟨v,hv,k2⟩:=AK kz;obtain ⟨u,rfl⟩:=rb;obtain ⟨z,q1,q2⟩:=h2.at hv;have hlt:i.toNat<items.toArray.size:=(Array.getElem?_eq_some_iff.mp q1).1;refine ⟨"tuple",_,F.slot_tuple_getitem.lookup,⟨_,h1,rfl⟩,P.getItem_tuple h1 (Int.le_trans (by decide) k0) k1 (k:=i.toNat) ?_ q1 (out v z _ q2 k2)⟩;unfold seqIndex?;have hk:(0:Int)<=i/\i<(items.toArray.size:Nat):=⟨k0,(Int.toNat_lt k0).mp hlt⟩
    rw [if_neg (Int.not_lt.mpr k0),if_pos (by rw [Bool.and_eq_true,decide_eq_true_eq,decide_eq_true_eq];exact hk)]
  . obtain ⟨p,items,n,rfl,h1,h2,-⟩:=Am S l ra hx;obtain ⟨i,rfl,⟨k0,k1⟩,kz⟩:=Ba k;obtain ⟨v,hv,k2⟩:=AK kz;obtain ⟨u,rfl⟩:=rb;obtain ⟨z,q1,q2⟩:=h2.at hv;exact ⟨"list",_,list_getitem_lookup,⟨_,h1,rfl⟩,wpAny_getItem_list h1.isList k0 k1 q1 (out v z _ q2 k2)⟩
  . obtain ⟨p,kvs,rfl,h0,h1,h2,-⟩:=Dt S l ra hx;obtain ⟨k',rfl,kz⟩:=CU k;obtain ⟨v,hv,kz⟩:=AK kz;obtain ⟨u,rfl⟩:=rb;rcases h2.at k' with ⟨e1,e2⟩ | ⟨v',z,e1,e2,r⟩
    . rw [e1] at hv;cases hv
    . rw [hv] at e1;cases e1;exact ⟨"dict",_,slot_dict_getitem.lookup,h1.typeIs,wpAny_getItem_of (knd:=SK w) (As k' u) h1.mapOf e2 (out v z _ r kz)⟩
end
end Mine
namespace Mine
open PySem PySem.W PySem.Calls PyProof.Rows
noncomputable def kfA:List Addr:=[0,2,3,27,28,32,33,39,40,51,52,65,66,72,73,79,80,86,87,96,97,113,114,116,117,208,209,215,216,222,223,229,230,236,237,243,244,248,249,251,252,276,280,281,282,286,287,300,301,303,304,314,315,321,322,328,329,342,343,349,350,363,364,370,371,377,378,384,385,391,392,398,399,405,406,408,409,419,420,426,427,433,434,440,441,470,476,477,486,487,569,570,572,573,585,591,592,594,595,682,683,689,690,717,718,724,725,785,786,842,843,874,875,877,878,888,889,895,896,1041,1042,1048,1049,1055,1056,1060,1061,1067,1068,1074,1075,1081,1082,1088,1089,1102,1103,1109,1110,1116,1117,1123,1124,1130,1131,1135,1136,1140,1141,1246,1252,1253,1259,1260,1443,1444,1461,1462,1468,1469,1475,1476,1482,1483,1489,1490,1494,1495,1501,1502,1506,1507,1511,1512,1518,1519]
noncomputable def KF (p:Params):Frag:=kfA.map fun a=>(a,A p a)
theorem KF_in (p:Params):(KF p).In (H1 p):=Frag.in_of (as:=kfA) (by kernel_rfl) (by kernel_rfl)
theorem KF_tab (p:Params):((KF p).all fun q => !Ap q.1)=true:=by kernel_rfl
theorem lookup_all {α:Type} {a:Addr} {x:α} {f:Addr->Bool}:∀ {l:List (Addr×α)},l.lookup a=some x->(l.all fun q=>f q.1)=true->f a=true:=by
  intro l
  induction l with
  | nil=>intro h _;cases h
  | cons Q r IH =>
    obtain ⟨y,z⟩:=Q;intro h q;rw [List.lookup_cons] at h;rw [List.all_cons,Bool.and_eq_true] at q;split at h
    . rename_i e;rw [beq_iff_eq.mp e];exact q.1
    . exact IH h q.2
theorem Sat.kf {w:World} {B:Heap} {os:OsState} {G:Gh} {s:Shared} (S:Sat w B os G s):(KF w.params).In s.heap:=fun a o e =>
  S.base a o (S.top a o (by have:=lookup_all (f:=fun b => !Ap b) e (KF_tab w.params);simpa using this) (KF_in w.params a o e))
end Mine
namespace Mine
open PySem PySem.W PySem.Calls PyProof.Rows PySem.MeetsSeq PySem.SeqAt PySem.EqNone
noncomputable def isNN:Option (Option Value)->Bool
  | some none=>true
  | _=>false
noncomputable def isBi (n:String):Option (Option Value)->Bool
  | some (some (.builtin i))=>i == n
  | _=>false
noncomputable def clsP:List Addr:=[252,304,409,487,573,595,843,878,1444]
noncomputable def okCls (p:Params) (C:Addr):Bool :=
  (match clsIn (KF p) C with | some cd=>cd.hasDict && !cd.mro.isEmpty | none=>false) &&
  ((List.range flds.length).all fun k=>isNN (findIn (KF p) (.ref C) (fld k))) &&
  isBi "object.__getattribute__" (findIn (KF p) (.ref C) "__getattribute__") &&
  isBi "object.__setattr__" (findIn (KF p) (.ref C) "__setattr__") && plainOver (KF p) C && isNN (findIn (KF p) (.ref C) "__getattr__") && makesIn (KF p) C
theorem okCls_all (p:Params):(clsP.all fun C=>okCls p C)=true:=by kernel_rfl
theorem isNN_eq {o:Option (Option Value)} (h:isNN o=true):o=some none:=by unfold isNN at h;split at h<;>first | rfl | cases h
theorem isBi_eq {n:String} {o:Option (Option Value)} (h:isBi n o=true):o=some (some (.builtin n)):=by unfold isBi at h;split at h<;>first | (rw [beq_iff_eq.mp h]) | cases h
structure Cls (p:Params) (C:Addr):Prop where
  cd:∃ cd,clsIn (KF p) C=some cd/\cd.hasDict=true/\cd.mro.isEmpty=false
  miss:∀ k,k<flds.length->findIn (KF p) (.ref C) (fld k)=some none
  ga:findIn (KF p) (.ref C) "__getattribute__" = some (some (.builtin "object.__getattribute__"))
  sa:findIn (KF p) (.ref C) "__setattr__" = some (some (.builtin "object.__setattr__"))
  over:plainOver (KF p) C=true
  gattr:findIn (KF p) (.ref C) "__getattr__" = some none
  makes:makesIn (KF p) C=true
set_option tactic.hygienic true in
theorem cls_of {p:Params} {C:Addr} (h:C∈clsP):Cls p C:=by
  have:=List.all_eq_true.mp (okCls_all p) C h;unfold okCls at this;simp only [Bool.and_eq_true] at this;obtain ⟨⟨⟨⟨⟨⟨h1,h2⟩,h3⟩,h4⟩,h5⟩,h6⟩,h7⟩:=this;refine ⟨?_,fun k hk=>isNN_eq (List.all_eq_true.mp h2 k (List.mem_range.mpr hk)),isBi_eq h3,isBi_eq h4,h5,isNN_eq h6,h7⟩;split at h1
  . rename_i cd q;obtain ⟨q1,q2⟩:=Bool.and_eq_true_iff.mp h1;exact ⟨cd,q,q1,by simpa using q2⟩
  . cases h1
theorem fld_inj:∀ i,i<flds.length->∀ j,j<flds.length->fld i=fld j->i=j:=by decide +kernel
set_option tactic.hygienic true in
theorem Sn.look {h:Heap} {dx:Addr} {n:Nat} {mm:Str->Option Value} (x:Sn h dx n mm):∃ od,h.get? dx=some od/\∀ y,lookIn y od=some (mm y):=by
  obtain ⟨o,es,ep,ho,hd,hk,hz,hm⟩:=x;refine ⟨o,ho,fun y=>?_⟩;unfold lookIn;refine wl (hd ..) ?_;dsimp only;refine wr (hm y ..) ?_;unfold nsFind findBy;refine wr (Array.find?_toList ..) ?_;split
  . rename_i e he;rw [he];rfl
  . rename_i he;refine wl (he ..) ?_;rw [if_neg]
    . rfl
    . refine wl (Bool.not_eq_true ..) ?_;rw [List.any_eq_false];intro e hm';obtain ⟨n,t,q⟩:=hk e (by simpa using hm');simp [DictEntry.refKey,q]
section
variable {w:World} {B:Heap} {os:OsState} {A:Around} {G:Gh} {s:Shared} {H:Hp} {X:KX} {a b:V} {x y:Value} {K:KV}
inductive ObjAt (w:World) (B:Heap) (G:Gh) (h:Heap) (C:Addr) (es:List (Nat×V)) (x:Value):Prop
  | mk (p:Addr) (e:x = .ref p) (o:OR w G h p (.obj C es)) (n:B.get? p=none)
theorem obj_at (S:Sat w B os G s) (l:Le H G) (r:VR G a x) {C:Addr} {es:List (Nat×V)} (h:look H a=some (.obj C es)):ObjAt w B G s.heap C es x :=
  let ⟨p,e,o,n⟩:=look_at S l r h trivial;⟨p,e,o,n⟩
inductive InstV (G:Gh) (h:Heap) (p C:Addr) (es:List (Nat×V)):Prop
  | mk (ox od:Obj) (dx:Addr) (mm:Str->Option Value) (i:InstAt h p ox C (some od)) (h3:ox.dict=some dx) (h4:h.get? dx=some od) (h5:Sn h dx es.length mm) (h6:G dx=some (.hid p)) (h7:∀ y,lookIn y od=some (mm y))
    (h8:∀ k v,at? es k=some v->∃ x,mm (fld k)=some x/\VR G v x) (h9:∀ x,(∀ k v,at? es k=some v->fld k≠x)->mm x=none) (h10:C∈clsL) (h11:es.length<=900) (h12:∀ k v,at? es k=some v->k<flds.length)
theorem DR {p:Addr} {C:Addr} {es:List (Nat×V)} (h:OR w G s.heap p (.obj C es)):InstV G s.heap p C es:=by obtain ⟨dx,⟨hC,o,h1,h2,h3,h4⟩,mm,q1,q2,q3,q4,q5⟩:=h;obtain ⟨od,z1,z2⟩:=q2.look;exact ⟨o,od,dx,mm,⟨h1,h2,h4,by rw [h3];exact z1⟩,h3,z1,q2,q1,z2,q4,q5,hC,q3.1,q3.2⟩
theorem hand_ok {v:V} {x:Value} (r:VR G v x) (h:Bd v=true):handedIn x=true:=by
  cases v with
  | any | bi=>cases h
  | none | bool | ref | type=>cases (show x=_ from r);rfl
  | int | str=>obtain ⟨_,rfl⟩:=r;rfl
  | tup | lst | dct | obj=>obtain ⟨_,rfl,_⟩:=r;rfl
theorem attr_ok {n:Nat} {expr:Bool} (hC:∀ C es,look H a=some (.obj C es)->C∈clsP) (S:Sat w B os G s) (l:Le H G) (r:VR G a x) (k:CD a n K H):WG w B os A (getAttr x (fld n) expr) VR K X G s:=by
  obtain ⟨c,h,k⟩:=AK k;obtain ⟨C,es,rfl,kz⟩:=aO_inv k;obtain ⟨v,hv,kz⟩:=AK kz;obtain ⟨p,rfl,o,_⟩:=obj_at S l r h;obtain ⟨ox,od,dx,mm,I,h3,h4,h5,h6,h7,h8,h9,h10,h11,h12⟩:=DR o;have Z:=cls_of (p:=w.params) (hC C es h);obtain ⟨cd,c1,c2,c3⟩:=Z.cd;obtain ⟨z,hz,rz⟩:=h8 n v hv;refine get_value S.kf I Z.ga ?_ (hand_ok rz kz.1) (WG.now (b:=v) S l rz kz.2);unfold findObj;refine wl (c1 ..) ?_;refine wl (Z.miss n (h12 n v hv) ..) ?_;have hw:PySem.W.ownOf cd (some od) (fld n)=some (some z):=by unfold PySem.W.ownOf;rw [c2,if_pos rfl];exact (h7 _).trans (congrArg some hz)
  show (PySem.W.ownOf cd (some od) (fld n)).bind _=_;rw [hw];rfl
section
variable {κ:Type} [DecidableEq κ] {k k' a:κ} {v x:V} {es t:List (κ×V)}
theorem at_c:at? ((a,x)::t) k'=if a=k' then some x else at? t k':=by
  unfold at?;rw [List.find?_cons];by_cases e:a=k'
  . rw [if_pos e];show Option.map _ (match decide (a=k') with | true=>_ | false=>_)=_;rw [decide_eq_true e];rfl
  . rw [if_neg e];show Option.map _ (match decide (a=k') with | true=>_ | false=>_)=_;rw [decide_eq_false e]
theorem at_map:at? (es.map fun kv=>if kv.1=k then (kv.1,v) else kv) k'=if k'=k then (at? es k').map (fun Y=>v) else at? es k':=by
  induction es with
  | nil=>show none=_;split<;>rfl
  | cons b t ih =>
    obtain ⟨a,x⟩:=b;show at? ((if a=k then (a,v) else (a,x))::t.map _) k'=_;by_cases e:a=k
    . refine wl (if_pos e ..) ?_;refine wl (at_c ..) ?_;refine wl (at_c ..) ?_;refine wl (ih ..) ?_;by_cases q:a=k'
      . rw [if_pos q,if_pos q,if_pos (q.symm.trans e)];rfl
      . refine wl (if_neg q ..) ?_;exact wl (if_neg q ..) rfl
    . refine wl (if_neg e ..) ?_;refine wl (at_c ..) ?_;refine wl (at_c ..) ?_;refine wl (ih ..) ?_;by_cases q:a=k'
      . refine wl (if_pos q ..) ?_;refine wl (if_pos q ..) ?_;exact wl (if_neg fun z=>e (q.trans z) ..) rfl
      . refine wl (if_neg q ..) ?_;exact wl (if_neg q ..) rfl
theorem at_app:at? (es++[(k,v)]) k'=(at? es k').or (if k=k' then some v else none):=by
  induction es with
  | nil=>exact at_c
  | cons b t ih=>obtain ⟨a,x⟩:=b;refine wl (List.cons_append ..) ?_;refine wl (at_c ..) ?_;refine wl (at_c ..) ?_;refine wl (ih ..) ?_;split<;>rfl
theorem at_any (h:(es.any fun kv=>decide (kv.1=k))=false):at? es k=none:=by
  induction es with
  | nil=>rfl
  | cons b t ih=>obtain ⟨a,x⟩:=b;obtain ⟨h1,h2⟩:=Bool.or_eq_false_iff.mp h;rw [at_c,if_neg (of_decide_eq_false h1)];exact ih h2
theorem at_some (h:(es.any fun kv=>decide (kv.1=k))=true):∃ x,at? es k=some x:=by
  induction es with
  | nil=>cases h
  | cons b t ih =>
    obtain ⟨a,x⟩:=b;refine wl (at_c ..) ?_;by_cases e:a=k
    . exact ⟨x,if_pos e⟩
    . exact wl (if_neg e ..) (ih ((Bool.or_eq_true_iff.mp h).resolve_left fun z=>e (of_decide_eq_true z)))
theorem Bl (es:List (κ×V)) (k k':κ) (v:V):at? (put es k v) k'=if k'=k then some v else at? es k':=by
  unfold put;by_cases h:(es.any fun kv=>decide (kv.1=k))=true
  . refine wl (if_pos h ..) ?_;refine wl (at_map ..) ?_;by_cases e:k'=k
    . obtain ⟨x,hx⟩:=at_some h;rw [if_pos e,if_pos e,e,hx];rfl
    . refine wl (if_neg e ..) ?_;exact wl (if_neg e ..) rfl
  . refine wl (if_neg h ..) ?_;refine wl (at_app ..) ?_;by_cases e:k'=k
    . rw [if_pos e,e,at_any (eq_false_of_ne_true h),if_pos rfl];rfl
    . rw [if_neg e,if_neg fun z=>e z.symm];cases at? es k'<;>rfl
end
theorem put_length {κ:Type} [DecidableEq κ] (es:List (κ×V)) (k:κ) (v:V):(put es k v).length=if (at? es k).isSome then es.length else es.length+1:=by
  have:(es.any fun kv=>decide (kv.1=k))=(at? es k).isSome:=by unfold at?;refine wl (Option.isSome_map ..) ?_;rw [Bool.eq_iff_iff,List.any_eq_true,List.find?_isSome]
  unfold Mine.put;refine wl (this ..) ?_;split<;>simp
theorem obj_wr {p C dx:Addr} {es es':List (Nat×V)} {n:Nat} {z:Value} {mm:Str->Option Value} {h h':Heap} (hn:n<flds.length) (hd:G dx=some (.hid p)) (i:InsIn h p C dx) (hs:Heap.SameBut dx h h') (ne:p≠dx) (sn:Sn h' dx es'.length (fun y=>if y=fld n then some z else mm y)) (hl:es'.length<=900)
    (h12:∀ k v,at? es k=some v->k<flds.length) (h8:∀ k v,at? es k=some v->∃ x,mm (fld k)=some x/\VR G v x) (h9:∀ x,(∀ k v,at? es k=some v->fld k≠x)->mm x=none) {v:V} (hv:at? es' n=some v) (rv:VR G v z) (ho:∀ k,k≠n->at? es' k=at? es k):OR w G h' p (.obj C es'):=by
  obtain ⟨g0,ob,g1,g2,g3,g4⟩:=i;have lt:∀ k v',at? es' k=some v'->k<flds.length:=fun k v' q=>by
    by_cases e:k=n
    . exact e▸hn
    . exact h12 k v' (ho k e▸q)
  refine ⟨dx,⟨g0,ob,(hs.2 p ne).trans g1,g2,g3,g4⟩,_,hd,sn,⟨hl,lt⟩,fun k v' q=>?_,fun y q=>?_⟩
  . by_cases e:k=n
    . cases e;rw [hv] at q;cases q;exact ⟨z,if_pos rfl,rv⟩
    . have q':=q;rw [ho k e] at q;obtain ⟨x,q1,q2⟩:=h8 k v' q;exact ⟨x,(if_neg fun c=>e (fld_inj k (lt k v' q') n hn c)).trans q1,q2⟩
  . refine (if_neg fun c=>q n v hv c.symm).trans (h9 y fun k v' hk=>?_);by_cases e:k=n
    . exact fun c=>q n v hv (e▸c)
    . exact q k v' ((ho k e).trans hk)
theorem set_core {n:Nat} {z:Value} (hn:n<flds.length) (S:Sat w B os G s) {C:Addr} {es:List (Nat×V)} {p:Addr} (o:OR w G s.heap p (.obj C es)) (hp:C∈clsP) {Q:Unit->Shared->Prop} {E:Value->Shared->Prop}
    (q:∀ (dx:Addr) (mm:Str->Option Value) (h':Heap),G dx=some (.hid p)->Heap.SameBut dx s.heap h'->InsIn s.heap p C dx->Sn h' dx (if (at? es n).isSome then es.length else es.length+1) (fun y=>if y=fld n then some z else mm y) ->
        (∀ k v,at? es k=some v->∃ x,mm (fld k)=some x/\VR G v x)->(∀ x,(∀ k v,at? es k=some v->fld k≠x)->mm x=none)->es.length<=900->(∀ k v,at? es k=some v->k<flds.length)->∀ tk,Q () {s with heap:=h',toks:=tk}) :
      wpAny (Mo w) A (setAttr (.ref p) (fld n) z) Q E s:=by
  obtain ⟨ox,od,dx,mm,I,h3,h4,h5,h6,h7,h8,h9,h10,h11,h12⟩:=DR o;have Z:=cls_of (p:=w.params) hp;obtain ⟨cd,c1,c2,c3⟩:=Z.cd;have ht:takerIn (KF w.params) C (fld n)=some none:=by unfold takerIn;rw [Z.miss n hn];rfl
  have X:=S.kf;have hsome:(mm (fld n)).isSome=(at? es n).isSome:=by
    cases q:at? es n with
    | some v0=>obtain ⟨x,hx,_⟩:=h8 n v0 q;rw [hx];rfl
    | none =>
      rw [h9 (fld n) fun k v hk e=>?_];· rfl
      have:=fld_inj k (h12 k v hk) n hn e;rw [this,q] at hk;cases hk
  have SN:=h5.put (fld n) (PyData.keyHash w.params (fld n)) (s.toks+1) z;replace SN:=hsome▸SN;refine set_plain X I Z.sa ?_;refine osa_open (s:={s with toks:=s.toks+1}) X I Z.over ht fun b=>?_;refine wpAny_bind (wpAny_pure (wpAny_bind (wpAny_bind (wpAny_loadPart I.at_ ?_))));refine wl (I.cls ..) ?_;refine wl (h3 ..) ?_;refine wpAny_bind ((looks_clsIn (h:=s.heap) X c1) _ _ _ _ (fun Y Y e=>e) ?_);refine wl (c2 ..) ?_;refine wpAny_pure (a:=some dx) (wpAny_bind (wpAny_pure (wpAny_bind ?_)));unfold nsSet;refine wpAny_bind (wpAny_bind (wpAny_askSetting (wpAny_pure (wpAny_bind (wpAny_mkText (wpAny_bind (wpAny_loadPart h4 ?_)))))));obtain ⟨o',es',ep',ho',hd',hk',hz',hm'⟩:=h5;cases h4.symm.trans ho';have c:(!es'.any (·.key.isStr (fld n)) && es'.any (·.refKey))=false:=by
    have:es'.any (·.refKey)=false:=by rw [Array.any_eq_false'];intro e he;obtain ⟨n,t,h⟩:=hk' e he;simp [DictEntry.refKey,h]
    refine wl (this ..) ?_;exact wl (Bool.and_false ..) rfl
  refine wl (hd' ..) ?_;dsimp only;refine wl (aRefKeyMayBeTheName_at ..) ?_;refine wl (c ..) ?_;refine wpAny_updatePart h4 ?_;have SN':=SN;obtain ⟨o2,es2,ep2,ho2,hd2,hk2,hz2,hm2⟩:=SN';refine wpAny_bind (wpAny_lookBehind ho2 (by rw [hd2];exact pastItsLine_dict (by rw [sizeLine_eq];split at hz2<;>omega)) ?_);exact wpAny_pure (q dx mm _ h6 (Heap.SameBut.update ..) ⟨h10,ox,I.at_,I.cls,h3,I.no⟩ SN h8 h9 h11 h12 _)
theorem Sat.same (S:Sat w B os G s) {s':Shared} {p dx:Addr} {v:V} (ha:G p=some (.fz v)) (hd:G dx=some (.hid p)) (hs:Heap.SameBut dx s.heap s'.heap) (hl:(s'.heap.get? dx).isSome=true) (hor:OR w G s'.heap p v) (hg:s'.gens=s.gens) (ho:s'.os=s.os):Sat w B os G s':=by
  refine ⟨S.top,fun b o hb=>?_,fun b c hb=>⟨S.alone hb,?_⟩,hg.trans S.gens,ho.trans S.os,S.tbs⟩
  . have:b≠dx:=fun q=>by have:=(S.cells _ _ hd).1;rw [<- q,hb] at this;cases this
    exact (hs.2 b this).trans (S.base b o hb)
  . by_cases q:b=p
    . rw [q,ha] at hb;cases hb;rw [q];exact hor
    . by_cases q2:b=dx
      . rw [q2,hd] at hb;cases hb;rw [q2];exact hl
      . refine (S.cells b c hb).2.keep (fun o z=>(hs.2 b q2).trans z) fun dx' o hd' z=>?_;have:dx'≠dx:=fun z=>by rw [z,hd] at hd';cases hd';exact q rfl
        exact (hs.2 dx' this).trans z
theorem Sn.live {h:Heap} {dx:Addr} {n:Nat} {mm:Str->Option Value} (x:Sn h dx n mm):(h.get? dx).isSome=true:=by obtain ⟨o,_,_,ho,_⟩:=x.ns;rw [ho];rfl
set_option tactic.hygienic true in
theorem setA_ok {n:Nat} {v:V} {z:Value} {K:Hp->Prop} (hn:n<flds.length) (hC:∀ C es,look H a=some (.obj C es)->C∈clsP) (S:Sat w B os G s) (l:Le H G) (r:VR G a x) (rz:VR G v z) (k:setA a n v K H) :
    WG w B os A (setAttr x (fld n) z) relU (fun Y=>K) X G s:=by
  cases a<;>first | exact False.elim k | skip
  . rename_i p;obtain ⟨c,h,k⟩:=AK k;obtain ⟨C,es,rfl,k0,kz⟩:=aO_inv k;cases (show x = .ref p from r);refine set_core hn S (S.cells _ _ (l _ _ h)).2 (hC C es h) fun dx mm h' hd hs hob sn' h8 h9 h11 h12 tk=>?_;have hne:p≠dx:=fun z=>by rw [<- z] at hd;rw [l p _ h] at hd;cases hd
    replace sn':=(put_length es n v).symm▸sn';refine PG.setHid (b:=()) (s':={s with heap:=h',toks:=tk}) (v':=.obj C (put es n v)) S l h hd hs sn'.live ?_ rfl rfl (fun Y Y=>trivial) kz;exact obj_wr hn hd hob hs hne sn' (by rw [put_length];split<;>omega) h12 h8 h9 (by rw [Bl,if_pos rfl]) rz fun k e=>by rw [Bl,if_neg e]
  . rename_i C es;obtain ⟨p,rfl,ha⟩:=r;refine set_core hn S (S.cells p _ ha).2 (hC C es rfl) fun dx mm h' hd hs hob sn' h8 h9 h11 h12 tk=>?_;have hne:p≠dx:=fun z=>by rw [<- z] at hd;rw [ha] at hd;cases hd
    replace sn':=k.1▸sn';have hor:OR w G h' p (.obj C es):=obj_wr hn hd hob hs hne sn' h11 h12 h8 h9 k.1 trivial fun Y Y=>rfl;exact ⟨G,(),H,.refl G,S.same (s':={s with heap:=h',toks:=tk}) ha hd hs sn'.live hor rfl rfl,.sameBut hs (by rw [hd];simp),l,trivial,k.2⟩
end
section
variable {w:World} {B:Heap} {os:OsState} {A:Around} {G:Gh} {s:Shared} {H:Hp} {X:KX} {a b:V} {x y:Value} {K:KV}
theorem vrs_set {xs:List V} {items:List Value} (h:VRs G xs items) {v:V} {x:Value} (r:VR G v x):∀ i,VRs G (xs.set i v) (items.set i x):=by
  induction h with
  | nil=>intro i;simp;exact .nil
  | cons h t ih=>intro i;cases i with
    | zero=>exact .cons r t
    | succ i=>exact .cons h (ih i)
theorem DO (S:Sat w B os G s) (l:Le H G) {p:Addr} {xs:List V} (h:H p=some (.lst xs)):SeqIn "list" G s.heap p xs:=(S.cells p _ (l p _ h)).2
theorem mut_dct (S:Sat w B os G s) (l:Le H G) {p:Addr} {es:List (Str×V)} (h:H p=some (.dct es)):DctIn w G s.heap p es:=(S.cells p _ (l p _ h)).2
theorem PG.lst {α β:Type} {rel:Gh->β->α->Prop} {K:β->Hp->Prop} {p:Addr} {xs ys:List V} {b:β} {z:α} {f:Array Value->Array Value} {items items':List Value} {n:Nat} {tk:Nat} (S:Sat w B os G s) (l:Le H G) (h:H p=some (.lst xs)) (hl:IsL s.heap p items.toArray n)
    (hf:f items.toArray=items'.toArray) (r':VRs G ys items') (r:∀ G',Ext G G'->rel G' b z) (k:K b (upd H p (.lst ys))):PG w B os rel G s.heap K z {s with heap:=s.heap.update p (Obj.mapSeq f),toks:=tk}:=by
  have u:=hl.update f;rw [hf] at u;exact PG.set (v':=.lst ys) S l h (Heap.SameBut.update ..) ⟨items',_,u,r'⟩ rfl rfl r k
theorem setI_ok {v:V} {z:Value} {K:Hp->Prop} (S:Sat w B os G s) (l:Le H G) (ra:VR G a x) (rb:VR G b y) (rz:VR G v z) (k:setI a b v K H):WG w B os A (setItem x y z) relU (fun Y=>K) X G s:=by
  obtain ⟨p,rfl,kz⟩:=Dx k;cases (show x = .ref p from ra);obtain ⟨c,h,kz⟩:=AK kz;cases c<;>first | exact False.elim kz | skip
  . obtain ⟨i,rfl,⟨k0,k1,k2⟩,kzz⟩:=Ba kz;obtain ⟨u,rfl⟩:=rb;obtain ⟨items,n,h1,h2⟩:=DO S l h;refine ki_setAt h1 k0 k2 ?_ (PG.lst (b:=()) S l h h1 (items':=items.set i.toNat z) (by simp) (vrs_set h2 rz _) (fun Y Y=>trivial) kzz);rw [h2.size];assumption
  . obtain ⟨k',rfl,k1,kzz⟩:=CU kz;obtain ⟨u,rfl⟩:=rb;obtain ⟨h0,kvs,h1,h2⟩:=mut_dct S l h;refine wpAny_setItem_pairs (knd:=SK w) (As k' u) h1 (fun h' hd hs=>?_) (by rw [<- h2.length];exact An (Nat.le_of_lt k1));exact PG.set (s':={s with heap:=h',toks:=s.toks+1}) (b:=()) (v':=.dct (put _ k' v)) S l h hs ⟨h0,_,hd,h2.put k' rz⟩ rfl rfl (fun Y Y=>trivial) kzz
theorem VKs.without {es:List (Str×V)} {kvs:List (Str×Value)} (h:VKs G es kvs) (k:Str):VKs G (es.filter fun kv => !decide (kv.1=k)) (without kvs k):=by
  induction h with
  | nil=>exact .nil
  | @cons k' v x vs xs h t ih =>
    unfold PySem.without;by_cases e:k'=k
    . simp only [List.filter_cons,e,decide_true,Bool.not_true,Bool.false_eq_true,if_false,ne_eq,not_true_eq_false,decide_false];exact ih
    . simp only [List.filter_cons,e,decide_false,Bool.not_false,if_true,ne_eq,not_false_eq_true,decide_true];exact .cons h ih
theorem delI_ok {K:Hp->Prop} (S:Sat w B os G s) (l:Le H G) (ra:VR G a x) (rb:VR G b y) (k:delI a b K H):WG w B os A (delItem x y) relU (fun Y=>K) X G s:=by
  obtain ⟨p,rfl,kz⟩:=Dx k
  . cases (show x = .ref p from ra);obtain ⟨c,h,kz⟩:=AK kz;obtain ⟨es,rfl,kzz⟩:=aD_inv kz
    . obtain ⟨k',rfl,k0,k1,kzzz⟩:=CU kzz;obtain ⟨u,rfl⟩:=rb;obtain ⟨h0,kvs,h1,h2⟩:=mut_dct S l h;unfold delItem;refine wpAny_holding (wpAny_bind (wpAny_sequenceKey h1.typeIs (by decide) ?_));refine wpAny_bind (wpAny_callSpecial?_slot (name:=Str.ofString "__delitem__") h1.typeIs PySem.F.slot_dict_delitem
        (call_meetsIn PySem.F.slot_dict_delitem h1.typeIs PySem.F.entry_dict_delitem (PySem.F.args_dict_delitem_2 _ _) (meets_dict_delitem_pairs (SK w) p (As k' u)) ⟨kvs,h1,(by rw [<- h2.length];exact An k0),?_,fun h' hmm hs=>?_⟩))
      . rcases h2.at k' with ⟨e1,_⟩ | ⟨v,x,e1,e2,_⟩
        . rw [e1] at k1;cases k1
        . rw [e2];rfl
      . exact wpAny_pure (PG.set (s':={s with heap:=h',toks:=s.toks+1}) (b:=()) (v':=.dct (es.filter fun kv => !decide (kv.1=k'))) S l h hs ⟨h0,_,hmm,h2.without k'⟩ rfl rfl (fun Y Y=>trivial) kzzz)
theorem len_ok (S:Sat w B os G s) (l:Le H G) (ra:VR G a x) (k:lenV a K H):WG w B os A (call (.builtin "len") [x]) VR K X G s:=by
  obtain ⟨c,h,k⟩:=AK k;cases c<;>first | exact False.elim k | skip
  . obtain ⟨p,items,n,rfl,h1,h2⟩:=CI S l ra h;refine P.len_tuple h1 (by rw [h2.size];exact Int.not_le.mpr (lim63 k.1)) ?_;exact wl (h2.size ..) (WG.now (b:=.int _) S l ⟨_,rfl⟩ k.2)
  . obtain ⟨p,items,n,rfl,h1,h2,-⟩:=Am S l ra h;refine call_len_list h1.isList (by rw [h2.size];exact lim63 k.1) ?_;exact wl (h2.size ..) (WG.now (b:=.int _) S l ⟨_,rfl⟩ k.2)
  . obtain ⟨p,kvs,rfl,h0,h1,h2,-⟩:=Dt S l ra h;refine call_len_dict (knd:=SK w) h0 h1 (by rw [<- h2.length];exact lim63 k.1) ?_;exact wr (h2.length ..) (WG.now (b:=.int _) S l ⟨_,rfl⟩ k.2)
theorem PG.newAt {c:V} {p:Addr} {s':Shared} (S:Sat w B os G s) (l:Le H G) (hp:s.heap.objs.size<=p) (kp:∀ b o,s.heap.get? b=some o->s'.heap.get? b=some o) (hc:∀ G',Ext G G'->OR w G' s'.heap p c) (k:Ak c K H)
    (hg:s'.gens=s.gens:=by rfl) (ho:s'.os=s.os:=by rfl):PG w B os VR G s.heap K (.ref p) s':=by
  have gn:G p=none:=by
    cases h:G p with
    | none=>rfl
    | some c=>exact absurd (S.lt h) (Nat.not_lt.mpr hp)
  have bn:B.get? p=none:=by
    cases h:B.get? p with
    | none=>rfl
    | some o=>exact absurd (Heap.lt_size (S.base _ _ h)) (Nat.not_lt.mpr hp)
  have hn:H p=none:=by
    cases h:H p with
    | none=>rfl
    | some v=>have:=l _ _ h;rw [gn] at this;cases this
  have e:Ext G (upd G p (.mu c)):=.upd_fresh gn;have S':=S.keeps kp hg ho;refine ⟨_,.ref p,upd H p c,e,⟨S'.top,S'.base,fun a c' h=>?_,S'.gens,S'.os,e.tb S.tbs⟩,.keeps kp,l.upd _ _,rfl,k _ hn⟩;by_cases q:a=p
  . subst q;rw [AA] at h;cases h;exact ⟨bn,hc _ e⟩
  . rw [AC q] at h;exact ⟨(S'.cells a c' h).1,(S'.cells a c' h).2.ext e⟩
theorem mkl_ok (S:Sat w B os G s) (l:Le H G) (ra:VR G a x) (k:mklV a K H):WG w B os A (call (.type "list") [x]) VR K X G s:=by
  obtain ⟨c,h,k⟩:=AK k;cases c<;>first | exact False.elim k | skip
  . obtain ⟨p,items,n,rfl,h1,h2⟩:=CI S l ra h;exact call_list_seq (hsz:=by rw [h2.size];exact An k.1) p (.inr rfl) h1 rfl rfl fun h' c' hk hD =>
      PG.newAt (c:=.lst _) S l (Nat.le_refl _) hk (fun G' e=>⟨items,c',hD,h2.ext e⟩) k.2
  . obtain ⟨p,items,n,rfl,h1,h2,-⟩:=Am S l ra h;exact call_list_seq (hsz:=by rw [h2.size];exact An k.1) p (.inl rfl) h1 rfl rfl fun h' c' hk hD =>
      PG.newAt (c:=.lst _) S l (Nat.le_refl _) hk (fun G' e=>⟨items,c',hD,h2.ext e⟩) k.2
theorem max_ok {i j:Int} (hh:A.handled=none) (S:Sat w B os G s) (l:Le H G) (ra:VR G (.int i) x) (rb:VR G (.int j) y) (k:K (.int (if j > i then j else i)) H):WG w B os A (call (.builtin "max") [x,y]) VR K X G s:=by
  obtain ⟨t,rfl⟩:=ra;obtain ⟨u,rfl⟩:=rb;refine max_two_ints hh fun h' tk kp=>?_;refine ⟨G,_,H,.refl G,S.keeps kp rfl rfl,.keeps kp,l,?_,k⟩;split
  . exact ⟨_,rfl⟩
  . exact ⟨_,rfl⟩
end
end Mine
namespace Mine
open PySem PySem.W PySem.Calls PyProof.Rows
noncomputable def glL:List (String×Addr):=[("Builtin",573),("ClassTable",409),("Environment",595),("Evaluator",1444),("Matching",252),("MethodTable",843),("Refusal",117),("S4Class",304),("S4State",878),("Vector",487),("_law_above",1490),("_law_cork",1469),("_law_corks",1462),("_law_fault",1502),("_law_same",1512),("_law_set",1507),("_law_slots",1495),("_law_text",1476),("_law_texts",1483),("b_extends",1124),("b_getSlots",1141),("b_isClass",1117),("b_isVirtualClass",1110),("b_setClass",1089),("b_slotNames",1136),("basic_names",322),("basic_parents",329),("character",683),("check_prototype",1075),("check_slots",420),("class_attr",52),("class_of",87),("class_parts",1061),("class_supers",434),("data_kinds",315),("dim_of",40),("flag",690),("generator",1082),("get_attr",28),("implicit_class",80),("is_function",718),("is_of",441),("match_names",281),("names_of",33),("one_name",1049),("plain_class",73),("prototype_parts",1068),("quiet",1042),("quoted",896),("s4_state",889),("shape_class",66),("share",725),("slot_rows",1131),("split_first",1103),("take",287),("text_pairs",1056),("value_classes",427)]
noncomputable def gl (x:Str):Option V:=(glL.find? fun p=>decide (Str.ofString p.1=x)).map fun p=>.ref p.2
noncomputable def bltL:List (String×Value):=[("len",.builtin "len"),("list",.type "list"),("dict",.type "dict"),("range",.type "range"),("reversed",.type "reversed"),("max",.builtin "max"),("isinstance",.builtin "isinstance")]
noncomputable def strKey (e:DictEntry):Bool:=match e.key with | .str _ _=>true | _=>false
noncomputable def CM (p:Params):Array DictEntry:=match (A p 3).data with | .dict es _=>es | _=>#[]
noncomputable def bltEs (p:Params):Array DictEntry:=match (A p 0).data with | .dict es _=>es | _=>#[]
noncomputable def isRefTo (a:Addr):Option Value->Bool
  | some (.ref b)=>b == a
  | _=>false
noncomputable def isVal (v:Value):Option Value->Bool
  | some x=>x == v
  | none=>false
theorem main_str (p:Params):(CM p).toList.all strKey=true:=by kernel_rfl
theorem blt_str (p:Params):(bltEs p).toList.all strKey=true:=by kernel_rfl
theorem main_gl (p:Params):(glL.all fun q=>isRefTo q.2 (nsFind (CM p) (Str.ofString q.1)))=true:=by kernel_rfl
theorem main_blt (p:Params):(bltL.all fun q=>(nsFind (CM p) (Str.ofString q.1)).isNone && isVal q.2 (nsFind (bltEs p) (Str.ofString q.1)))=true:=by kernel_rfl
noncomputable def epOf (o:Obj):Nat:=match o.data with | .dict _ n=>n | _=>0
theorem main_at (p:Params):(H1 p).get? mainGlobals=some (A p 3)/\(A p 3).data = .dict (CM p) (epOf (A p 3)):=⟨by kernel_rfl,by kernel_rfl⟩
theorem blt_at (p:Params):(H1 p).get? builtinsNs=some (A p 0)/\(A p 0).data = .dict (bltEs p) (epOf (A p 0)):=⟨by kernel_rfl,by kernel_rfl⟩
set_option tactic.hygienic true in
theorem ns_of {h:Heap} {a:Addr} {o:Obj} {es:Array DictEntry} {n:Nat} (ho:h.get? a=some o) (hd:o.data = .dict es n) (hs:es.toList.all strKey=true):h.Ns a (nsFind es) :=
  ⟨o,es,n,ho,hd,(fun e he=>by
    have:=List.all_eq_true.mp hs e (by simpa using he);unfold strKey at this;split at this
    . rename_i x t q;exact ⟨x,t,q⟩
    . cases this),fun Y=>rfl⟩
section
variable {w:World} {B:Heap} {os:OsState} {A:Around} {G:Gh} {s:Shared} {E:Value->Shared->Prop} {env:Env} {x:Str} {p:Pos} {Q:Value->Shared->Prop}
theorem Sat.keepTop (S:Sat w B os G s) {b:Addr} {o:Obj} (h:(H1 w.params).get? b=some o) (q:Ap b=false:=by rfl):s.heap.get? b=some o:=S.base b o (S.top b o q h)
theorem Sat.mainNs (S:Sat w B os G s):s.heap.Ns mainGlobals (nsFind (CM w.params)):=by obtain ⟨h1,h2⟩:=main_at w.params;exact ns_of (S.keepTop h1) h2 (main_str _)
theorem Sat.bltNs (S:Sat w B os G s):s.heap.Ns builtinsNs (nsFind (bltEs w.params)):=by obtain ⟨h1,h2⟩:=blt_at w.params;exact ns_of (S.keepTop h1) h2 (blt_str _)
set_option tactic.hygienic true in
theorem glob_ok (S:Sat w B os G s) (hg:env.globals=mainGlobals) (hk:env.scope.kind = .function) (hx:env.kindOf x=some .globalImplicit) (hd:(x == ("__debug__" : Str))=false) {v:V} (e:gl x=some v) (h:∀ y,VR G v y->Q y s) :
    wpAny (Mo w) A (eval (.Name x p) env) Q E s:=by
  obtain ⟨q,hq,rfl⟩:=Option.map_eq_some_iff.mp e;have e1:Str.ofString q.1=x:=by simpa using List.find?_some hq
  have z:=List.all_eq_true.mp (main_gl w.params) q (List.mem_of_find?_eq_some hq);subst e1;unfold isRefTo at z;split at z
  . rename_i b hb;rw [beq_iff_eq.mp z] at hb;exact Name_function_global hk hx (loadGlobal_global (by rw [hg];exact S.mainNs) hb (h _ rfl)) hd
  . cases z
set_option tactic.hygienic true in
theorem blt_ok (S:Sat w B os G s) (hg:env.globals=mainGlobals) (hb:env.builtins=builtinsNs) (hk:env.scope.kind = .function) (hx:env.kindOf x=some .globalImplicit) (hd:(x == ("__debug__" : Str))=false) {q:String×Value} (hq:q∈bltL) (e:x=Str.ofString q.1) (h:Q q.2 s) :
    wpAny (Mo w) A (eval (.Name x p) env) Q E s:=by
  have z:=List.all_eq_true.mp (main_blt w.params) q hq;subst e;obtain ⟨z1,z2⟩:=Bool.and_eq_true_iff.mp z;unfold isVal at z2;split at z2
  . rename_i y hy;rw [beq_iff_eq.mp z2] at hy;exact Name_function_global hk hx (loadGlobal_builtin (by rw [hg];exact S.mainNs) (Option.isNone_iff_eq_none.mp z1) (by rw [hb];exact S.bltNs) hy h) hd
  . cases z2
end
end Mine
namespace Mine
open PySem PySem.W PySem.Calls PyProof.Rows PySem.MeetsSeq PySem.SeqAt PySem.EqNone
noncomputable abbrev bmE:List Value:=[.type "Exception",.type "BaseException",.type "object"]
noncomputable def excCd (p:Params):ClassData:=(clsIn (KF p) CR).getD default
noncomputable def excSl (p:Params) (i:Nat):Option Value:=((A p CR).slots[i]?).getD none
theorem exc_miss (p:Params):((List.range flds.length).all fun k=>isNN (findIn (KF p) (.ref CR) (fld k)))=true:=by kernel_rfl
structure ExcOk (p:Params):Prop where
  cd:∃ cd,clsIn (KF p) CR=some cd/\cd.hasDict=true/\cd.mro=[.ref 117,.ref 97,.type "Exception",.type "BaseException",.type "object"]
  miss:∀ k,k<flds.length->findIn (KF p) (.ref CR) (fld k)=some none
  ga:findIn (KF p) (.ref CR) "__getattribute__" = some (some (.builtin "BaseException.__getattribute__"))
  sa:findIn (KF p) (.ref CR) "__setattr__" = some (some (.builtin "object.__setattr__"))
  gattr:findIn (KF p) (.ref CR) "__getattr__" = some none
  tail:tailIn (KF p) bmE (.ref 97::bmE)=true
  obj:∃ dd cd k0 k1 k2 k3 k5,(KF p).lookup CR=some ⟨.type "type",dd,.cls cd,#[k0,k1,k2,k3,some (.builtin "Exception.__new__"),k5]⟩/\cd.hasDel=false/\nsOkIn (KF p) cd.ns=true/\nsIn (KF p) cd.ns "__init__" = some (some (.ref 114))
theorem excOk (p:Params):ExcOk p :=
  ⟨⟨excCd p,by kernel_rfl,by kernel_rfl,by kernel_rfl⟩,fun k hk=>isNN_eq (List.all_eq_true.mp (exc_miss p) k (List.mem_range.mpr hk)),by kernel_rfl,by kernel_rfl,by kernel_rfl,by kernel_rfl,
    (A p CR).dict,excCd p,excSl p 0,excSl p 1,excSl p 2,excSl p 3,excSl p 5,by kernel_rfl,by kernel_rfl,by kernel_rfl,by kernel_rfl⟩
section
variable {w:World} {B:Heap} {os:OsState} {A:Around} {G:Gh} {s:Shared} {H:Hp} {X:KX} {a b:V} {x y:Value} {K:KV}
theorem ga_plain:plainId "BaseException.__getattribute__" = true:=by decide +kernel
theorem ga_kind:builtinKind "BaseException.__getattribute__" = some .slot:=by decide +kernel
theorem ga_split:splitId "BaseException.__getattribute__" = some ("BaseException","__getattribute__"):=by decide +kernel
theorem ga_check {p:Addr} {name:Str} {tk:Tok} {Q:Unit->Shared->Prop} {E:Value->Shared->Prop} (sub:Looks (Mo w) s.heap (isInstance (.ref p) (.type "BaseException")) true) (q:Q () s) :
    wpAny (Mo w) A (checkBuiltinCall "BaseException.__getattribute__" ⟨[.ref p,.str name tk],[]⟩) Q E s:=by
  have ha:=PySem.F.args_bexc_ga (.ref p) (.str name tk);simp only [checkBuiltinCall,ga_kind,ga_split];refine wpAny_bind (sub.here ?_);simp only [Bool.not_true,Bool.false_eq_true,if_false];unfold argsOk at ha
  revert ha
  cases hsig:Manifest.signature? "BaseException.__getattribute__" with
  | none=>intro _;exact wpAny_pure q
  | some sig=>intro ha;have h2:Bind.checkArgs "BaseException.__getattribute__" sig ⟨[.ref p,.str name tk],[]⟩=pure ():=ha;show wpAny (Mo w) A (Bind.checkArgs _ sig _) Q E _;rw [h2];exact wpAny_pure q
theorem attr_exc {n:Nat} {o:V} {z:Value} {expr:Bool} {es:List (Nat×V)} (h:look H o=some (.obj CR es)) (S:Sat w B os G s) (l:Le H G) (r:VR G o z) (k:CD o n K H):WG w B os A (getAttr z (fld n) expr) VR K X G s:=by
  unfold CD at k;replace k:=h▸k
  . obtain ⟨v,hv,k⟩:=AK (o:=at? es n) k;obtain ⟨p,rfl,o,_⟩:=obj_at S l r h;obtain ⟨ox,od,dx,mm,I,h3,h4,h5,h6,h7,h8,h9,h10,h11,h12⟩:=DR o;have Z:=excOk w.params;obtain ⟨cd,c1,c2,c3⟩:=Z.cd;obtain ⟨z,hz,rz⟩:=h8 n v hv;have hh:=hand_ok rz k.1;have X':=S.kf;have fin:PG w B os VR G s.heap K z {s with toks:=s.toks+1}:=WG.now (b:=v) S l rz k.2;have ff:findObj (KF w.params) CR (some od) (fld n)=some (.value z):=by
      unfold findObj;refine wl (c1 ..) ?_;refine wl (Z.miss n (h12 n v hv) ..) ?_;have hw:PySem.W.ownOf cd (some od) (fld n)=some (some z):=by unfold PySem.W.ownOf;rw [c2,if_pos rfl];exact (h7 _).trans (congrArg some hz)
      show (PySem.W.ownOf cd (some od) (fld n)).bind _=_;rw [hw];rfl
    clear rz h8 h9 h10 h11 h12;obtain ⟨hh',g,d,t,os'⟩:=s;have L0:=I.type (M:=Mo w);have L1:=looks_findIn (M:=Mo w) X' Z.ga;have L2:=looks_findIn (M:=Mo w) X' Z.gattr;have L3:=looks_find (M:=Mo w) X' I ff;have hx0:(expr && onTheHeap (Value.builtin "BaseException.__getattribute__"))=false:=by cases expr<;>rfl
    have hx2:(Value.builtin "BaseException.__getattribute__" == Value.builtin "object.__getattribute__")=false:=by decide +kernel
    unfold getAttr getAttrBy;refine wpAny_bind (wpAny_mkText (wpAny_holding (wpAny_bind (L0.at (wpAny_bind (L1.at ?_))))));dsimp only;refine wl (hx2 ..) ?_;refine wl (Bool.and_false ..) ?_;refine wl (if_neg (by decide) ..) ?_;unfold getAttrByItsOwn;refine wpAny_bind ?_;unfold hookBefore;refine wl (if_pos (show onTheHeap (Value.ref CR)=true from rfl) ..) ?_;refine L2.at ?_;refine wpAny_bind (wpAny_attempt (wpAny_holding ?_));unfold callGetattribute;refine wl (hx0 ..) ?_;refine wl (if_neg (by decide) ..) ?_;unfold boundAndCalled;refine wl (PySem.F.attr_Exception.ga.bind ..) ?_;have sub:Looks (Mo w) hh' (isInstance (.ref p) (.type "BaseException")) true:=I.type.andThen (looks_mroIn X' (by unfold mroIn;rw [c1,Option.bind_some,c3];rfl));refine wpAny_bind (wpAny_pure (wpAny_call ?_));show codeAny (Mo w) A (.call (.builtin "BaseException.__getattribute__") ⟨[.ref p,.str (fld n) t],[]⟩) _ _;refine codeAny_call_builtin ga_plain PySem.F.entry_bexc_ga (ga_check sub ?_);have fin2:wpAny (Mo w) A (handedOut z) (PG w B os VR G hh' K) (PostX w B os G hh' X) ⟨hh',g,d,t+1,os'⟩:=by rw [handedOut_of hh];exact wpAny_pure fin
    clear fin L2 L1 ff;unfold Builtin.«object.__getattribute__» slotArgs
    repeat lk
    exact fin2
theorem sa_check {p:Addr} {name:Str} {tk:Tok} {v:Value} {Q:Unit->Shared->Prop} {E:Value->Shared->Prop} (sub:Looks (Mo w) s.heap (isInstance (.ref p) (.type "object")) true) (q:Q () s) :
    wpAny (Mo w) A (checkBuiltinCall "object.__setattr__" ⟨[.ref p,.str name tk,v],[]⟩) Q E s :=
  by
  have ha:=PySem.F.store_Exception.args (.ref p) (.str name tk) v;simp only [checkBuiltinCall,PySem.F.store_Exception.kind,PySem.F.store_Exception.split];refine wpAny_bind (sub.here ?_);simp only [Bool.not_true,Bool.false_eq_true,if_false];unfold argsOk at ha
  revert ha
  cases hsig:Manifest.signature? "object.__setattr__" with
  | none=>intro _;exact wpAny_pure q
  | some sig=>intro ha;have h2:Bind.checkArgs "object.__setattr__" sig ⟨[.ref p,.str name tk,v],[]⟩=pure ():=ha;show wpAny (Mo w) A (Bind.checkArgs _ sig _) Q E _;rw [h2];exact wpAny_pure q
theorem set_exc {e:Addr} {vs:Array Value} {z:Value} {Q:Unit->Shared->Prop} {E:Value->Shared->Prop} (S:Sat w B os G s) (hx:s.heap.get? e=some {cls:=.ref CR,data:=.fields vs})
    (q:∀ h' tk dx,s.heap.get? dx=none->s.heap.objs.size<=dx->(∀ b o,b≠e->s.heap.get? b=some o->h'.get? b=some o)->h'.get? e=some {cls:=.ref CR,dict:=some dx,data:=.fields vs}->Sn h' dx 1 (fun y=>if y=fld 20 then some z else none)->Q () {s with heap:=h',toks:=tk}) :
    wpAny (Mo w) A (setAttr (.ref e) (fld 20) z) Q E s:=by
  have Z:=excOk w.params;obtain ⟨cd,c1,c2,c3⟩:=Z.cd;have X':=S.kf;clear S;obtain ⟨hh',g,d,t,os'⟩:=s;dsimp only at hx X' q;have I:InstAt hh' e {cls:=.ref CR,data:=.fields vs} CR none:=⟨hx,rfl,rfl,trivial⟩
  refine set_plain X' I Z.sa ?_;have sub:Looks (Mo w) hh' (isInstance (.ref e) (.type "object")) true:=I.type.andThen (looks_mroIn X' (by unfold mroIn;rw [c1,Option.bind_some,c3];rfl));refine codeAny_call_builtin PySem.F.store_Exception.slot.plain PySem.F.store_Exception.entry (sa_check sub ?_);have hm:Looks (Mo w) hh' (mroOf (.ref CR)) [.ref 117,.ref 97,.type "Exception",.type "BaseException",.type "object"]:=c3▸(looks_clsIn X' c1).andThen .now;refine wl (osa_eq ..) ?_;refine wl (refuse_eq ..) ?_;have L0:=I.type (M:=Mo w);have L2:=looks_findIn (M:=Mo w) X' (Z.miss 20 (by decide));have L3:Looks (Mo w) hh' (Builtin.ObjectAttr.storeTaker? none) none:=.now;refine wpAny_bind (wpAny_bind (L0.at (wpAny_bind (hm.at ?_))));refine wl (refuseLoop_ref ..) ?_;refine wl (refuseLoop_ref ..) ?_;refine wl (PySem.F.store_Exception.passes ..) ?_;refine wpAny_pure (wpAny_bind (L0.at (wpAny_bind (L2.at (wpAny_bind (L3.at ?_))))));dsimp only;refine wpAny_bind (wpAny_pure (wpAny_bind (wpAny_bind (wpAny_loadPart hx (wpAny_bind ((looks_clsIn (M:=Mo w) X' c1).at ?_))))));refine wl (c2 ..) ?_;have hx₁:(hh'.push {cls:=.type "dict",data:=.dict #[]}).get? e=some {cls:=.ref CR,data:=.fields vs}:=Heap.get?_push_of_some _ hx;have hxs:e≠hh'.objs.size:=Nat.ne_of_lt (Heap.lt_size hx);refine wpAny_bind (wpAny_alloc ?_);refine wpAny_bind (wpAny_update hx₁ ?_);refine wpAny_pure ?_;have h1:=Heap.get?_update_self (fun o=>({o with dict:=some hh'.objs.size}:Obj)) hx₁ rfl;have hk:∀ b o,b≠e->hh'.get? b=some o->((hh'.push {cls:=.type "dict",data:=.dict #[]}).update e fun o=>{o with dict:=some hh'.objs.size}).get? b=some o:=fun b o nb hb=>by rw [Heap.get?_update_other _ _ (Ne.symm nb)];exact Heap.get?_push_of_some _ hb
  have hn:Sn ((hh'.push {cls:=.type "dict",data:=.dict #[]}).update e fun o=>{o with dict:=some hh'.objs.size}) hh'.objs.size 0 fun Y=>none :=
    (Sn.new hh' (.type "dict")).keep fun o ho=>by rw [Heap.get?_update_other _ _ hxs];exact ho
  generalize ((hh'.push {cls:=.type "dict",data:=.dict #[]}).update e fun o=>{o with dict:=some hh'.objs.size})=h2 at h1 hk hn;have SN:=hn.put (fld 20) (PyData.keyHash w.params (fld 20)) (t+1) z;obtain ⟨o',es',ep',D,hd',hk',hz',hm'⟩:=id hn;refine wpAny_bind (wpAny_pure (wpAny_bind ?_));unfold nsSet;refine wpAny_bind (wpAny_bind (wpAny_askSetting (wpAny_pure (wpAny_bind (wpAny_mkText (wpAny_bind (wpAny_loadPart D ?_)))))));refine wl (hd' ..) ?_;dsimp only;have c:(!es'.any (·.key.isStr (fld 20)) && es'.any (·.refKey))=false:=by
    have:es'.any (·.refKey)=false:=by rw [Array.any_eq_false'];intro e he;obtain ⟨n,t,h⟩:=hk' e he;simp [DictEntry.refKey,h]
    refine wl (this ..) ?_;exact wl (Bool.and_false ..) rfl
  refine wl (aRefKeyMayBeTheName_at ..) ?_;refine wl (c ..) ?_;refine wpAny_updatePart D ?_;obtain ⟨o2,es2,ep2,ho2,hd2,hk2,hz2,hm2⟩:=id SN;refine wpAny_bind (wpAny_lookBehind ho2 (by rw [hd2];exact pastItsLine_dict (by rw [sizeLine_eq];simp at hz2;exact AN ‹_› (by decide))) ?_);refine wpAny_pure (q _ _ hh'.objs.size (Heap.get?_none_of_le (Nat.le_refl _)) (Nat.le_refl _) (fun b o nb hb=>?_) ?_ SN)
  . have:b≠hh'.objs.size:=Nat.ne_of_lt (Heap.lt_size hb);rw [Heap.get?_update_other _ _ (Ne.symm this)];exact hk b o nb hb
  . rw [Heap.get?_update_other _ _ hxs.symm];exact h1
end
structure EnvOk (c:Sc) (env:Env):Prop where
  own:∀ x,c.own x=true->env.kindOf x=some .local\/env.kindOf x=some .cell\/env.kindOf x=some .free
  loc:∀ x,c.sc.names.lookup x=some .local->env.kindOf x=some .local
  glob:∀ x,c.glob x=true->env.kindOf x=some .globalImplicit
  gl:c.gl=gl
  cell:∀ x,c.sc.names.lookup x=some .cell->env.kindOf x=some .cell/\∃ a,env.cells.lookup x=some a
def PE (e:Expr):Prop:=∀ ⦃w:World⦄ ⦃B:Heap⦄ ⦃os:OsState⦄ ⦃A:Around⦄ ⦃d:Nat⦄ ⦃env:Env⦄ ⦃c:Sc⦄ ⦃K:KV⦄ ⦃X:KX⦄ ⦃m:Lm⦄ ⦃H:Hp⦄,EnvOk c env->vcE d (comp c e) K X m H->EW w B os A d env c.ls (eval e env) K X m H
def PT (e:Expr):Prop:=∀ ⦃w:World⦄ ⦃B:Heap⦄ ⦃os:OsState⦄ ⦃A:Around⦄ ⦃d:Nat⦄ ⦃env:Env⦄ ⦃c:Sc⦄ ⦃K:Bool->Hp->Prop⦄ ⦃X:KX⦄ ⦃m:Lm⦄ ⦃H:Hp⦄,BF e=true->EnvOk c env->vcE d (comp c e) (asB K) X m H ->
  ∀ G s,At w B os A d env c.ls m H G s->WG w B os A (isTrue e env (eval e env)) relB K X G s
section
variable {w:World} {B:Heap} {os:OsState} {A:Around} {d:Nat} {env:Env} {c:Sc} {K:KV} {X:KX} {m:Lm} {H:Hp} {G:Gh} {s:Shared} {x:Str} {p:Pos}
theorem At.units {ls:List Str} (a:At w B os A d env ls m H G s):A.units<=9700:=r_al a.cx.units (by decide)
theorem ix_at {c:Sc} {i:Nat} (h:c.ix x=some i):c.ls[i]?=some x:=by
  unfold Sc.ix at h;have h':=(List.findIdx?_eq_some_iff_getElem.mp h)
  obtain ⟨hlt,h1,_⟩:=h';refine wl (List.getElem?_eq_getElem hlt ..) ?_;simpa using h1
theorem loc_ok (a:At w B os A d env c.ls m H G s) (e:EnvOk c env) (hd:(x == ("__debug__" : Str))=false) (hc:(x == ("__classdict__" : Str))=false) (ho:c.own x=true) {i:Nat} (hi:c.ix x=some i) {v:V} (hm:m[i]?=some (some v)) {E:Value->Shared->Prop} {Q:Value->Shared->Prop}
    (q:∀ y,VR G v y->Q y s):wpAny (Mo w) A (eval (.Name x p) env) Q E s:=by
  obtain ⟨S,C,L,l⟩:=a;have hx:=ix_at hi;obtain ⟨mm,hn,hv⟩:=L.ns;rcases e.own x ho with hk | hk | hk
  . obtain ⟨y,h1,h2⟩:=hv i x v hx hm hk;exact wpAny_Name (wpAny_loadName_local L.kind hk hn h1 (q y h2)) hd
  . obtain ⟨ca,o,y,h1,h2,h3,h4⟩:=L.cells i x v hx hm (.inl hk);exact wpAny_Name (wpAny_loadName_cell L.kind hk h1 ⟨o,(S.cells _ _ h2).2,h3⟩ (q y h4)) hd
  . obtain ⟨ca,o,y,h1,h2,h3,h4⟩:=L.cells i x v hx hm (.inr hk);exact wpAny_Name (wpAny_loadName_free L.kind hk h1 ⟨o,(S.cells _ _ h2).2,h3⟩ (q y h4) hc) hd
theorem BO (e:EnvOk c env) (h:c.glob x=true):env.kindOf x=some .globalImplicit:=e.glob x h
set_option tactic.hygienic true in
theorem pe_name (x:Str) (p:Pos):PE (.Name x p):=by
  intro w B os A d env c K X m H e h G s a;rw [comp_Name] at h;unfold Sc.nm at h;split at h
  . exact h.elim
  . rename_i hd;rw [Bool.not_eq_true,Bool.or_eq_false_iff] at hd;split at h
    . rename_i ho;split at h
      . rename_i i hi;dsimp only [Df] at h;obtain ⟨o,ho',h1⟩:=AK h;obtain ⟨v,rfl,h2⟩:=AK h1;exact loc_ok a e hd.1 hd.2 ho hi ho' fun y r=>WG.now (b:=v) a.sat a.le r h2
      . exact h.elim
    . split at h
      . rename_i hg;split at h
        . rename_i v hv;dsimp only [E_glb] at h;exact glob_ok a.sat a.loc.globs a.loc.kind (BO e hg) hd.1 (e.gl▸hv) fun y r=>WG.now (b:=v) a.sat a.le r h
        . exact h.elim
      . exact h.elim
theorem CV {b:V} {y:Value} (S:Sat w B os G s) (l:Le H G) (r:VR G b y) (k:K b H):WG w B os A (pure y) VR K X G s:=WG.pure S l r k
theorem pe_const (k:Const) (n:Nat) (p:Pos):PE (.Constant k n p):=by
  intro w B os A d env c K X m H e h G s a;replace h:=comp_Constant▸h;cases k with
  | none=>exact CV (b:=.none) a.sat a.le rfl h
  | bool b=>exact CV (b:=.bool b) a.sat a.le rfl h
  | int i=>exact wpAny_Constant_int (WG.now (b:=.int i) a.sat a.le ⟨_,rfl⟩ h)
  | str x=>exact wpAny_Constant_str (WG.now (b:=.str x) a.sat a.le ⟨_,rfl⟩ h)
  | _=>exact False.elim h
theorem obj_cls (o:V) (H:Hp) (hx:∀ C es,look H o=some (.obj C es)->C≠CR) (S:Sat w B os G s) (l:Le H G) {z:Value} (r:VR G o z):∀ C es,look H o=some (.obj C es)->C∈clsP:=by
  intro C es h;obtain ⟨q,rfl,⟨dx,⟨h1,_⟩,_⟩,_⟩:=obj_at S l r h;have:=hx C es h;unfold clsL at h1;unfold clsP;rcases List.mem_cons.mp h1 with rfl | h1
  . exact absurd rfl this
  . exact h1
theorem attr_gen {n:Nat} {o:V} {z:Value} {expr:Bool} (S:Sat w B os G s) (l:Le H G) (r:VR G o z) (k:CD o n K H):WG w B os A (getAttr z (fld n) expr) VR K X G s:=by
  by_cases h:∃ es,look H o=some (.obj CR es)
  . obtain ⟨es,h⟩:=h;exact attr_exc h S l r k
  . exact attr_ok (obj_cls o H (fun C es q e=>h ⟨es,e▸q⟩) S l r) S l r k
set_option tactic.hygienic true in
theorem base_ok {o:Expr} {nm:Str} {env:Env} (h:Ad o=true):attributeBase o nm env (eval o env)=eval o env:=by
  cases o<;>first | rfl | skip
  rename_i f as ks p;cases f<;>first | rfl | skip
  cases as<;>first | rfl | skip
  cases ks<;>first | rfl | exact absurd h Bool.false_ne_true
set_option tactic.hygienic true in
theorem pe_attr {o:Expr} (n:Str) (p:Pos) (ih:PE o):PE (.Attribute o n p):=by
  intro w B os A d env c K X m H e h G s a;rw [comp_Attribute] at h;split at h
  . rename_i h0;split at h
    . rename_i k hk;obtain ⟨rfl,hlt⟩:=fIx_fld hk;dsimp only [E_attr] at h;rw [arm_eval_Attribute,base_ok h0];refine WG.bind (ih e h G s a) fun G' b H' z s' e' S' l' le' r' k'=>?_;refine WG.stand (WG.bind (K:=K) (WG.hold (attr_gen S' le' r' k')) fun G2 b2 H2 z2 s2 e2 S2 l2 le2 r2 k2=>?_);exact wpAny_bind (wpAny_letTemporaryGo (CV S2 le2 r2 k2))
    . exact h.elim
  . exact h.elim
theorem not_slice {i:Expr} (h:Aw i=false) (o v:Value):subscripted i false o v=operate [o,v] (getItem o v):=by cases i<;>first | rfl | exact absurd h.symm Bool.false_ne_true
theorem pe_sub {o i:Expr} (p:Pos) (hi:Aw i=false) (iho:PE o) (ihi:PE i) {w:World} {B:Heap} {os:OsState} {A:Around} {d:Nat} {env:Env} {c:Sc} {K:KV} {X:KX} {m:Lm} {H:Hp} (e:EnvOk c env) (h:vcE d (.sub (comp c o) (comp c i)) K X m H) :
    EW w B os A d env c.ls (eval (.Subscript o i p) env) K X m H:=by
  intro G s a;dsimp only [E_sub] at h;refine wl (arm_eval_Subscript ..) ?_;refine WG.bind (iho e h G s a) fun G' b H' z s' e' S' l' le' r' k'=>?_;refine WG.bind (WG.hold (ihi e k' G' s' (a.step e' S' l' le'))) fun G2 b2 H2 z2 s2 e2 S2 l2 le2 r2 k2=>?_;refine WG.stand ?_;obtain ⟨T,id,hl,hT,hg⟩:=sub_ok (w:=w) (B:=B) (os:=os) (A:=A) (E:=PostX w B os G2 s2.heap X) (Q:=PG w B os VR G2 s2.heap K) S2 le2 (r'.ext e2) r2 k2 (fun v tk q=>q);refine wpAny_bind ?_;refine wl (getitemInPython_of_ne hT.not_modules ..) ?_;refine wpAny_bind (wpAny_specialOf hT hl ?_);have fin:wpAny (Mo w) A (operate [z,z2] (getItem z z2)) (fun r s₃=>wpAny (Mo w) A (letTemporaryGo o z r >>= fun Y=>pure r) (PG w B os VR G2 s2.heap K) (PostX w B os G2 s2.heap X) s₃) (PostX w B os G2 s2.heap X) s2 :=
    wpAny_operating (wpAny_mono hg (fun r s₃ h₃=>wpAny_bind (wpAny_letTemporaryGo (wpAny_pure h₃))) fun Y Y x=>x)
  rw [<- not_slice hi] at fin
  first
    | exact wpAny_pure (wpAny_bind fin)
    | exact wpAny_bind (wpAny_pure (wpAny_bind fin))
    | exact wpAny_bind fin
theorem pe_bin {l r:Expr} (op:Operator) (p:Pos) (ihl:PE l) (ihr:PE r):PE (.BinOp l op r p):=by intro w B os A d env c K X m H e h G s a;rw [comp_BinOp] at h;dsimp only [E_bin] at h;refine wl (arm_eval_BinOp ..) ?_;refine WG.bind (ihl e h G s a) fun G' b H' z s' e' S' l' le' r' k'=>?_;refine WG.bind (WG.hold (ihr e k' G' s' (a.step e' S' l' le'))) fun G2 b2 H2 z2 s2 e2 S2 l2 le2 r2 k2=>?_;exact WG.stand (WG.oper (bin_ok a.units S2 le2 (r'.ext e2) r2 k2))
theorem cmp_core {l r:Expr} {op:CmpOp} {K:Bool->Hp->Prop} (ihl:PE l) (ihr:PE r) {w:World} {B:Heap} {os:OsState} {A:Around} {d:Nat} {env:Env} {c:Sc} {X:KX} {m:Lm} {H:Hp} {β γ:Type} {rel:Gh->β->γ->Prop} {K':β->Hp->Prop} {p:Pos} {f:Value->Sem γ} (e:EnvOk c env)
    (h:vcE d (comp c l) (fun a=>vcE d (comp c r) (fun b=>CG op a b K) X m) X m H) (hs:Cj r=false) (G:Gh) (s:Shared) (a:At w B os A d env c.ls m H G s)
    (hf:∀ G' H' t s',Ext G G'->Sat w B os G' s'->Le H' G'->K t H'->WG w B os A (f (.bool t)) rel K' X G' s') :
    WG w B os A (do let a <- eval l env;let b <- holding [a] (markedBehindIn op r (eval r env));standAt p;let c <- operate [a,b] (compareOp op a b);f c) rel K' X G s:=by
  have hm:behindInMarks op r=false:=marks_no hs;refine wl (markedBehindIn_of_false hm ..) ?_;refine WG.bind (ihl e h G s a) fun G' b H' z s' e' S' l' le' r' k'=>?_;refine WG.bind (WG.hold (ihr e k' G' s' (a.step e' S' l' le'))) fun G2 b2 H2 z2 s2 e2 S2 l2 le2 r2 k2=>?_;refine WG.stand (WG.bind (K:=asB K) (WG.oper (cmp_ok a.units S2 le2 (r'.ext e2) r2 k2)) fun G3 b3 H3 z3 s3 e3 S3 l3 le3 r3 k3=>?_);obtain ⟨t,rfl,k3z⟩:=aB_inv k3;cases (show z3=_ from r3);exact hf G3 H3 t s3 ((e'.trans e2).trans e3) S3 le3 k3z
theorem pe_cmp {l r:Expr} (op:CmpOp) (p:Pos) (ihl:PE l) (ihr:PE r):PE (.Compare l [op] [r] p):=by
  intro w B os A d env c K X m H e h G s a;rw [DY] at h;split at h
  . exact h.elim
  . rename_i hs;dsimp only [E_cmp] at h;have:=cmp_core (p:=p) (f:=fun c=>pure c) (rel:=VR) (K':=K) ihl ihr e h (by simpa using hs) G s a fun G' H' t s' e' S' le' k'=>CV (b:=.bool t) S' le' rfl k';rw [eval_Compare1];simpa using this
end
section
variable {w:World} {B:Heap} {os:OsState} {A:Around} {d:Nat} {env:Env} {c:Sc} {X:KX} {m:Lm} {H:Hp} {G:Gh} {s:Shared} {x:Str} {p:Pos}
theorem truth_bool {β γ:Type} {rel:Gh->β->γ->Prop} {K:Bool->Hp->Prop} {K':β->Hp->Prop} {b:V} {z:Value} {f:Bool->Sem γ} (S:Sat w B os G s) (r:VR G b z) (k:asB K b H)
    (hf:∀ t,K t H->WG w B os A (f t) rel K' X G s):WG w B os A (truthy z >>= f) rel K' X G s:=by
  obtain ⟨t,rfl,kz⟩:=aB_inv k;cases (show z=_ from r);exact wpAny_bind (wpAny_truthy_bool (hf t kz))
theorem Bt {K:Bool->Hp->Prop} {b:Bool} (S:Sat w B os G s) (l:Le H G) (k:K b H):WG w B os A (pure b) relB K X G s:=WG.pure (rel:=relB) S l rfl k
theorem pt_val {e:Expr} (ih:PE e) (he:∀ env,isTrue e env (eval e env)=(do let v <- eval e env;standAt e.pos;holding [v] (truthy v))):PT e:=by intro w B os A d env c K X m H _ ok h G s a;refine wl (he ..) ?_;refine WG.bind (ih ok h G s a) fun G' b H' z s' e' S' l' le' r' k'=>?_;refine WG.stand (WG.hold ?_);have:=truth_bool (f:=pure) (rel:=relB) (K':=K) (A:=A) (X:=X) S' r' k' fun t k=>Bt S' le' k;simpa using this
theorem pt_cmp {l r:Expr} (op:CmpOp) (p:Pos) (ihl:PE l) (ihr:PE r):PT (.Compare l [op] [r] p):=by
  intro w B os A d env c K X m H _ e h G s a;rw [DY] at h;split at h
  . exact h.elim
  . rename_i hs;dsimp only [E_cmp] at h;rw [isTrue_Compare1];refine cmp_core (p:=p) (f:=fun c=>holding [c] (truthy c)) (rel:=relB) (K':=K) ihl ihr e h (by simpa using hs) G s a fun G' H' t s' e' S' le' k'=>WG.hold ?_;exact wpAny_truthy_bool (WG.now (rel:=relB) (b:=t) S' le' rfl k')
theorem pt_not {e:Expr} (p:Pos) (ih:PT e):PT (.UnaryOp .Not e p):=by intro w B os A d env c K X m H ht ok h G s a;have ht:BF e=true:=ht;rw [comp_Not] at h;dsimp only [E_not] at h;exact wl (arm_isTrue_UnaryOp ..) (WG.bind (ih ht ok h G s a) fun G' b H' z s' e' S' l' le' r' k'=>by cases (show b=z from r');exact Bt S' le' k')
theorem all_and {K:Bool->Hp->Prop} {es:List Expr}:Aq es=true->(∀ e∈es,PT e)->es≠[]->EnvOk c env->∀ {H G s},vcAnd d (AT c es) (asB K) X m H->At w B os A d env c.ls m H G s->WG w B os A (allTrue .And es env) relB K X G s:=by
  induction es with
  | nil=>intro ht ih hn;exact absurd rfl hn
  | cons e r IH =>
    intro ht ih hn ok H G s h a;rw [DM,Bool.and_eq_true] at ht;rw [arm_allTrue_cons];cases r with
    | nil=>dsimp only [AY,AZ,A_one] at h;refine WG.bind (ih e (.head _) ht.1 ok h G s a) fun G' b H' z s' e' S' l' le' r' k'=>?_;rw [<- show b=z from r'];cases b<;>exact Bt S' le' k'
    | cons e2 r =>
      dsimp only [AY,AZ,A_more] at h;refine WG.bind (ih e (.head _) ht.1 ok h G s a) fun G' b H' z s' e' S' l' le' r' k'=>?_;rw [<- show b=z from r'];cases b with
      | false=>exact Bt S' le' (k'.2 rfl)
      | true=>exact IH ht.2 (fun e he=>ih e (.tail _ he)) nofun ok (k'.1 rfl) (a.step e' S' l' le')
theorem all_or {K:Bool->Hp->Prop} {es:List Expr}:Aq es=true->(∀ e∈es,PT e)->es≠[]->EnvOk c env->∀ {H G s},vcOr d (AT c es) (asB K) X m H->At w B os A d env c.ls m H G s->WG w B os A (allTrue .Or es env) relB K X G s:=by
  induction es with
  | nil=>intro ht ih hn;exact absurd rfl hn
  | cons e r IH =>
    intro ht ih hn ok H G s h a;rw [DM,Bool.and_eq_true] at ht;rw [arm_allTrue_cons];cases r with
    | nil=>dsimp only [AY,AZ,O_one] at h;refine WG.bind (ih e (.head _) ht.1 ok h G s a) fun G' b H' z s' e' S' l' le' r' k'=>?_;rw [<- show b=z from r'];cases b<;>exact Bt S' le' k'
    | cons e2 r =>
      dsimp only [AY,AZ,O_more] at h;refine WG.bind (ih e (.head _) ht.1 ok h G s a) fun G' b H' z s' e' S' l' le' r' k'=>?_;rw [<- show b=z from r'];cases b with
      | true=>exact Bt S' le' (k'.1 rfl)
      | false=>exact IH ht.2 (fun e he=>ih e (.tail _ he)) nofun ok (k'.2 rfl) (a.step e' S' l' le')
theorem pt_bop {es:List Expr} (op:BoolOp) (p:Pos) (ih:∀ e∈es,PT e):PT (.BoolOp op es p):=by
  intro w B os A d env c K X m H ht ok h G s a;have ht:Aq es=true:=ht;refine wl (arm_isTrue_BoolOp ..) ?_;cases op with
  | And =>
    rw [Be] at h;dsimp only [E_and] at h;by_cases hn:es=[]
    . subst hn;exact False.elim h
    . exact all_and ht ih hn ok h a
  | Or =>
    rw [Be] at h;dsimp only [E_or] at h;by_cases hn:es=[]
    . subst hn;exact False.elim h
    . exact all_or ht ih hn ok h a
theorem bop_and {K:KV} {es:List Expr}:(∀ e∈es,PE e)->es≠[]->EnvOk c env->∀ {H G s},vcAnd d (AT c es) K X m H->At w B os A d env c.ls m H G s->WG w B os A (boolOp p .And (evalEach es env)) VR K X G s:=by
  induction es with
  | nil=>intro ih hn;exact absurd rfl hn
  | cons e r IH =>
    intro ih hn ok H G s h a;cases r with
    | nil=>dsimp only [AY,AZ,A_one] at h;exact ih e (.head _) ok h G s a
    | cons e2 r =>
      dsimp only [AY,AZ,A_more] at h;rw [arm_evalEach_cons,arm_evalEach_cons];refine WG.bind (ih e (.head _) ok h G s a) fun G' b H' z s' e' S' l' le' r' k'=>?_;refine WG.stand (wpAny_bind (wpAny_holding ?_));obtain ⟨t,rfl,k'z⟩:=aB_inv k';rw [show z = .bool t from r'];refine wpAny_truthy_bool ?_;cases t with
      | false=>exact CV (b:=.bool false) S' le' rfl (k'z.2 rfl)
      | true=>exact IH (fun e he=>ih e (.tail _ he)) nofun ok (k'z.1 rfl) (a.step e' S' l' le')
theorem bop_or {K:KV} {es:List Expr}:(∀ e∈es,PE e)->es≠[]->EnvOk c env->∀ {H G s},vcOr d (AT c es) K X m H->At w B os A d env c.ls m H G s->WG w B os A (boolOp p .Or (evalEach es env)) VR K X G s:=by
  induction es with
  | nil=>intro ih hn;exact absurd rfl hn
  | cons e r IH =>
    intro ih hn ok H G s h a;cases r with
    | nil=>dsimp only [AY,AZ,O_one] at h;exact ih e (.head _) ok h G s a
    | cons e2 r =>
      dsimp only [AY,AZ,O_more] at h;rw [arm_evalEach_cons,arm_evalEach_cons];refine WG.bind (ih e (.head _) ok h G s a) fun G' b H' z s' e' S' l' le' r' k'=>?_;refine WG.stand (wpAny_bind (wpAny_holding ?_));obtain ⟨t,rfl,k'z⟩:=aB_inv k';rw [show z = .bool t from r'];refine wpAny_truthy_bool ?_;cases t with
      | true=>exact CV (b:=.bool true) S' le' rfl (k'z.1 rfl)
      | false=>exact IH (fun e he=>ih e (.tail _ he)) nofun ok (k'z.2 rfl) (a.step e' S' l' le')
theorem pe_bop {es:List Expr} (op:BoolOp) (p:Pos) (ih:∀ e∈es,PE e):PE (.BoolOp op es p):=by
  intro w B os A d env c K X m H ok h G s a;refine wl (arm_eval_BoolOp ..) ?_;cases op with
  | And =>
    rw [Be] at h;dsimp only [E_and] at h;by_cases hn:es=[]
    . subst hn;exact False.elim h
    . exact bop_and ih hn ok h a
  | Or =>
    rw [Be] at h;dsimp only [E_or] at h;by_cases hn:es=[]
    . subst hn;exact False.elim h
    . exact bop_or ih hn ok h a
theorem pe_not {e:Expr} (p:Pos) (ih:PE e):PE (.UnaryOp .Not e p):=by intro w B os A d env c K X m H ok h G s a;rw [comp_Not] at h;dsimp only [E_not] at h;refine wl (arm_eval_UnaryOp ..) ?_;refine WG.bind (ih ok h G s a) fun G' b H' z s' e' S' l' le' r' k'=>?_;refine WG.stand (WG.hold ?_);obtain ⟨t,rfl,k'z⟩:=aB_inv k';cases (show z=_ from r');exact not_value (wpAny_truthy_bool (WG.now (b:=.bool !t) S' le' rfl k'z))
theorem pe_ite {t a b:Expr} (p:Pos) (iht:PT t) (iha:PE a) (ihb:PE b):PE (.IfExp t a b p):=by
  intro w B os A d env c K X m H ok h G s at';rw [comp_IfExp] at h;split at h
  . rename_i ht;dsimp only [E_ite] at h;rw [arm_eval_IfExp];refine WG.bind (iht ht ok h G s at') fun G' b' H' z s' e' S' l' le' r' k'=>?_;cases (show b'=z from r');cases b' with
    | true=>exact iha ok (k'.1 rfl) G' s' (at'.step e' S' l' le')
    | false=>exact ihb ok (k'.2 rfl) G' s' (at'.step e' S' l' le')
  . exact h.elim
theorem pl_list:∀ {es:List Expr},(∀ e∈es,PE e)->∀ {w:World} {B:Heap} {os:OsState} {A:Around} {d:Nat} {env:Env} {c:Sc} {K:List V->Hp->Prop} {X:KX} {m:Lm} {H:Hp} (pos:Pos),AP es=true->EnvOk c env->CE d (AT c es) K X m H ->
  ∀ G s,At w B os A d env c.ls m H G s->WG w B os A (spliced (backTo pos (starEach es env))) VRs K X G s:=by
  intro l
  induction l with
  | nil=>intro _ w B os A d env c K X m H pos _ ok h G s a;dsimp only [AZ,Es_nil] at h;exact wpAny_pure (WG.now (rel:=VRs) (b:=[]) a.sat a.le .nil h)
  | cons e r IH=>intro ih w B os A d env c K X m H pos hs ok h G s a;dsimp only [AY,Bf] at h;obtain ⟨he,hr⟩:=BB (env:=env) hs;refine wl (he ..) ?_;show WG w B os A (spliced ((false,eval e env)::backTo pos (starEach r env))) VRs K X G s;refine Calls.spliced_cons ?_;refine WG.on (WG.conv (ih e (.head _) ok h G s a)) (fun G' b H' z s' e' S' l' le' r' k'=>?_) fun Y Y e=>e;refine WG.on (IH (fun e he=>ih e (.tail _ he)) pos hr ok k' G' s' (a.step e' S' l' le')) (fun G2 bs H2 zs s2 e2 S2 l2 le2 r2 k2=>?_) fun Y Y p=>p.pre e' l';exact ⟨G2,b::bs,H2,e'.trans e2,S2,l'.trans e' l2,le2,.cons (r'.ext e2) r2,k2⟩
theorem pe_list {es:List Expr} (p:Pos) (ih:∀ e∈es,PE e):PE (.List es p):=by
  intro w B os A d env c K X m H ok h G s a;rw [comp_List] at h;split at h
  . rename_i hs;dsimp only [E_list] at h;refine wpAny_List (WG.on (pl_list ih p hs ok h G s a) (fun G' bs H' zs s' e' S' l' le' r' k'=>⟨?_,?_⟩) fun Y Y e=>e)
    . rw [<- r'.length];exact An k'.1
    . exact (PG.new (c:=.lst bs) S' le' rfl (fun G2 e2=>⟨zs,0,Heap.get?_push_size _ rfl,r'.ext e2⟩) k'.2).pre e' l'
  . exact h.elim
theorem pe_tup {es:List Expr} (k:Nat) (p:Pos) (ih:∀ e∈es,PE e):PE (.Tuple es k p):=by
  intro w B os A d env c K X m H ok h G s a;rw [comp_Tuple] at h;split at h
  . rename_i hs;dsimp only [E_tup] at h;refine wpAny_Tuple (WG.on (pl_list ih p hs ok h G s a) (fun G' bs H' zs s' e' S' l' le' r' k'=>⟨?_,?_⟩) fun Y Y e=>e)
    . rw [<- r'.length];exact An k'.1
    . exact (PG.newFz (c:=.tup bs) S' le' rfl (fun G2 e2=>⟨zs,0,Heap.get?_push_size _ rfl,r'.ext e2⟩) k'.2).pre e' l'
  . exact h.elim
end
def ExtB (D:Addr) (G G':Gh):Prop:=∀ a c,a≠D->G a=some c->(∀ v,c≠.mu v)->G' a=some c
theorem ExtB.upd (G:Gh) (D:Addr) (c:Cell):ExtB D G (upd G D c):=fun a c' h e Y=>by rw [AC h];exact e
section
variable {w:World} {B:Heap} {os:OsState} {A:Around} {d:Nat} {env:Env} {c:Sc} {K:KV} {X:KX} {m:Lm} {H:Hp} {G G':Gh} {s s':Shared} {x:Str} {p:Pos} {D:Addr} {o:Obj}
theorem VR.extB (e:ExtB D G G') (hD:G D=some (.rw o)):∀ {v:V} {x:Value},VR G v x->VR G' v x:=by
  intro v x h;have k:∀ {a:Addr} {v:V},G a=some (.fz v)->G' a=some (.fz v):=fun {a v} q=>e a _ (fun z=>by rw [z,hD] at q;cases q) q (fun Y z=>by cases z);cases v with
  | any | none | bool | int | str | ref | type | bi=>exact h
  | tup | lst | dct | obj=>obtain ⟨a,h1,h2⟩:=h;exact ⟨a,h1,k h2⟩
theorem VRs.extB (e:ExtB D G G') (hD:G D=some (.rw o)) {vs:List V} {xs:List Value} (h:VRs G vs xs):VRs G' vs xs:=by
  induction h with
  | nil=>exact .nil
  | cons h _ ih=>exact .cons (h.extB e hD) ih
theorem VKs.extB (e:ExtB D G G') (hD:G D=some (.rw o)) {vs:List (Str×V)} {xs:List (Str×Value)} (h:VKs G vs xs):VKs G' vs xs:=by
  induction h with
  | nil=>exact .nil
  | cons h _ ih=>exact .cons (h.extB e hD) ih
theorem OR.extB {h:Heap} {a:Addr} (e:ExtB D G G') (hD:G D=some (.rw o)):∀ {v:V},OR w G h a v->OR w G' h a v
  | .lst _,⟨i,n,h1,h2⟩=>⟨i,n,h1,h2.extB e hD⟩
  | .tup _,⟨i,n,h1,h2⟩=>⟨i,n,h1,h2.extB e hD⟩
  | .dct _,⟨s,k,h1,h2⟩=>⟨s,k,h1,h2.extB e hD⟩
  | .obj _ _,⟨dx,h1,k,h2,h4,h5,h6,h7⟩=>⟨dx,h1,k,e dx _ (fun z=>by rw [z,hD] at h2;cases h2) h2 (fun Y z=>by cases z),h4,h5,fun k v hv=>let ⟨x,a,b⟩:=h6 k v hv;⟨x,a,b.extB e hD⟩,h7⟩
  | .any,h | .none,h | .bool _,h | .int _,h | .str _,h | .ref _,h | .type _,h | .bi _,h=>h.elim
theorem OC.extB {h:Heap} {a:Addr} (e:ExtB D G G') (hD:G D=some (.rw o)):∀ {c:Cell},OC w G h a c->OC w G' h a c
  | .fz _,x=>OR.extB e hD x
  | .mu _,x=>OR.extB e hD x
  | .hid _,x | .rw _,x | .fr _,x | .lc,x | .ce,x=>x
  | .tb,x=>x.to (fun Y z=>z) fun q Y z=>e q _ (fun y=>by rw [y,hD] at z;cases z) z (fun Y y=>by cases y)
theorem Sat.raw (S:Sat w B os G s) (hD:G D=some (.rw o)) {c:Cell} (k:Heap.SameBut D s.heap s'.heap) (hc:OC w (Mine.upd G D c) s'.heap D c) (hg:s'.gens=s.gens) (ho:s'.os=s.os):Sat w B os (Mine.upd G D c) s':=by
  refine ⟨S.top,fun b o h=>?_,fun b c' h=>?_,hg.trans S.gens,ho.trans S.os,fun b q=>by rw [AC fun z=>by have:=S.tbs b q;rw [z,hD] at this;cases this];exact S.tbs b q⟩
  . have:b≠D:=fun q=>by subst q;have:=(S.cells b _ hD).1;rw [h] at this;cases this
    exact (k.2 b this).trans (S.base b o h)
  . by_cases q:b=D
    . subst q;rw [AA] at h;cases h;exact ⟨S.alone hD,hc⟩
    . rw [AC q] at h;refine ⟨S.alone h,((S.cells b c' h).2.keep (fun o z=>(k.2 b q).trans z) fun dx o' hd z=>?_).extB (ExtB.upd G D c) hD⟩;have:dx≠D:=fun q=>by subst q;rw [hD] at hd;cases hd
      exact (k.2 dx this).trans z
theorem Ext.raw {G₀:Gh} (e:Ext G₀ G) (h:G₀ D=none) (c:Cell):Ext G₀ (Mine.upd G D c):=fun a c' z n=>by
  have:a≠D:=fun q=>by rw [q,h] at z;cases z
  rw [AC this];exact e a c' z n
theorem Le.no (l:Le H G) (hD:G D=some (.rw o)):H D=none:=by
  cases h:H D with
  | none=>rfl
  | some v=>have:=l D v h;rw [hD] at this;cases this
theorem joins_ok {K:KV} {es:List Expr} {acc:Str} (ih:∀ e∈es,PE e) (ok:EnvOk c env) {H G s} (h:vcF d (AT c es) acc K X m H) (a:At w B os A d env c.ls m H G s) {Q:Str->Shared->Prop}
    (hq:∀ out s' G' H',Ext G G'->Sat w B os G' s'->LKeep G s.heap s'.heap->Le H' G'->out.length<=sizeLine->K (.str out) H'->Q out s') (hl:acc.length<=sizeLine):Joins (Mo w) A (PostX w B os G s.heap X) (evalEach es env) acc Q s:=by
  induction es generalizing acc H G s Q with
  | nil=>rw [AZ,F_nil] at h;exact hq acc s G H (.refl G) a.sat (.refl _ _) a.le hl h
  | cons e r IH =>
    rw [AY,F_cons] at h;refine wpAny_mono (ih e (.head _) ok h G s a) (fun z s' p=>?_) fun Y Y e=>e;obtain ⟨G',b,H',e',S',l',le',r',k'⟩:=p;obtain ⟨y,rfl,k1,k2⟩:=CU k';obtain ⟨t,rfl⟩:=r';have h1:(acc++y).length<=sizeLine:=by rw [strLen_append];exact An k1
    exact ⟨y,t,rfl,h1,joins_mono (fun x s'' p=>p.pre e' l') _ _ _ _ (IH (fun e he=>ih e (.tail _ he)) k2 (a.step e' S' l' le') (fun out s2 G2 H2 e2 S2 l2 le2 ol k=>hq out s2 G2 H2 (e'.trans e2) S2 (l'.trans e' l2) le2 ol k) h1)⟩
where
  joins_mono {M:Model} {A:Around} {E E':Value->Shared->Prop} (hE:∀ x s,E x s->E' x s):∀ (ps:List (Sem Value)) (acc:Str) (Q:Str->Shared->Prop) (s:Shared),Joins M A E ps acc Q s->Joins M A E' ps acc Q s
    | [],_,_,_,h=>h
    | _::r,acc,Q,s,h=>wpAny_mono h (fun v s₁ ⟨y,t,h1,h2,h3⟩=>⟨y,t,h1,h2,joins_mono hE r _ _ _ h3⟩) hE
set_option tactic.hygienic true in
theorem pe_fstr {es:List Expr} (p:Pos) (ih:∀ e∈es,PE e):PE (.JoinedStr es p):=by
  intro w B os A d env c K X m H ok h G s a;rw [CS] at h;split at h
  . rename_i v1 v2 r;dsimp only [E_fstr] at h;refine wpAny_JoinedStr (joins_ok ih ok h a (fun out s' G' H' e' S' l' le' ol k=>⟨ol,?_⟩) (by decide));exact (WG.now (b:=.str out) S' le' ⟨_,rfl⟩ k).pre e' l'
  . exact h.elim
theorem pe_fval {e:Expr} (p:Pos) (ih:PE e):PE (.FormattedValue e (-1) none p):=by
  intro w B os A d env c K X m H ok h G s a;rw [BK] at h;rw [if_pos (by decide)] at h;dsimp only [E_fval] at h;refine wpAny_FormattedValue_plain (wpAny_mono (ih ok h G s a) (fun z s' ⟨G',b,H',e',S',l',le',r',k'⟩=>?_) fun Y Y e=>e)
  . obtain ⟨y,rfl,k1,k2⟩:=CU k';obtain ⟨t,rfl⟩:=r';exact wpAny_formatField_str ((WG.now (b:=.str y) S' le' ⟨_,rfl⟩ k2).pre e' l') ((WG.now (b:=.str y) S' le' ⟨_,rfl⟩ k2).pre e' l') (An k1)
end
section
variable {w:World} {B:Heap} {os:OsState} {A:Around} {d:Nat} {env:Env} {c:Sc} {K:KV} {X:KX} {m:Lm} {H:Hp} {G G':Gh} {s s':Shared} {x:Str} {p:Pos} {D:Addr} {o:Obj}
theorem keyE_vc {e:Mine.X} {k:Str} (h:keyE m e=some k) {X:KX} {H:Hp}:vcE d e (fun x H'=>x = .str k/\H'=H) X m H:=by
  cases e<;>first | exact Option.noConfusion rfl (heq_of_eq h) | skip
  . exact ⟨Bo h,rfl⟩
  . obtain ⟨o,h1,h2⟩:=Option.bind_eq_some_iff.mp h;obtain ⟨v,rfl,h3⟩:=Option.bind_eq_some_iff.mp h2;refine wl (Df ..) ?_;exact wl (h1 ..) (⟨Bo h3,rfl⟩)
theorem keys_cons {k:Expr} {t:Mine.X} {l:List Str} (h:CB m (.cons (.opt (comp c k)) t)=some l):∃ k' l',CB m t=some l'/\l=k'::l'/\∀ {X:KX} {H:Hp},vcE d (comp c k) (fun x H'=>x = .str k'/\H'=H) X m H:=by obtain ⟨k',h1,h⟩:=Option.bind_eq_some_iff.mp h;obtain ⟨l',h2,rfl⟩:=Option.map_eq_some_iff.mp h;exact ⟨k',l',h2,rfl,keyE_vc h1⟩
inductive PrsPost (w:World) (B:Heap) (os:OsState) (G:Gh) (h:Heap) (l:List Str) (K:List V->Hp->Prop) (prs:List (Value×Value)) (s':Shared):Prop
  | mk (G':Gh) (vs:List V) (H':Hp) (kvs:List (Str×Value)) (e:Ext G G') (S:Sat w B os G' s') (lk:LKeep G h s'.heap) (le:Le H' G') (r:VRs G' vs (prs.map (·.2))) (c1:Carries (SK w) prs kvs) (c2:kvs.map (·.1)=l) (c3:kvs.map (·.2)=prs.map (·.2)) (k:K vs H')
theorem pairs_ok (ok:EnvOk c env) {keys:List (Option Expr)}:∀ {K:List V->Hp->Prop} {values:List Expr} {l:List Str} {H:Hp} {G:Gh} {s:Shared},CB m (compK c keys)=some l->keys.length=values.length->(∀ e,some e∈keys->PE e)->(∀ e∈values,PE e) ->
    CE d (AT c values) K X m H->At w B os A d env c.ls m H G s->wpAny (Mo w) A (evalPairs (pairTrees keys values env p)) (PrsPost w B os G s.heap l K) (PostX w B os G s.heap X) s:=by
  induction keys with
  | nil=>intro K values l H G s hk hl _ _ h a;cases hk;cases List.eq_nil_of_length_eq_zero hl.symm;rw [AZ,Es_nil] at h;exact evalPairs_nil ⟨G,[],H,[],.refl G,a.sat,.refl _ _,a.le,.nil,trivial,rfl,rfl,h⟩
  | cons k ks ih =>
    intro K values l H G s hk hl ihk ihv h a;cases values with
    | nil=>exact absurd hl (Nat.succ_ne_zero _)
    | cons v vs =>
      cases k with
      | none=>exact Option.noConfusion rfl (heq_of_eq hk)
      | some k=>obtain ⟨k',l',hk',rfl,hvk⟩:=keys_cons (d:=d) hk;rw [AY,Bf] at h;show wpAny (Mo w) A (evalPairs ((eval k env,do let x <- eval v env;standAt p;pure x)::pairTrees ks vs env p)) _ _ s;refine evalPairs_cons ?_;refine WG.on (ihk k (.head _) (K:=fun x H'=>x = .str k'/\H'=H) (X:=X) (m:=m) (H:=H) ok hvk G s a) (fun G1 b1 H1 kz s1 e1 S1 l1 le1 r1 k1=>?_) fun Y Y e=>e;obtain ⟨rfl,rfl⟩:=k1;obtain ⟨tk,rfl⟩:=r1;have a1:=a.step e1 S1 l1 le1;refine wpAny_bind (WG.on (WG.conv (ihv v (.head _) ok h G1 s1 a1)) (fun G2 b2 H2 vz s2 e2 S2 l2 le2 r2 k2=>?_) fun Y Y p=>p.pre e1 l1);refine wpAny_bind (wpAny_standAt (wpAny_pure ?_));refine wpAny_mono (ih hk' (Nat.succ.inj hl) (fun e he=>ihk e (.tail _ he)) (fun e he=>ihv e (.tail _ he)) k2 (a1.step e2 S2 l2 le2)) (fun prs s3 q=>?_) fun Y Y p=>(p.pre e2 l2).pre e1 l1;obtain ⟨G3,bs,H3,kvs,e3,S3,l3,le3,r3,c1,c2,c3,k3⟩:=q;exact ⟨G3,b2::bs,H3,(k',vz)::kvs,(e1.trans e2).trans e3,S3,(l1.trans e1 l2).trans (e1.trans e2) l3,le3,.cons (r2.ext e3) r3,⟨As k' tk,rfl,c1⟩,congrArg (k' :: ·) c2,congrArg (vz :: ·) c3,k3⟩
theorem puts_ok:∀ {kvs:List (Str×Value)} {l:List Str} {vs:List V} {es:List (Str×V)} {ac:List (Str×Value)},kvs.map (·.1)=l->VRs G vs (kvs.map (·.2))->VKs G es ac->VKs G (Cq es (l.zip vs)) (merged ac kvs):=by
  intro l
  induction l with
  | nil=>intro l vs es ac h1 h2 h3;cases h2;subst h1;exact h3
  | cons Q r IH =>
    obtain ⟨k,x⟩:=Q;intro l vs es ac h1 h2 h3;subst h1;cases h2 with
    | cons h t=>show VKs G (Cq (Mine.put _ k _) (List.zip (List.map (·.1) r) _)) (merged _ r);exact IH rfl t (h3.put k h)
theorem pe_dict {keys:List (Option Expr)} {values:List Expr} (p:Pos) (ihk:∀ e,some e∈keys->PE e) (ihv:∀ e∈values,PE e):PE (.Dict keys values p):=by
  intro w B os A d env c K X m H ok h G s a;replace h:=comp_Dict▸h;split at h
  . rename_i hl;have hl:keys.length=values.length:=by simpa using hl
    dsimp only [E_dict] at h
    . obtain ⟨l,hk,h15,h⟩:=AK h;have noS:(s.heap.objs.size == sysModules)=false:=by obtain ⟨h1,h2⟩:=main_at w.params;have:=Heap.lt_size (a.sat.keepTop h1);rw [beq_eq_false_iff_ne];intro q;replace this:=q▸this;exact absurd this (by decide)
      by_cases h0:keys=[]
      . subst h0;have hv:values=[]:=List.eq_nil_of_length_eq_zero (by simpa using hl.symm);subst hv;cases hk;replace h:=AZ▸h;replace h:=Es_nil▸h;exact wpAny_Dict_empty (PG.new (c:=.dct []) a.sat a.le rfl (fun G2 e2=>⟨noS,[],Heap.DictOf.new _,.nil⟩) h.2)
      . have lk:∀ {keys:List (Option Expr)} {l},CB m (compK c keys)=some l->keys.all (·.isSome)=true/\keys.length=l.length:=by
          intro keys
          induction keys with
          | nil=>intro l h;cases h;exact ⟨rfl,rfl⟩
          | cons k r ih =>
            intro l h;cases k with
            | none=>exact Option.noConfusion rfl (heq_of_eq h)
            | some k=>obtain ⟨k',l',h',rfl,-⟩:=keys_cons (d:=d) h;obtain ⟨i1,i2⟩:=ih h';exact ⟨by simpa using i1,by simp [i2]⟩
        obtain ⟨hall,hlen⟩:=lk hk;refine wpAny_Dict_walk (knd:=SK w) hall hl h0 (r_el ‹_› ‹_› (by decide)) ?_;have S1:=a.sat.push (c:=.rw {cls:=.type "dict",data:=.dict #[]}) (o:={cls:=.type "dict",data:=.dict #[]}) rfl (fun G' e=>Heap.get?_push_size _ rfl) (s':={s with heap:=s.heap.push {cls:=.type "dict",data:=.dict #[]}}) rfl rfl rfl;have e1:Ext G (Mine.upd G s.heap.objs.size (.rw {cls:=.type "dict",data:=.dict #[]})):=.upd_fresh a.sat.fresh;have kp:LKeep G s.heap (s.heap.push {cls:=.type "dict",data:=.dict #[]}):=.keeps fun b o e=>Heap.get?_push_of_some _ e;have a1:=a.step e1 S1 kp (a.le.other (a.le.fresh a.sat));refine wpAny_mono (pairs_ok ok hk hl ihk ihv h a1) (fun prs s3 q=>?_) fun Y Y p=>p.pre e1 kp;obtain ⟨G3,bs,H3,kvs,e3,S3,l3,le3,r3,c1,c2,c3,k3⟩:=q;have hD:G3 s.heap.objs.size=some (.rw {cls:=.type "dict",data:=.dict #[]}):=e3.rw (AA _ _ _);have hDo:=(S3.cells _ _ hD).2;refine ⟨kvs,c1,⟨_,#[],0,hDo,⟨rfl,rfl,rfl⟩,rfl,fun e he=>by simp at he,.nil,List.nodup_nil⟩,fun h' hd hs=>?_⟩;have e4:=ExtB.upd G3 s.heap.objs.size (.mu (.dct (Cq [] (l.zip bs))));have S4:=S3.raw (s':={s3 with heap:=h',toks:=s3.toks+prs.length}) hD (c:=.mu (.dct (Cq [] (l.zip bs)))) hs ⟨noS,_,hd,puts_ok c2 ((r3.extB e4 hD).cast c3.symm) .nil⟩ rfl rfl;refine ⟨_,.ref s.heap.objs.size,upd H3 s.heap.objs.size _,(e1.trans e3).raw a.sat.fresh _,S4,?_,le3.upd _ _,rfl,k3.2 _ (le3.no hD)⟩;exact (kp.trans e1 l3).trans (e1.trans e3) (.sameBut hs (by rw [hD];simp))
  . exact h.elim
end
theorem upd_entry:entryFor table "dict.update.loop" = some Builtin.«dict.update.loop»:=entryFor_of_tree (by kernel_rfl)
theorem CW:plainId "dict.update.loop" = true:=by decide +kernel
theorem keys_miss:typeLookup (.type "list") ("keys" : Str)=pure none:=am_miss_of_fast (by kernel_rfl)
section
variable {w:World} {B:Heap} {os:OsState} {A:Around} {G:Gh} {s:Shared} {E:Value->Shared->Prop}
theorem no_keys {a:Addr} {xs:Array Value} {k:Nat} {Q:Option Value->Shared->Prop} (hx:s.heap.get? a=some {cls:=.type "list",data:=.seq xs k}) (hA:A.handled=none)
    (h:∀ h' tk,(∀ b o,s.heap.get? b=some o->h'.get? b=some o)->Q none {s with heap:=h',toks:=tk}):wpAny (Mo w) A (getAttr? (.ref a) "keys") Q E s:=by
  obtain ⟨hp,g,d,tk,os⟩:=s;have hT:∀ tk',(⟨hp,g,d,tk',os⟩:Shared).TypeIs (.ref a) "list" := fun Y=>⟨_,hx,rfl⟩
  have f1:=sub_AttributeError;have f3:=F.slot_list_getattribute.lookup;have f4:=F.slot_list_getattribute.bind (.ref a);have f5:=am_list_getattr_none;unfold getAttr? getAttrBy? getAttrBy
  repeat (any_goals (first | assumption | exact hT _ | ((with_reducible show wpAny _ _ (call (Value.builtin "list.__getattribute__") _ _) _ _ _);refine call_meets F.slot_list_getattribute (hT _) am_entry_list_getattribute (F.args_list_getattribute_2 _ _) (meets_getattribute_miss_list a xs k #[] "keys" _ keys_miss (by decide +kernel) (by decide +kernel)) ⟨hx,hA,fun h' tk' e hx'=>?_⟩) | wp_step))
  obtain ⟨t',u',he⟩:=hx'.there;show wpAny _ _ (getattributeRaised _ _ _ _ _ _ _) _ _ _;unfold getattributeRaised
  repeat (any_goals (first | assumption | wp_step))
  exact h _ _ hx'.keeps
theorem pairItems_tup {a:Addr} {xs:Array Value} {n:Nat} {Q:List Value->Shared->Prop} (hx:s.heap.get? a=some {cls:=.type "tuple",data:=.seq xs n}) (h:Q xs.toList s):wpAny (Mo w) A (Builtin.Dict.pairItems (.ref a)) Q E s:=by unfold Builtin.Dict.pairItems;refine wpAny_bind (wpAny_typeOf ⟨_,hx,rfl⟩ ?_);exact wl (if_pos (by decide) ..) (wpAny_bind (wpAny_seqItems hx rfl (wpAny_pure h)))
inductive UpdI (w:World) (s₀:Shared) (G:Gh) (it d:Addr) (items:List Value) (l:Addr) (k i:Nat) (l' es:List (Str×V)) (s:Shared):Prop
  | mk (xs:List V) (kvs:List (Str×Value)) (hk:i+k=items.length) (vr:VRs G xs (items.drop i)) (hp:Bh xs=some l') (vk:VKs G es kvs) (hz:es.length+k<=2000000) (kp:∀ b o,s₀.heap.get? b=some o->s.heap.get? b=some o) (hit:s.heap.IsListIter it l i) (hd:s.heap.DictOf (SK w) d kvs)
theorem put_len1 {es:List (Str×V)} {ky:Str} {y:V}:(put es ky y).length<=es.length+1:=by
  unfold Mine.put;split
  . rw [List.length_map];exact Nat.le_succ _
  . rw [List.length_append];exact Nat.le_refl _
theorem upd_loop {it l d:Addr} {items:List Value} {n0:Nat} {s₀:Shared} {R:Result->Shared->Prop} (S:Sat w B os G s₀) (hh:A.handled=none) (g1:s₀.heap.objs.size<=d) (g2:s₀.heap.objs.size<=it) (n1:it≠d) (hl:IsL s₀.heap l items.toArray n0) (k:Nat) :
    ∀ {i:Nat} {l' es:List (Str×V)} {s:Shared},UpdI w s₀ G it d items l k i l' es s ->
      (∀ h' tk kvs',(∀ b o,s₀.heap.get? b=some o->h'.get? b=some o)->h'.DictOf (SK w) d kvs'->VKs G (Cq es l') kvs'->R (.ok (.ret .none)) {s with heap:=h',toks:=tk}) ->
      codeAny (Mo w) A (.builtin "dict.update.loop" ⟨[.ref d,.ref it,.int i 0,.none],[]⟩) R s:=by
  have nit:∀ {b:Addr} {o:Obj},s₀.heap.get? b=some o->b≠it:=fun e q=>absurd (Heap.lt_size e) (Nat.not_lt.mpr (q▸g2));have nd:∀ {b:Addr} {o:Obj},s₀.heap.get? b=some o->b≠d:=fun e q=>absurd (Heap.lt_size e) (Nat.not_lt.mpr (q▸g1))
  induction k with
  | zero=>rintro i l' es s ⟨xs,kvs,hk,vr,hp,vk,hz,kp,hit,hd⟩ hR;cases (show i=items.length from hk);replace vr:=List.drop_length▸vr;cases vr;cases hp;refine codeAny_builtin upd_entry ?_;refine wl (Around.under_plainId CW _ ..) ?_;show wpAny _ A.in1 (pyNext (.ref it) >>= _) _ _ s;refine wpAny_bind (wpAny_pyNext_list_end hh hit ⟨_,kp _ _ hl,rfl,n0,rfl⟩ (by simp) fun h' hx=>?_);have keep:∀ b o,s₀.heap.get? b=some o->h'.get? b=some o:=fun b o e=>hx b o (nit e) (kp b o e);show wpAny _ A.in1 (Builtin.Dict.addKeywords d [] >>= _) _ _ _;obtain ⟨od,es0,ep,ho,r⟩:=hd;exact wpAny_bind (wpAny_pure (wpAny_pure (hR h' s.toks kvs keep ⟨od,es0,ep,hx _ _ n1.symm ho,r⟩ vk)))
  | succ k ih =>
    rintro i l' es s ⟨xs,kvs,hk,vr,hp,vk,hz,kp,hit,hd⟩ hR;have hk':i+1+k=items.length:=by rw [<- hk,Nat.add_assoc,Nat.add_comm 1 k]
    have hi:i<items.length:=Nat.lt_of_lt_of_le (Nat.lt_succ_self i) (hk'▸Nat.le_add_right _ _);replace vr:=List.drop_eq_getElem_cons hi▸vr;have hv:items.toArray[i]?=some items[i]:=by simp
    generalize items[i]=x at vr hv;cases vr with
    | @cons v _ vs _ rx rt =>
      obtain ⟨⟨ky,y⟩,hq,hp⟩:=Option.bind_eq_some_iff.mp hp;obtain ⟨l2,hp',rfl⟩:=Option.map_eq_some_iff.mp hp;rw [show v = .tup [.str ky,y] from pr_inv hq] at rx;obtain ⟨a,rfl,ga⟩:=rx;obtain ⟨its,n,ho,vi⟩:=(S.cells a _ ga).2;cases vi with | @cons _ z _ zs hz1 hz2 =>
      cases hz2 with | @cons _ z2 _ zs2 hz3 hz4 =>
      cases hz4;obtain ⟨t,rfl⟩:=hz1;refine codeAny_builtin upd_entry ?_;refine wl (Around.under_plainId CW _ ..) ?_;show wpAny _ A.in1 (pyNext (.ref it) >>= _) _ _ s;refine wpAny_bind (wpAny_pyNext_list_item hit ⟨_,kp _ _ hl,rfl,n0,rfl⟩ hv fun h1 hit1 hs1=>?_);have kp1:∀ b o,s₀.heap.get? b=some o->h1.get? b=some o:=fun b o e=>(hs1.2 b (nit e)).trans (kp b o e);have hlen:=vk.length;refine wpAny_bind (wpAny_holding (wpAny_bind (wpAny_tryCatch (pairItems_tup (kp1 _ _ ho) ?_))));refine wpAny_holding ?_;refine wpAny_dictSet_pairs (knd:=SK w) (k:=ky) (kvs:=kvs) (by show (ky == ky)=true;simp) (hd.sameBut hs1 n1.symm) (fun h2 hd2 hs2=>?_) (by rw [<- hlen,sizeLine_eq];exact r_pl ‹_› (by decide));refine wpAny_pure ⟨plainId_quiet CW _,?_⟩;obtain ⟨oi,i1,i2,i3⟩:=hit1;exact ih ⟨vs,_,hk',rt,hp',vk.put ky hz3,Nat.le_trans (Nat.add_le_add_right put_len1 k) (by rw [Nat.add_assoc,Nat.add_comm 1 k];exact hz),fun b o e=>(hs2.2 b (nd e)).trans (kp1 b o e),⟨oi,(hs2.2 _ n1).trans i1,i2,i3⟩,hd2⟩ hR
theorem dict_pairs {l:Addr} {items:List Value} {n0:Nat} {xs:List V} {l':List (Str×V)} {Q:Value->Shared->Prop} (S:Sat w B os G s) (hh:A.handled=none) (hl:IsL s.heap l items.toArray n0) (vr:VRs G xs items) (hp:Bh xs=some l') (hz:items.length<=1000000)
    (q:∀ h' tk kvs',(∀ b o,s.heap.get? b=some o->h'.get? b=some o)->h'.DictOf (SK w) s.heap.objs.size kvs'->VKs G (Cq [] l') kvs'->Q (.ref s.heap.objs.size) {s with heap:=h',toks:=tk}) :
    wpAny (Mo w) A (call (.type "dict") [.ref l]) Q E s:=by
  refine callType_codes (Q₁:=fun obj s₁=>obj = .ref s.heap.objs.size/\s₁={s with heap:=s.heap.push {cls:=.type "dict",data:=.dict #[]}}) F.kt_called_dict (F.kt_typeCall_dict_1 _) F.entry_dict_init (kt_code_dict_new _ ⟨rfl,rfl⟩) ?_;rintro obj s₁ ⟨rfl,rfl⟩;have hnew:(s.heap.push {cls:=.type "dict",data:=.dict #[]}).DictOf (SK w) s.heap.objs.size []:=Heap.DictOf.new s.heap;have k1:∀ b o,s.heap.get? b=some o->(s.heap.push {cls:=.type "dict",data:=.dict #[]}).get? b=some o:=fun b o e=>Heap.get?_push_of_some _ e;refine ⟨hnew.typeIs,F.args_dict_init_2 _ _,?_⟩;unfold Builtin.«dict.__init__»;refine wpAny_bind ?_;unfold Builtin.Dict.selfAndRest;refine wpAny_bind (wpAny_notOrdered_dict hnew.typeIs ?_);show wpAny _ _ (pure (s.heap.objs.size,[Value.ref l])) _ _ _;refine wpAny_pure ?_;show wpAny _ _ (Builtin.Dict.updateFrom "dict.__init__" s.heap.objs.size (.ref l) [] .none) _ _ _;unfold Builtin.Dict.updateFrom;refine wpAny_bind (wpAny_typeOf (T := "list") ⟨_,k1 _ _ hl,rfl⟩ ?_);refine wl (if_pos (by decide) ..) ?_;refine wpAny_bind (no_keys (k1 _ _ hl) hh fun h1 tk1 kp1=>?_);refine wl (if_pos (by decide) ..) ?_;refine wpAny_bind (wpAny_rule ?_);have kl:∀ b o,s.heap.get? b=some o->h1.get? b=some o:=fun b o e=>kp1 b o (k1 b o e);have szd:s.heap.objs.size<h1.objs.size:=by obtain ⟨od,es0,ep,ho,r⟩:=hnew;exact Heap.lt_size (kp1 _ _ ho)
  refine wpAny_bind (wpAny_pyIter_list ⟨_,kl _ _ hl,rfl,n0,rfl⟩ ?_);refine wpAny_pure ⟨plainId_quiet CW _,?_⟩;obtain ⟨od,es0,ep,ho,r⟩:=hnew;exact upd_loop (A:=A.in1) (R:=wants (fun r s₂=>r = .none/\Q (.ref s.heap.objs.size) s₂) E) S hh (Nat.le_refl _) (Nat.le_of_lt szd) (Nat.ne_of_gt szd) hl items.length (i:=0) (l':=l') (es:=[]) (s:={s with heap:=h1.push {cls:=.type "list_iterator",data:=.fields #[.ref l,.int 0 0]},toks:=tk1}) ⟨xs,[],Nat.zero_add _,vr,hp,.nil,by simp;exact AN ‹_› (by decide),fun b o e=>Heap.get?_push_of_some _ (kl b o e),⟨_,Heap.get?_push_size _ rfl,rfl,rfl⟩,⟨od,es0,ep,Heap.get?_push_of_some _ (kp1 _ _ ho),r⟩⟩
    fun h' tk kvs' kp hd vk=>⟨rfl,q h' tk kvs' kp hd vk⟩
end
theorem keep_gl (p:Params):(glL.all fun q=>keepIn (KF p) (.ref q.2))=true:=by kernel_rfl
theorem keep_m (p:Params):(mthL.all fun q=>keepIn (KF p) (.ref q.2.2) && (match findIn (KF p) (.ref q.1) (DP q.2.1) with | some (some (.ref f))=>f == q.2.2 | _=>false) && (typeIn (KF p) (.ref q.2.2) == some (.type "function")) && clsP.contains q.1 && (List.range flds.length).all fun k => !decide (fld k=DP q.2.1))=true:=by kernel_rfl
section
variable {w:World} {B:Heap} {os:OsState} {A:Around} {d:Nat} {env:Env} {c:Sc} {K:KV} {X:KX} {m:Lm} {H:Hp} {G G':Gh} {s s':Shared} {x:Str} {p:Pos} {D:Addr} {o:Obj}
theorem AJ {es:List Expr} (hs:AP es=true) (pos:Pos) (env:Env):(backTo pos (starEach es env)).any (·.1)=false:=by
  induction es with
  | nil=>rfl
  | cons e r ih=>obtain ⟨he,hr⟩:=BB (env:=env) hs;refine wl (he ..) ?_;show (false || (backTo pos (starEach r env)).any (·.1))=false;rw [ih hr];rfl
theorem AW {es:List Expr} {f:Value} (hs:AP es=true) {E:Value->Shared->Prop} {Q:Args->Shared->Prop} (h:wpAny (Mo w) A (spliced (backTo p (starEach es env))) (fun vs s'=>Q ⟨vs,[]⟩ s') E s):wpAny (Mo w) A (evalArgs f true (backTo p (starEach es env)) []) Q E s:=by
  cases es with
  | nil=>unfold evalArgs;show wpAny _ A (spliced [] >>= _) Q E s;refine wpAny_bind (wpAny_mono h (fun vs s' q=>?_) fun Y Y e=>e);exact wpAny_bind (wpAny_pure (wpAny_holding (wpAny_bind (wpAny_pure (wpAny_bind (wpAny_pure (wpAny_pure q)))))))
  | cons e r=>rw [(BB hs).1] at h ⊢;exact Calls.evalArgs_plain h
set_option tactic.hygienic true in
theorem fn_glob {K:V->Hp->Prop} (h:vcE d (c.fn x) K X m H):∃ v,(x == ("__debug__" : Str))=false/\c.glob x=true/\c.gl x=some v/\K v H:=by
  unfold Sc.fn at h;split at h
  . exact h.elim
  . rename_i hd;rw [Bool.not_eq_true,Bool.or_eq_false_iff,Bool.or_eq_false_iff] at hd;split at h
    . rename_i hg;split at h
      . rename_i v hv;dsimp only [E_glb] at h;exact ⟨v,hd.1.1,hg,hv,h⟩
      . exact h.elim
    . exact h.elim
theorem gl_keep (p:Params) {v:V} (h:gl x=some v):∃ a,v = .ref a/\keepIn (KF p) (.ref a)=true:=by obtain ⟨q,hq,rfl⟩:=Option.map_eq_some_iff.mp h;exact ⟨q.2,rfl,List.all_eq_true.mp (keep_gl p) q (List.mem_of_find?_eq_some hq)⟩
theorem call_ok {es:List Expr} {np:Pos} (ih:∀ e∈es,PE e) (ok:EnvOk c env) (hs:AP es=true) (h:vcE d (c.fn x) (fun fv=>CE d (AT c es) (fun vs=>AD d fv vs K X) X m) X m H) (a:At w B os A d env c.ls m H G s) :
    WG w B os A (eval (.Call (.Name x np) es [] p) env) VR K X G s:=by
  obtain ⟨v,hd,hg,hv,h⟩:=fn_glob h;have hv':gl x=some v:=ok.gl▸hv;obtain ⟨fa,rfl,hk⟩:=gl_keep w.params hv';refine wpAny_Call_NameR ?_;refine glob_ok a.sat a.loc.globs a.loc.kind (BO ok hg) hd hv' fun y r=>?_;cases (show y = .ref fa from r);refine callWith_of (P:=fun h=>(KF w.params).In h) (by rw [AJ hs];rfl) (keeps_K hk) (AW hs ?_);refine WG.on (pl_list ih p hs ok h G s a) (fun G' bs H' zs s' e' S' l' le' r' k'=>⟨S'.kf,?_⟩) fun Y Y e=>e;exact wpAny_mono (k' w B os A G' s' (.ref fa) zs S' (a.cx.ext e') le' rfl r') (fun Y Y q=>PG.pre e' l' q) fun Y Y q=>q.pre e' l'
theorem is_blt {n:String} (h:c.builtin x n=true):x=Str.ofString n/\c.glob x=true/\(x == ("__debug__" : Str))=false:=by unfold Sc.builtin at h;simp only [Bool.and_eq_true,decide_eq_true_eq,Bool.not_eq_true'] at h;exact ⟨h.1.1.1,h.1.1.2,h.2⟩
theorem CY {e:Expr} {np:Pos} {n:String} {v:Value} {E:Value->Shared->Prop} {Q:Value->Shared->Prop} (ok:EnvOk c env) (hs:AP [e]=true) (hn:c.builtin x n=true) (hq:(n,v)∈bltL) (a:At w B os A d env c.ls m H G s)
    (h:wpAny (Mo w) A (eval e env) (fun z s'=>wpAny (Mo w) A (call v [z]) Q E s') E s):wpAny (Mo w) A (eval (.Call (.Name x np) [e] [] p) env) Q E s:=by
  obtain ⟨h1,h2,h3⟩:=is_blt hn;have he:starEach [e] env=[(false,eval e env)]:=(BB hs).1;refine wpAny_Call_NameR ?_;refine blt_ok (q:=(n,v)) a.sat a.loc.globs a.loc.blts a.loc.kind (BO ok h2) h3 hq h1 ?_;have T:wpAny (Mo w) A (spliced (backTo p (starEach [e] env))) (fun vs s'=>wpAny (Mo w) A (call v vs) Q E s') E s:=by rw [he];exact Calls.spliced_cons (wpAny_mono h (fun z s' q=>Calls.spliced_nil q) fun Y Y e=>e)
  simp only [bltL,List.mem_cons,Prod.mk.injEq,List.not_mem_nil,or_false] at hq;rcases hq with ⟨_,rfl⟩ | ⟨_,rfl⟩ | ⟨_,rfl⟩ | ⟨_,rfl⟩ | ⟨_,rfl⟩ | ⟨_,rfl⟩ | ⟨_,rfl⟩
  . exact Calls.callWith_builtin (AJ hs p env) (AW hs T)
  . exact PySem.callWith_type (AJ hs p env) (AW hs T)
  . exact PySem.callWith_type (AJ hs p env) (AW hs T)
  . exact PySem.callWith_type (AJ hs p env) (AW hs T)
  . exact PySem.callWith_type (AJ hs p env) (AW hs T)
  . exact Calls.callWith_builtin (AJ hs p env) (AW hs T)
  . exact Calls.callWith_builtin (AJ hs p env) (AW hs T)
theorem two_blt {e f:Expr} {np:Pos} {n:String} {v:Value} {E:Value->Shared->Prop} {Q:Value->Shared->Prop} (ok:EnvOk c env) (hs:AP [e,f]=true) (hn:c.builtin x n=true) (hq:(n,v)∈bltL) (a:At w B os A d env c.ls m H G s)
    (h:wpAny (Mo w) A (eval e env) (fun z s'=>wpAny (Mo w) A (eval f env) (fun z' s''=>wpAny (Mo w) A (call v [z,z']) Q E s'') E s') E s):wpAny (Mo w) A (eval (.Call (.Name x np) [e,f] [] p) env) Q E s:=by
  obtain ⟨h1,h2,h3⟩:=is_blt hn;have he:starEach [e,f] env=[(false,eval e env),(false,eval f env)]:=by obtain ⟨z,hf⟩:=BB (env:=env) hs;rw [z,(BB hf).1];rfl
  refine wpAny_Call_NameR ?_;refine blt_ok (q:=(n,v)) a.sat a.loc.globs a.loc.blts a.loc.kind (BO ok h2) h3 hq h1 ?_;have T:wpAny (Mo w) A (spliced (backTo p (starEach [e,f] env))) (fun vs s'=>wpAny (Mo w) A (call v vs) Q E s') E s:=by rw [he];exact Calls.spliced_cons (wpAny_mono h (fun z s' q=>Calls.spliced_cons (wpAny_mono q (fun z' s'' q=>Calls.spliced_nil q) fun Y Y e=>e)) fun Y Y e=>e)
  simp only [bltL,List.mem_cons,Prod.mk.injEq,List.not_mem_nil,or_false] at hq;rcases hq with ⟨_,rfl⟩ | ⟨_,rfl⟩ | ⟨_,rfl⟩ | ⟨_,rfl⟩ | ⟨_,rfl⟩ | ⟨_,rfl⟩ | ⟨_,rfl⟩
  . exact Calls.callWith_builtin (AJ hs p env) (AW hs T)
  . exact PySem.callWith_type (AJ hs p env) (AW hs T)
  . exact PySem.callWith_type (AJ hs p env) (AW hs T)
  . exact PySem.callWith_type (AJ hs p env) (AW hs T)
  . exact PySem.callWith_type (AJ hs p env) (AW hs T)
  . exact Calls.callWith_builtin (AJ hs p env) (AW hs T)
  . exact Calls.callWith_builtin (AJ hs p env) (AW hs T)
theorem Sat.noS (S:Sat w B os G s):(s.heap.objs.size == sysModules)=false:=by rw [beq_eq_false_iff_ne];exact fun q=>absurd (q▸Heap.lt_size (S.keepTop (main_at w.params).1)) (by decide)
theorem mkd_ok {v:V} {z:Value} (hh:0<d) (cx:Cx A d G) (S:Sat w B os G s) (l:Le H G) (r:VR G v z) (k:mkdV v K H):WG w B os A (call (.type "dict") [z]) VR K X G s:=by
  obtain ⟨c,h,k⟩:=AK k;cases c<;>first | exact False.elim k | skip
  . obtain ⟨hz,k⟩:=k;obtain ⟨l',hp,k⟩:=AK k;obtain ⟨q,items,n,rfl,h1,h2,-⟩:=Am S l r h;refine dict_pairs S (cx.handled hh) h1 h2 hp (by rw [<- h2.length];exact hz) fun h' tk kvs' kp hd vk=>?_;exact PG.newAt (c:=.dct (Cq [] l')) S l (Nat.le_refl _) kp (fun G' e=>⟨S.noS,kvs',hd,vk.ext e⟩) k
  . obtain ⟨q,kvs,rfl,h0,h1,h2,-⟩:=Dt S l r h;refine kt_call_dict (knd:=SK w) h0 h1 (by rw [<- h2.length];exact An k.1) fun h' hd hs=>?_;refine PG.newAt (c:=.dct _) S l (Nat.le_refl _) (fun b o e=>?_) (fun G' e=>⟨S.noS,kvs,hd,h2.ext e⟩) k.2;exact (hs.2 b (Nat.ne_of_lt (Heap.lt_size e))).trans (Heap.get?_push_of_some _ e)
theorem isi_ok {v:V} {z:Value} {C:Addr} (S:Sat w B os G s) (l:Le H G) (r:VR G v z) {es:List (Nat×V)} (h:look H v=some (.obj C es)) (k:K (.bool true) H):WG w B os A (call (.builtin "isinstance") [z,.ref C]) VR K X G s:=by obtain ⟨q,rfl,o,_⟩:=obj_at S l r h;obtain ⟨ox,od,dx,mm,I,_⟩:=DR o;refine isi_call (t:=.ref C) S.kf (fun M=>I.type) (by unfold isIn;simp) (fun e=>by cases e) (WG.now (b:=.bool true) S l rfl k)
end
section
variable {w:World} {B:Heap} {os:OsState} {A:Around} {d:Nat} {env:Env} {c:Sc} {K:KV} {X:KX} {m:Lm} {H:Hp} {G G':Gh} {s s':Shared} {x:Str} {p:Pos} {D:Addr} {o:Obj}
theorem pe_one {e:Expr} {np:Pos} (ih:PE e) (ok:EnvOk c env) (hs:AP [e]=true) (h:vcE d (one1 c x (comp c e)) K X m H) (G:Gh) (s:Shared) (a:At w B os A d env c.ls m H G s):WG w B os A (eval (.Call (.Name x np) [e] [] p) env) VR K X G s:=by
  unfold one1 at h;split at h
  . rename_i hn;dsimp only [E_len] at h;exact CY ok hs hn (by simp [bltL]) a (WG.bind' (ih ok h G s a) fun G' b H' z s' e' S' l' le' r' k'=>len_ok S' le' r' k')
  . split at h
    . rename_i hn;dsimp only [E_mkl] at h;exact CY ok hs hn (by simp [bltL]) a (WG.bind' (ih ok h G s a) fun G' b H' z s' e' S' l' le' r' k'=>mkl_ok S' le' r' k')
    . split at h
      . rename_i hn;dsimp only [E_mkd] at h;exact CY ok hs hn (by simp [bltL]) a (WG.bind' (ih ok h G s a) fun G' b H' z s' e' S' l' le' r' k'=>mkd_ok k'.1 (a.cx.ext e') S' le' r' k'.2)
      . split at h
        . exact h.elim
        . split at h
          . exact h.elim
          . dsimp only [Dy] at h;exact call_ok (es:=[e]) (fun e' he=>by simp at he;exact he▸ih) ok hs h a
theorem pe_two {e f:Expr} {np:Pos} (ihe:PE e) (ihf:PE f) (ok:EnvOk c env) (hs:AP [e,f]=true) (h:vcE d (two2 c x (comp c e) (comp c f)) K X m H) (G:Gh) (s:Shared) (a:At w B os A d env c.ls m H G s):WG w B os A (eval (.Call (.Name x np) [e,f] [] p) env) VR K X G s:=by
  unfold two2 at h;split at h
  . rename_i hn;dsimp only [E_max] at h;refine two_blt (v:=.builtin "max") ok hs hn (by simp [bltL]) a (WG.on (ihe ok h G s a) (fun G' b H' z s' e' S' l' le' r' k'=>?_) fun Y Y x=>x);refine WG.on (ihf ok k' G' s' (a.step e' S' l' le')) (fun G2 b2 H2 z2 s2 e2 S2 l2 le2 r2 k2=>?_) fun Y Y x=>x.pre e' l';obtain ⟨i,j,rfl,rfl,k3⟩:=Bm k2;exact wpAny_mono (max_ok (X:=X) (a.cx.handled k3.1) S2 le2 (r'.ext e2) r2 k3.2) (fun Y Y x=>(x.pre e2 l2).pre e' l') fun Y Y x=>(x.pre e2 l2).pre e' l'
  . split at h
    . rename_i hn;split at h
      . rename_i C hf;dsimp only [E_isi] at h;refine two_blt (v:=.builtin "isinstance") ok hs hn (by simp [bltL]) a (WG.on (ihe ok h G s a) (fun G' b H' z s' e' S' l' le' r' k'=>?_) fun Y Y x=>x);have P2:=ihf (K:=fun v H2=>v = .ref C/\H2=H') (X:=X) (m:=m) (H:=H') ok (by rw [hf];dsimp only [E_glb];exact ⟨rfl,rfl⟩) G' s' (a.step e' S' l' le');refine WG.on P2 (fun G2 b2 H2 z2 s2 e2 S2 l2 le2 r2 k2=>?_) fun Y Y x=>x.pre e' l';obtain ⟨rfl,rfl⟩:=k2;cases (show z2=_ from r2);obtain ⟨c2,hl,k3⟩:=AK k';obtain ⟨D,es,rfl,k4⟩:=aO_inv k3
        . obtain ⟨rfl,k9⟩:=k4;exact wpAny_mono (isi_ok (X:=X) S2 le2 (r'.ext e2) hl k9) (fun Y Y x=>(x.pre e2 l2).pre e' l') fun Y Y x=>(x.pre e2 l2).pre e' l'
      . exact h.elim
    . dsimp only [Dy] at h;exact call_ok (es:=[e,f]) (fun e' he=>by simp at he;rcases he with rfl | rfl<;>assumption) ok hs h a
theorem pe_call {es:List Expr} (np p:Pos) (ih:∀ e∈es,PE e):PE (.Call (.Name x np) es [] p):=by
  intro w B os A d env c K X m H ok h G s a
  match es,ih,h with
  | [e],ih,h =>
    rw [By] at h;split at h
    . rename_i hs;exact pe_one (ih e (.head _)) ok hs h G s a
    . exact h.elim
  | [e,f],ih,h =>
    rw [comp_call2] at h;split at h
    . rename_i hs;exact pe_two (ih e (.head _)) (ih f (.tail _ (.head _))) ok hs h G s a
    . exact h.elim
  | [],ih,h =>
    rw [comp_call0] at h;split at h
    . rename_i hs;dsimp only [Dy] at h;exact call_ok ih ok (Bool.and_eq_true_iff.mp hs).1 h a
    . exact h.elim
  | e::f::g::r,ih,h =>
    rw [comp_call3] at h;split at h
    . rename_i hs;dsimp only [Dy] at h;exact call_ok ih ok (Bool.and_eq_true_iff.mp hs).1 h a
    . exact h.elim
def relO (G:Gh) (b:Option V) (z:Value):Prop:=match b with
  | none=>z = .none
  | some v=>VR G v z
theorem part_ok {e:Option Expr} {K:Option V->Hp->Prop} (ih:∀ e',e=some e'->PE e') (ok:EnvOk c env) (h:vcO d (compO c e) K X m H) (G:Gh) (s:Shared) (a:At w B os A d env c.ls m H G s):WG w B os A (evalPart e env) relO K X G s:=by
  cases e with
  | none=>exact wpAny_pure (WG.now (rel:=relO) (b:=none) a.sat a.le rfl h)
  | some e=>exact WG.on (ih e rfl ok h G s a) (fun G' b H' z s' e' S' l' le' r' k'=>⟨G',some b,H',e',S',l',le',r',k'⟩) fun Y Y e=>e
theorem cut_ok {xs ys:List V} {items:List Value} {a b:Option V} {za zb:Value} (h:cutV xs a b=some ys) (r:VRs G xs items) (ra:relO G a za) (rb:relO G b zb):∃ lo hi,IsPart za lo/\IsPart zb hi/\∃ its:List Value,slicePick items.toArray lo hi none=its.toArray/\VRs G ys its:=by
  have nat:∀ {j:Int},0<=j->((j.toNat:Nat):Int)=j:=Int.toNat_of_nonneg;cases a with
  | none =>
    cases (show za=_ from ra);cases b with
    | none=>cases h;cases (show zb=_ from rb);exact ⟨none,none,.none,.none,items,slicePick_all _,r⟩
    | some v=>obtain ⟨j,hj,h⟩:=Option.bind_eq_some_iff.mp h;obtain ⟨h0,h⟩:=ite_some h;cases h;rw [Dl hj] at rb;obtain ⟨t,rfl⟩:=rb;refine ⟨none,some j,.none,.int j t,items.take j.toNat,?_,r.take _⟩;have:=slicePick_upto' items.toArray j.toNat;rw [nat h0] at this;simpa using this
  | some v =>
    cases b with
    | some _=>cases h
    | none=>cases (show zb=_ from rb);obtain ⟨i,hi,h⟩:=Option.bind_eq_some_iff.mp h;obtain ⟨h0,h⟩:=ite_some h;cases h;rw [Dl hi] at ra;obtain ⟨t,rfl⟩:=ra;refine ⟨some i,none,.int i t,.none,items.drop i.toNat,?_,r.drop _⟩;have:=slicePick_from' items.toArray i.toNat;rw [nat h0] at this;simpa using this
theorem relO.ext {b:Option V} {z:Value} (e:Ext G G') (h:relO G b z):relO G' b z:=by
  cases b with
  | none=>exact h
  | some v=>exact VR.ext e h
theorem pe_slc {o:Expr} {lo hi:Option Expr} (q p:Pos) (iho:PE o) (ihl:∀ e,lo=some e->PE e) (ihh:∀ e,hi=some e->PE e):PE (.Subscript o (.Slice lo hi none q) p):=by
  intro w B os A d env c K X m H ok h G s a;rw [comp_Slice] at h;dsimp only [E_slc] at h;refine wl (arm_eval_Subscript ..) ?_;refine WG.bind (iho ok h G s a) fun G1 b1 H1 z s1 e1 S1 l1 le1 r1 k1=>?_;have a1:=a.step e1 S1 l1 le1;refine wpAny_bind (wpAny_holding (wpAny_Slice ?_));refine WG.on (part_ok ihl ok k1 G1 s1 a1) (fun G2 b2 H2 za s2 e2 S2 l2 le2 r2 k2=>?_) fun Y Y x=>x;have a2:=a1.step e2 S2 l2 le2;refine WG.on (part_ok ihh ok k2 G2 s2 a2) (fun G3 b3 H3 zb s3 e3 S3 l3 le3 r3 k3=>?_) fun Y Y x=>x.pre e2 l2;refine wpAny_pure ?_;obtain ⟨c3,hx,k4⟩:=AK k3;obtain ⟨xs,rfl,k30,k5⟩:=BZ k4
  . obtain ⟨ys,hy,k6⟩:=AK k5
    . obtain ⟨pa,items,n,rfl,h1,h2,-⟩:=Am S3 le3 ((r1.ext e2).ext e3) hx;obtain ⟨lo',hi',p1,p2,its,p3,p4⟩:=cut_ok hy h2 (r2.ext e3) r3;have hs:(s3.heap.push {cls:=.type "slice",data:=.fields #[za,zb,.none]}).IsSliceOf s3.heap.objs.size za zb .none:=⟨_,Heap.get?_push_size _ rfl,rfl,rfl⟩
      have hl:(s3.heap.push {cls:=.type "slice",data:=.fields #[za,zb,.none]}).IsList pa items.toArray:=h1.isList.push _;refine wpAny_bind (wpAny_standAt ?_);have hT:Shared.TypeIs {s3 with heap:=s3.heap.push {cls:=.type "slice",data:=.fields #[za,zb,.none]}} (.ref pa) "list" := hl.typeIs;refine wpAny_bind ?_;refine wl (getitemInPython_of_ne hT.not_modules ..) ?_;refine wpAny_bind (wpAny_specialOf hT list_getitem_lookup (wpAny_pure ?_));show wpAny (Mo w) A (operate [.ref s3.heap.objs.size,.ref pa] (getItem (.ref pa) (.ref s3.heap.objs.size)) >>= _) _ _ _;refine wpAny_bind (wpAny_operating (wpAny_getItem_list_slice (hsz:=by rw [h2.size];exact An k30) hl hs p1 p2 .none (by simp) ?_));refine wl (p3 ..) ?_;refine wpAny_bind (wpAny_letTemporaryGo (wpAny_pure ?_));have kp:∀ b o,s3.heap.get? b=some o->((s3.heap.push {cls:=.type "slice",data:=.fields #[za,zb,.none]}).push {cls:=.type "list",data:=.seq its.toArray}).get? b=some o:=fun b o e=>Heap.get?_push_of_some _ (Heap.get?_push_of_some _ e);have hsz:(s3.heap.push {cls:=.type "slice",data:=.fields #[za,zb,.none]}).objs.size=s3.heap.objs.size+1:=Heap.size_push ..;refine PG.pre (e2.trans e3) (l2.trans e2 l3) (PG.newAt (c:=.lst ys) S3 le3 (by rw [hsz];exact Nat.le_succ _) kp (fun G' e=>⟨its,0,?_,p4.ext e⟩) k6);exact Heap.get?_push_size _ rfl
end
set_option tactic.hygienic true in
theorem mth_of (p:Params) {C:Addr} {n:Nat} {f:Addr} (h:Ah C n=some f):keepIn (KF p) (.ref f)=true/\findIn (KF p) (.ref C) (DP n)=some (some (.ref f))/\typeIn (KF p) (.ref f)=some (.type "function")/\C∈clsP/\∀ k,k<flds.length->fld k≠DP n:=by
  unfold Ah at h;obtain ⟨q,hq,rfl⟩:=Option.map_eq_some_iff.mp h;have h1:=List.find?_some hq;rw [Bool.and_eq_true,decide_eq_true_eq,decide_eq_true_eq] at h1;obtain ⟨rfl,rfl⟩:=h1;have z:=List.all_eq_true.mp (keep_m p) q (List.mem_of_find?_eq_some hq);simp only [Bool.and_eq_true] at z;obtain ⟨⟨⟨⟨z1,z2⟩,z3⟩,z4⟩,z5⟩:=z;refine ⟨z1,?_,beq_iff_eq.mp z3,by simpa using z4,fun k hk=>?_⟩
  . split at z2
    . rename_i f hf;rw [hf,beq_iff_eq.mp z2]
    . cases z2
  . have:=List.all_eq_true.mp z5 k (List.mem_range.mpr hk);simpa using this
section
variable {w:World} {B:Heap} {os:OsState} {A:Around} {d:Nat} {env:Env} {c:Sc} {K:KV} {X:KX} {m:Lm} {H:Hp} {G G':Gh} {s s':Shared} {x:Str} {p:Pos} {D:Addr}
theorem meth_open {o:Expr} {name:Str} {apos pos:Pos} {es:List Expr} (h0:Ad o=true) (hs:AP es=true) (hline:(apos.endLine == pos.line)=true) (hlen:es.length<20) {E:Value->Shared->Prop} {Q:Value->Shared->Prop}
    (h:∀ pl,wpAny (Mo w) A (eval o env) (fun ov s₁=>wpAny (Mo w) A (getMethod ov name pl) (fun fx s₂=>wpAny (Mo w) A (callWith pos fx.1 fx.2 (backTo pos (starEach es env)) []) Q E s₂) E s₁) E s) :
    wpAny (Mo w) A (eval (.Call (.Attribute o name apos) es [] pos) env) Q E s:=by
  refine wl (arm_eval_Call ..) ?_;refine wl (base_ok h0 ..) ?_;refine wpAny_bind (wpAny_mono (h (do return (<- importBound o env).getD true)) (fun ov s₁ h₁=>wpAny_bind (wpAny_standAt ?_)) fun Y Y e=>e);have hform:methodCallForm (es.length+([]:List Keyword).length) (backTo pos (starEach es env)) (backToKw pos (keywordEach [] env))=true:=by
    have:=AJ hs pos env;unfold methodCallForm;refine wl (Bool.and_eq_true ..) ?_;refine wl (Bool.and_eq_true ..) ?_;refine ⟨⟨?_,rfl⟩,?_⟩
    . rw [List.all_eq_true];rw [List.any_eq_false] at this;intro z hz;have:=this z hz;simpa using this
    . exact decide_eq_true (show es.length<30 from Nat.lt_trans hlen (by decide))
  have hpos:methodCallPos true o env apos pos=pure pos:=by unfold methodCallPos;simp [hline]
  unfold methodCall;refine wl (hform ..) ?_;refine wpAny_bind (wpAny_holding (wpAny_mono h₁ (fun fx s₂ h₂=>?_) fun Y Y e=>e));exact wpAny_bind (wpAny_of_eq hpos h₂)
theorem getLast_drop {xs:List V} {items:List Value} (h:VRs G xs items) {y:V} (e:xs.getLast?=some y):∃ z,items.toArray[items.toArray.size - 1]?=some z/\VR G y z/\items.toArray.eraseIdxIfInBounds (items.toArray.size - 1)=items.dropLast.toArray/\VRs G xs.dropLast items.dropLast:=by
  have hl:=h.length;have hx:xs[xs.length - 1]?=some y:=by rw [<- e,List.getLast?_eq_getElem?]
  obtain ⟨z,q1,q2⟩:=h.get hx;refine ⟨z,by rw [List.size_toArray,<- hl];simpa using q1,q2,?_,?_⟩
  . have hn:items≠[]:=fun q=>by subst q;simp at q1
    have:items.toArray.size - 1<items.toArray.size:=Nat.sub_one_lt_of_lt (List.length_pos_iff.mpr hn);unfold Array.eraseIdxIfInBounds;refine wl (dif_pos this ..) ?_;simp [List.dropLast_eq_take,List.eraseIdx_eq_take_drop_succ];omega
  . have:=h.take (xs.length - 1);refine wl (List.dropLast_eq_take ..) ?_;refine wl (List.dropLast_eq_take ..) ?_;exact wr (hl ..) (this)
theorem WG.pre {α β:Type} {t:Sem α} {R:Gh->β->α->Prop} {K:β->Hp->Prop} {G1:Gh} {h:Heap} (g:WG w B os A t R K X G1 s) (e:Ext G G1) (l:LKeep G h s.heap):wpAny (Mo w) A t (PG w B os R G h K) (PostX w B os G h X) s :=
  wpAny_mono g (fun Y Y x=>x.pre e l) fun Y Y x=>x.pre e l
variable {q:Addr} {ov:V} {bs:List V} {zs:List Value}
theorem m_append (S:Sat w B os G s) (le:Le H G) (r:VR G ov (.ref q)) (rs:VRs G bs zs) (k':Bc d (some .l) ov 0 bs K X H):WG w B os A (call (.builtin "list.append") (.ref q::zs)) VR K X G s:=by
  obtain ⟨pa,rfl,k2⟩:=Dx k';cases (show Value.ref q = .ref pa from r);obtain ⟨c2,hx,k3⟩:=AK k2;obtain ⟨xs,rfl,k4⟩:=BZ k3;obtain ⟨v,rfl,k9⟩:=vs1_inv k4;obtain ⟨items,n,j1,j2⟩:=DO S le hx;cases rs with | cons rv rt =>
  cases rt;exact call_meets PySem.F.slot_list_append ⟨_,j1,rfl⟩ PySem.F.entry_list_append (PySem.F.args_list_append_2 _ _) (list_append q items.toArray n _ (by rw [j2.size];exact An (Nat.le_of_lt k9.1))) ⟨j1,PG.lst (b:=.none) (rel:=VR) (z:=Value.none) S le hx j1 (items':=items++[_]) (by simp) (j2.append (.cons rv .nil)) (fun Y Y=>rfl) k9.2⟩
theorem m_pop (S:Sat w B os G s) (le:Le H G) (r:VR G ov (.ref q)) (rs:VRs G bs zs) (k':Bc d (some .l) ov 1 bs K X H):WG w B os A (call (.builtin "list.pop") (.ref q::zs)) VR K X G s:=by
  obtain ⟨pa,rfl,k2⟩:=Dx k';cases (show Value.ref q = .ref pa from r);obtain ⟨c2,hx,k3⟩:=AK k2;obtain ⟨xs,rfl,k4⟩:=BZ k3;obtain ⟨rfl,k0,k5⟩:=(show bs=[]/\_ from k4)
  obtain ⟨items,n,j1,j2⟩:=DO S le hx;cases rs;obtain ⟨y,hy,k6⟩:=AK k5;obtain ⟨z,g1,g2,g3,g4⟩:=getLast_drop j2 hy;exact call_meets PySem.F.slot_list_pop ⟨_,j1,rfl⟩ PySem.F.entry_list_pop (PySem.F.args_list_pop_1 _) (list_pop_last q items.toArray n z g1 (by rw [j2.size];exact An k0)) ⟨j1,PG.lst (b:=y) (rel:=VR) (z:=z) S le hx j1 (items':=items.dropLast) g3 g4 (fun Y e=>g2.ext e) k6⟩
theorem m_get (S:Sat w B os G s) (le:Le H G) (r:VR G ov (.ref q)) (rs:VRs G bs zs) (k':Bc d (some .d) ov 2 bs K X H):WG w B os A (call (.builtin "dict.get") (.ref q::zs)) VR K X G s:=by
  obtain ⟨c2,hx,k3⟩:=AK k';obtain ⟨es',rfl,k4⟩:=aD_inv k3;obtain ⟨v0,rfl,k5⟩:=vs1_inv k4;obtain ⟨kk,rfl,k9⟩:=CU k5;obtain ⟨q',kvs,hq',j0,j1,j2,-⟩:=Dt S le r hx;cases hq';cases rs with | cons rv rt =>
  cases rt;obtain ⟨u,rfl⟩:=rv;refine call_meetsIn PySem.F.slot_dict_get j1.typeIs PySem.F.entry_dict_get (PySem.F.args_dict_get_2 _ _) (meets_dict_get (SK w) q (As kk u) j0) ⟨valueAt kvs,j1.mapOf,?_⟩;show PG w B os VR G s.heap K ((valueAt kvs kk).getD .none) {s with toks:=s.toks+1};rcases j2.at kk with ⟨t1,t2⟩ | ⟨v,z,t1,t2,t3⟩
  . rw [t1] at k9;rw [t2];exact WG.now (b:=.none) S le rfl k9
  . rw [t1] at k9;rw [t2];exact WG.now (b:=v) S le t3 k9
theorem meth_core {o:Expr} {k:Nat} {apos:Pos} {es:List Expr} (iho:PE o) (ihs:∀ e∈es,PE e) (ok:EnvOk c env) (h0:Ad o=true) (hs:AP es=true) (hline:(apos.endLine == p.line)=true) (hlen:es.length<20)
    (h:vcE d (.meth (comp c o) k (AT c es)) K X m H) (a:At w B os A d env c.ls m H G s):WG w B os A (eval (.Call (.Attribute o (DP k) apos) es [] p) env) VR K X G s:=by
  dsimp only [E_meth] at h;refine meth_open h0 hs hline hlen fun pl=>?_;refine WG.on (iho ok h G s a) (fun G1 b1 H1 z s1 e1 S1 l1 le1 r1 k1=>?_) fun Y Y e=>e;have a1:=a.step e1 S1 l1 le1;have args:=pl_list ihs p hs ok k1.2 G1 s1 a1;have hn:=k1.1;cases hr:rcv H1 b1 k with
  | none=>rw [hr] at hn;cases hn
  | some rc =>
    replace args:=hr▸args;cases rcv_inv hr with
    | l xs0 hl hk =>
      obtain ⟨q,items0,n0,rfl,i1,i2,-⟩:=Am S1 le1 r1 hl;have hT:s1.TypeIs (.ref q) "list" := ⟨_,i1,rfl⟩;have hd:∀ a,Value.ref q = .ref a->∃ ob,s1.heap.get? a=some ob/\ob.dict=none:=fun a e=>by cases e;exact ⟨_,i1,rfl⟩
      rcases r_le1 hk with rfl | rfl
      . exact getMethod_builtin hT PySem.F.plainAttrs_list PySem.F.slot_list_append PySem.F.type_list_append hd (Calls.callWith_builtin (AJ hs p env) (AW hs
          (WG.on args (fun G' bs H' zs s' e' S' l' le' r' k'=>(m_append S' le' (r1.ext e') r' k').pre (e1.trans e') (l1.trans e1 l')) fun Y Y x=>x.pre e1 l1)))
      . exact getMethod_builtin hT PySem.F.plainAttrs_list PySem.F.slot_list_pop PySem.F.type_list_pop hd (Calls.callWith_builtin (AJ hs p env) (AW hs
          (WG.on args (fun G' bs H' zs s' e' S' l' le' r' k'=>(m_pop S' le' (r1.ext e') r' k').pre (e1.trans e') (l1.trans e1 l')) fun Y Y x=>x.pre e1 l1)))
    | d xs0 hl hk =>
      subst hk;obtain ⟨q,kvs0,rfl,i0,i1,i2,-⟩:=Dt S1 le1 r1 hl;have hd:∀ a,Value.ref q = .ref a->∃ ob,s1.heap.get? a=some ob/\ob.dict=none:=fun a e=>by cases e;obtain ⟨o',es',ep',ho',hx',_⟩:=i1;exact ⟨_,ho',hx'.2.1⟩
      exact getMethod_builtin i1.typeIs PySem.F.plainAttrs_dict PySem.F.slot_dict_get PySem.F.type_dict_get hd (Calls.callWith_builtin (AJ hs p env) (AW hs
        (WG.on args (fun G' bs H' zs s' e' S' l' le' r' k'=>(m_get S' le' (r1.ext e') r' k').pre (e1.trans e') (l1.trans e1 l')) fun Y Y x=>x.pre e1 l1)))
    | f C es' fa hl hf =>
      obtain ⟨m1,m2,m3,m4,m5⟩:=mth_of w.params hf;obtain ⟨q,rfl,o',_⟩:=obj_at S1 le1 r1 hl;obtain ⟨ox,od,dx,mm,I,h3,h4,h5,h6,h7,h8,h9,h10,h11,h12⟩:=DR o';have Z:=cls_of (p:=w.params) m4;refine method_fn S1.kf I Z.ga Z.gattr m2 m3 ?_ ?_
      . show (lookIn (DP k) od).map (·.isSome)=some false;rw [h7,h9 (DP k) fun i v hi=>m5 i (h12 i v hi)];rfl
      . refine callWith_of (P:=fun h=>(KF w.params).In h) (by rw [AJ hs];rfl) (keeps_K m1) (AW hs ?_);exact WG.on args (fun G' bs H' zs s' e' S' l' le' r' k'=>⟨S'.kf,WG.pre (k' w B os A G' s' (.ref fa) (.ref q::zs) S' (a1.cx.ext e') le' rfl (.cons (r1.ext e') r')) (e1.trans e') (l1.trans e1 l')⟩) fun Y Y x=>x.pre e1 l1
end
def EqB (D:Addr) (G G':Gh):Prop:=∀ a,a≠D->G' a=G a
theorem EqB.upd (G:Gh) (D:Addr) (c:Cell):EqB D G (Mine.upd G D c):=fun a h=>AC h
theorem EqB.del (G:Gh) (D:Addr):EqB D G (Mine.del G D):=fun a h=>by simp [Mine.del,h]
section
variable {w:World} {B:Heap} {os:OsState} {A:Around} {d:Nat} {env:Env} {c:Sc} {K:KV} {X:KX} {m:Lm} {H:Hp} {G G' G₀:Gh} {s s':Shared} {x:Str} {p:Pos} {D:Addr} {o:Obj} {h h':Heap}
theorem EqB.extB (e:EqB D G G'):ExtB D G G':=fun a c n h Y=>(e a n).trans h
theorem EqB.le (e:EqB D G G') (l:Le H G) (hD:G D=some (.rw o)):Le H G':=fun a v q=>by
  have:a≠D:=fun z=>by have:=l a v q;rw [z,hD] at this;cases this
  rw [e a this];exact l a v q
theorem EqB.ext (e:EqB D G G') (x:Ext G₀ G) (h:G₀ D=none):Ext G₀ G':=fun a c q n=>by
  have:a≠D:=fun z=>by rw [z,h] at q;cases q
  rw [e a this];exact x a c q n
theorem EqB.vr (e:EqB D G G') (hD:G D=some (.rw o)) {v:V} {x:Value} (r:VR G v x):VR G' v x:=r.extB e.extB hD
theorem EqB.loc (e:EqB D G G') (hD:G D=some (.rw o)) (hnc:∀ v,o.data≠.cell v) {ls:List Str} (l:Loc env ls m G h) (k:∀ b o,b≠D->h.get? b=some o->h'.get? b=some o):Loc env ls m G' h':=by
  obtain ⟨a,b,cc,dd,⟨mm,hn,hv⟩,hc⟩:=l;have nL:env.locals≠D:=fun q=>by rw [q,hD] at dd;cases dd
  refine ⟨a,b,cc,(e _ nL).trans dd,⟨mm,ns_data hn fun o ho=>⟨o,k _ o nL ho,rfl⟩,fun i x v h1 h2 h3=>?_⟩,fun i x v h1 h2 h3=>?_⟩
  . obtain ⟨y,q1,q2⟩:=hv i x v h1 h2 h3;exact ⟨y,q1,e.vr hD q2⟩
  . obtain ⟨ca,oc,y,q1,q2,q3,q4⟩:=hc i x v h1 h2 h3;have:ca≠D:=fun z=>by rw [z,hD] at q2;cases q2;exact hnc _ q3
    exact ⟨ca,oc,y,q1,(e _ this).trans q2,q3,e.vr hD q4⟩
theorem EqB.cx (e:EqB D G G') (hD:G D=some (.rw o)) (cx:Cx A d G):Cx A d G':=by
  obtain ⟨h,x,y,l,hl,z⟩:=cx;refine ⟨h,x,y,l,hl,fun env m=>?_⟩;obtain ⟨a,L,b,q⟩:=z env m;have nL:L≠D:=fun z=>by rw [z] at q;rw [hD] at q;rcases q with q | ⟨_,q,_⟩<;>cases q
  exact ⟨a,L,b,by rw [e L nL];exact q⟩
theorem EqB.sat (e:EqB D G G') (hD:G D=some (.rw o)) (S:Sat w B os G s) (k:∀ b o,b≠D->s.heap.get? b=some o->s'.heap.get? b=some o) (hc:∀ c,G' D=some c->OC w G' s'.heap D c) (hg:s'.gens=s.gens) (ho:s'.os=s.os):Sat w B os G' s':=by
  refine ⟨S.top,fun b o h=>?_,fun b c' h=>?_,hg.trans S.gens,ho.trans S.os,fun b q=>(e b fun z=>by have:=S.tbs b q;rw [z,hD] at this;cases this).trans (S.tbs b q)⟩
  . have:b≠D:=fun q=>by subst q;have:=(S.cells b _ hD).1;rw [h] at this;cases this
    exact k b o this (S.base b o h)
  . by_cases q:b=D
    . subst q;exact ⟨S.alone hD,hc c' h⟩
    . rw [e b q] at h;refine ⟨S.alone h,((S.cells b c' h).2.keep (fun o z=>k b o q z) fun dx o' hd z=>?_).extB e.extB hD⟩;have:dx≠D:=fun q=>by subst q;rw [hD] at hd;cases hd
      exact k dx o' this z
theorem lkeepB (hD:G D=some (.rw o)) (k:∀ b o,b≠D->h.get? b=some o->h'.get? b=some o):LKeep G h h':=fun a =>
  ⟨fun l o e=>⟨o,k a o (fun q=>by rw [q,hD] at l;cases l) e,rfl⟩,fun v l o e=>k a o (fun q=>by rw [q,hD] at l;cases l) e⟩
theorem lkeepB0 {G₀:Gh} (h0:G₀ D=none) (k:∀ b o,b≠D->h.get? b=some o->h'.get? b=some o):LKeep G₀ h h':=fun a =>
  ⟨fun l o e=>⟨o,k a o (fun q=>by rw [q,h0] at l;cases l) e,rfl⟩,fun v l o e=>k a o (fun q=>by rw [q,h0] at l;cases l) e⟩
theorem EqB.at (e:EqB D G G') (hD:G D=some (.rw o)) (hnc:∀ v,o.data≠.cell v) {ls:List Str} (a:At w B os A d env ls m H G s) (k:∀ b o,b≠D->s.heap.get? b=some o->s'.heap.get? b=some o) (hc:∀ c,G' D=some c->OC w G' s'.heap D c) (hg:s'.gens=s.gens) (ho:s'.os=s.os):At w B os A d env ls m H G' s' :=
  ⟨e.sat hD a.sat k hc hg ho,e.cx hD a.cx,e.loc hD hnc a.loc k,e.le a.le hD⟩
def FzK (G:Gh) (h h':Heap):Prop:=∀ a v,G a=some (.fz v)->∀ o,h.get? a=some o->h'.get? a=some o
structure Strm (w:World) (B:Heap) (os:OsState) (A:Around) (it:Addr) (items:List V) (stay:Hp->Prop) (IO:Nat->Obj->Prop) (Ok:Gh->Hp->Heap->Prop):Prop where
  ncell:∀ i obj,IO i obj->∀ v,obj.data≠.cell v
  cls:∀ i obj,IO i obj->∃ n,n∈["list_iterator","tuple_iterator","range_iterator","dict_keyiterator","list_reverseiterator"]/\obj.cls = .type n
  step:∀ {G:Gh} {H:Hp} {h:Heap} {G':Gh} {H':Hp} {h':Heap},Ok G H h->stay H'->Ext G G'->FzK G h h'->Ok G' H' h'
  raw:∀ {G:Gh} {H:Hp} {h:Heap} {D:Addr} {o:Obj} {G':Gh} {h':Heap},G D=some (.rw o)->Ok G H h->EqB D G G'->(∀ b o,b≠D->h.get? b=some o->h'.get? b=some o)->Ok G' H h'
  next:∀ {i:Nat} {G:Gh} {H:Hp} {s:Shared} {obj:Obj} {v:V} {E:Value->Shared->Prop} {Q:Option Value->Shared->Prop},Sat w B os G s->Le H G->Ok G H s.heap->G it=some (.rw obj)->IO i obj->items[i]?=some v ->
    (∀ x h' tk obj',VR G v x->IO (i+1) obj'->h'.get? it=some obj'->Heap.SameBut it s.heap h'->Q (some x) {s with heap:=h',toks:=tk})->wpAny (Mo w) A (pyNext (.ref it)) Q E s
  done:∀ {G:Gh} {H:Hp} {s:Shared} {obj:Obj} {E:Value->Shared->Prop} {Q:Option Value->Shared->Prop},Sat w B os G s->Le H G->Ok G H s.heap->G it=some (.rw obj)->IO items.length obj ->
    (∀ h',Heap.ExtBut it s.heap h'->Q none {s with heap:=h'})->wpAny (Mo w) A (pyNext (.ref it)) Q E s
  self:∀ {i:Nat} {G:Gh} {s:Shared} {obj:Obj} {E:Value->Shared->Prop} {Q:Value->Shared->Prop},Sat w B os G s->G it=some (.rw obj)->IO i obj->Q (.ref it) s->wpAny (Mo w) A (pyIter (.ref it)) Q E s
theorem Cv {v:V} {H₀ H':Hp} {c:V} (h:look H₀ v=some c) (k:AL v H₀ H'):look H' v=some c:=by
  cases v with
  | ref a=>exact (show H' a=H₀ a from k).trans h
  | _=>exact h
theorem strm_list (hh:A.handled=none) {v:V} {z:Value} {xs:List V} {l it:Addr} {H₀:Hp} (hl:look H₀ v=some (.lst xs)) (hz:z = .ref l) :
    Strm w B os A it xs (AL v H₀) (fun i o=>o.cls = .type "list_iterator" /\ o.data = .fields #[.ref l,.int i 0]) (fun G H Y=>VR G v z/\look H v=some (.lst xs)):=by
  subst hz;refine ⟨(fun i obj h v q=>by rw [h.2] at q;cases q),(fun i obj h=>⟨"list_iterator",by decide,h.1⟩),fun h st e Y=>⟨h.1.ext e,Cv hl st⟩,fun hD h e Y=>⟨e.vr hD h.1,h.2⟩,?_,?_,?_⟩
  . intro i G H s obj v' E Q S le ok hit io hv q;obtain ⟨p,items,n,hp,h1,h2,-⟩:=Am S le ok.1 ok.2;cases hp;obtain ⟨x,g1,g2⟩:=h2.at hv;refine wpAny_pyNext_list_item ⟨obj,(S.cells _ _ hit).2,io.1,io.2⟩ h1.isList g1 fun h' hi hs=>?_;obtain ⟨o',h3,h4,h5⟩:=hi;exact q x h' s.toks o' g2 ⟨h4,h5⟩ h3 hs
  . intro G H s obj E Q S le ok hit io q;obtain ⟨p,items,n,hp,h1,h2,-⟩:=Am S le ok.1 ok.2;cases hp;exact wpAny_pyNext_list_end hh ⟨obj,(S.cells _ _ hit).2,io.1,io.2⟩ h1.isList (by rw [Array.getElem?_eq_none];rw [h2.size];exact Nat.le_refl _) q
  . intro i G s obj E Q S hit io q;exact wpAny_pyIter_listiter ⟨obj,(S.cells _ _ hit).2,io.1,io.2⟩ q
theorem strm_tup (hh:A.handled=none) {v:V} {z:Value} {xs:List V} {l it:Addr} {H₀:Hp} (hl:look H₀ v=some (.tup xs)) (hz:z = .ref l) :
    Strm w B os A it xs (AL v H₀) (fun i o=>o.cls = .type "tuple_iterator" /\ o.data = .fields #[.ref l,.int i 0]) (fun G H Y=>VR G v z/\look H v=some (.tup xs)):=by
  subst hz;refine ⟨(fun i obj h v q=>by rw [h.2] at q;cases q),(fun i obj h=>⟨"tuple_iterator",by decide,h.1⟩),fun h st e Y=>⟨h.1.ext e,Cv hl st⟩,fun hD h e Y=>⟨e.vr hD h.1,h.2⟩,?_,?_,?_⟩
  . intro i G H s obj v' E Q S le ok hit io hv q;obtain ⟨p,items,n,hp,h1,h2⟩:=CI S le ok.1 ok.2;cases hp;obtain ⟨x,g1,g2⟩:=h2.at hv;refine wpAny_pyNext_tuple_item ⟨obj,(S.cells _ _ hit).2,io.1,io.2⟩ ⟨_,h1,rfl,n,rfl⟩ g1 fun h' hi hs=>?_;obtain ⟨o',h3,h4,h5⟩:=hi;exact q x h' s.toks o' g2 ⟨h4,h5⟩ h3 hs
  . intro G H s obj E Q S le ok hit io q;obtain ⟨p,items,n,hp,h1,h2⟩:=CI S le ok.1 ok.2;cases hp;exact wpAny_pyNext_tuple_end hh ⟨obj,(S.cells _ _ hit).2,io.1,io.2⟩ ⟨_,h1,rfl,n,rfl⟩ (by rw [Array.getElem?_eq_none];rw [h2.size];exact Nat.le_refl _) q
  . intro i G s obj E Q S hit io q;exact wpAny_pyIter_tupleiter ⟨obj,(S.cells _ _ hit).2,io.1,io.2⟩ q
theorem strm_rng (hh:A.handled=none) {it:Addr} (n:Nat) :
    Strm w B os A it ((List.range n).map fun i=>.int (Int.ofNat i)) (fun Y=>True) (fun i o=>o={cls:=.type "range_iterator",data:=.fields #[rawInt i,rawInt ((n:Int) - i),rawInt 1]}) (fun Y Y Y=>True):=by
  refine ⟨(fun i obj h v q=>by rw [h] at q;cases q),(fun i obj h=>⟨"range_iterator",by decide,by rw [h]⟩),fun Y Y Y Y=>trivial,fun Y Y Y Y=>trivial,?_,?_,?_⟩
  . intro i G H s obj v' E Q S le ok hit io hv q;have hit':IsRangeIter s.heap it (i:Int) ((n:Int) - i) 1:=by subst io;exact (S.cells _ _ hit).2
    have hi:i<n:=by replace hv:=(List.getElem?_map)▸hv;obtain ⟨j,hj,_⟩:=Option.map_eq_some_iff.mp hv;have:=(List.getElem?_eq_some_iff.mp hj).1;simpa using this
    have hv':v' = .int i:=by replace hv:=(List.getElem?_map)▸hv;replace hv:=(List.getElem?_range hi)▸hv;cases hv;rfl
    subst hv';refine wpAny_pyNext_range_item hit' (Int.sub_pos.mpr (Int.ofNat_lt.mpr hi)) fun h' h1 hs=>?_;exact q _ h' _ _ ⟨_,rfl⟩ (by show ({cls:=.type "range_iterator",data:=.fields #[rawInt ((i:Int)+1),rawInt ((n:Int) - i - 1),rawInt 1]}:Obj)={cls:=.type "range_iterator",data:=.fields #[rawInt ((i+1:Nat):Int),rawInt ((n:Int) - ((i+1:Nat):Int)),rawInt 1]};rw [Int.natCast_succ,Int.sub_sub]) h1 hs
  . intro G H s obj E Q S le ok hit io q;rw [List.length_map] at io;replace io:=List.length_range▸io;have hit':IsRangeIter s.heap it (n:Int) ((n:Int) - n) 1:=by subst io;exact (S.cells _ _ hit).2
    exact wpAny_pyNext_range_end hh hit' (Int.le_of_eq (Int.sub_self _)) q
  . intro i G s obj E Q S hit io q;have hit':IsRangeIter s.heap it (i:Int) ((n:Int) - i) 1:=by subst io;exact (S.cells _ _ hit).2
    exact wpAny_pyIter_rangeiter hit' q
theorem strm_rev (hh:A.handled=none) {v:V} {z:Value} {xs:List V} {l it:Addr} {H₀:Hp} (hl:look H₀ v=some (.lst xs)) (hz:z = .ref l) :
    Strm w B os A it xs.reverse (AL v H₀) (fun i o=>i<=xs.length/\o.cls = .type "list_reverseiterator" /\ o.data = .fields #[.ref l,rawInt ((xs.length:Int) - 1 - i)]) (fun G H Y=>VR G v z/\look H v=some (.lst xs)):=by
  subst hz;refine ⟨(fun i obj h v q=>by rw [h.2.2] at q;cases q),(fun i obj h=>⟨"list_reverseiterator",by decide,h.2.1⟩),fun h st e Y=>⟨h.1.ext e,Cv hl st⟩,fun hD h e Y=>⟨e.vr hD h.1,h.2⟩,?_,?_,?_⟩
  . intro i G H s obj v' E Q S le ok hit io hv q;obtain ⟨p,items,n,hp,h1,h2,-⟩:=Am S le ok.1 ok.2;cases hp;have hi:i<xs.length:=by have:=(List.getElem?_eq_some_iff.mp hv).1;simpa using this
    have hv2:xs[xs.length - 1 - i]?=some v':=by rw [List.getElem?_reverse hi] at hv;exact hv
    obtain ⟨x,g1,g2⟩:=h2.at hv2;have e:(xs.length:Int) - 1 - (i:Int)=((xs.length - 1 - i:Nat):Int):=r_ri hi;have io2:=io.2.2;rw [e] at io2;refine wpAny_pyNext_rev_item ⟨obj,(S.cells _ _ hit).2,io.2.1,io2⟩ h1.isList g1 fun h' hi' hs=>?_;obtain ⟨o',h3,h4,h5⟩:=hi';refine q x h' s.toks o' g2 ⟨hi,h4,?_⟩ h3 hs;rw [h5,show ((xs.length - 1 - i:Nat):Int) - 1=(xs.length:Int) - 1 - ((i+1:Nat):Int) from by rw [<- e,Int.natCast_succ,Int.sub_sub _ _ (1:Int)]]
  . intro G H s obj E Q S le ok hit io q;have io2:=io.2.2;rw [List.length_reverse,show (xs.length:Int) - 1 - (xs.length:Int) = -1 from by rw [Int.sub_sub,Int.add_comm,<- Int.sub_sub,Int.sub_self];rfl] at io2;exact wpAny_pyNext_rev_end hh ⟨obj,(S.cells _ _ hit).2,io.2.1,io2⟩ q
  . intro i G s obj E Q S hit io q;exact wpAny_pyIter_revIter ⟨obj,(S.cells _ _ hit).2,io.2.1,io.2.2⟩ q
end
section
variable {w:World} {B:Heap} {os:OsState} {A:Around} {d:Nat} {env:Env} {c:Sc} {K:KV} {X:KX} {m:Lm} {H:Hp} {G G' G₀:Gh} {s s':Shared} {x:Str} {p:Pos} {D:Addr} {o:Obj} {h h':Heap}
theorem strm_dct (hh:A.handled=none) {es:List (Str×V)} {kvs:List (Str×Value)} {a it:Addr} {od:Obj} {ep:Nat} (h0:(a == sysModules)=false) (hk:kvs.map (·.1)=es.map (·.1)) (hd:∀ h:Heap,h.get? a=some od->h.DictAt (SK w) a kvs ep) (hne:a≠it) :
    Strm w B os A it (es.map fun kv=>.str kv.1) (fun Y=>True) (fun i o=>o.cls = .type "dict_keyiterator" /\ o.data = .fields #[.ref a,.int i 0,.int kvs.length 0,.int ep 0]) (fun G Y h=>G a=some (.fz (.dct es))/\h.get? a=some od):=by
  have hlen:kvs.length=es.length:=by have:=congrArg List.length hk;simpa using this
  refine ⟨(fun i obj h v q=>by rw [h.2] at q;cases q),(fun i obj h=>⟨"dict_keyiterator",by decide,h.1⟩),fun h Y e k=>⟨e.fz h.1,k _ _ h.1 _ h.2⟩,fun {G H h D o G' h'} hD h e k=>?_,?_,?_,?_⟩
  . have:a≠D:=fun q=>by rw [<- q,h.1] at hD;cases hD
    exact ⟨(e a this).trans h.1,k a od this h.2⟩
  . intro i G H s obj v' E Q S le ok hit io hv q;rw [List.getElem?_map] at hv;obtain ⟨kv,hkv,rfl⟩:=Option.map_eq_some_iff.mp hv;have hi:i<kvs.length:=by rw [hlen];exact (List.getElem?_eq_some_iff.mp hkv).1
    have e1:(kvs.map (·.1))[i]?=some kv.1:=by rw [hk,List.getElem?_map,hkv];rfl
    rw [List.getElem?_map,List.getElem?_eq_getElem hi] at e1;have e2:kvs[i].1=kv.1:=by simpa using e1
    refine wpAny_pyNext_dict_item (knd:=SK w) (i:=i) ⟨obj,(S.cells _ _ hit).2,io.1,io.2⟩ (hd _ ok.2) (k:=kv.1) (v:=kvs[i].2) (by rw [List.getElem?_eq_getElem hi,<- e2]) fun key h' hkey hi' hs=>?_;obtain ⟨t,rfl⟩:=Value.isStrOf_shape hkey;obtain ⟨o',h3,h4,h5⟩:=hi';exact q _ h' s.toks o' ⟨_,rfl⟩ ⟨h4,h5⟩ h3 hs
  . intro G H s obj E Q S le ok hit io q;rw [List.length_map] at io;exact wpAny_pyNext_dict_end (knd:=SK w) hh ⟨obj,(S.cells _ _ hit).2,io.1,io.2⟩ (hd _ ok.2) (by rw [List.getElem?_eq_none];rw [hlen];exact Nat.le_refl _) q
  . intro i G s obj E Q S hit io q;exact wpAny_pyIter_keyiter ⟨obj,(S.cells _ _ hit).2,io.1,io.2⟩ q
theorem BJ {p:Prop} [Decidable p] {x y:Mine.X} (hx:CQ x=false) (hy:CQ y=false):CQ (if p then x else y)=false:=by split<;>assumption
theorem rr_opt {o:Option Nat} {f:Nat->Mine.X} (h:∀ k,CQ (f k)=false):CQ (match o with | some k=>f k | none=>.bad)=false:=by cases o<;>first | rfl | exact h _
theorem rr_attr {o:Expr} {n:Str} {ap p:Pos} {es:List Expr}:CQ (comp c (.Call (.Attribute o n ap) es [] p))=false:=by
  by_cases hs:∃ r np a q,es=[.Call (.Name r np) [a] [] q]
  . obtain ⟨r,np,a,q,rfl⟩:=hs;exact BJ (BJ rfl (rr_opt fun Y=>rfl)) rfl
  . exact wl (comp_meth fun r np a q he=>hs ⟨r,np,a,q,he⟩ ..) (BJ (rr_opt fun Y=>rfl) rfl)
theorem rr_nm {x:Str}:CQ (c.nm x)=false:=by
  refine BJ rfl (BJ ?_ (BJ ?_ rfl))
  . cases c.ix x<;>rfl
  . cases c.gl x<;>rfl
theorem rr_two {x:Str} {a b:Mine.X}:CQ (two2 c x a b)=false:=by unfold two2;refine BJ rfl (BJ ?_ rfl);split<;>rfl
inductive RR1 (c:Sc):Expr->Prop
  | mk (r:Str) (np:Pos) (a:Expr) (p:Pos) (h:AP [a]=true):RR1 c (.Call (.Name r np) [a] [] p)
theorem rr_call {f:Expr} {as:List Expr} {p:Pos} (h:CQ (comp c (.Call f as [] p))=true):RR1 c (.Call f as [] p):=by
  have no:∀ {q},CQ q=false->q=comp c (.Call f as [] p)->RR1 c (.Call f as [] p):=fun a b=>absurd (a.symm.trans (b▸h)) Bool.false_ne_true;cases f with
  | Attribute o n ap=>exact no rr_attr rfl
  | Name x np =>
    match as,h,@no with
    | [],_,no=>exact no (BJ rfl rfl) rfl
    | [a],h,no=>exact if hs:AP [a]=true then ⟨x,np,a,p,hs⟩ else no (q:=.bad) rfl (by rw [By,if_neg hs])
    | [a,b],_,no=>exact no (BJ rr_two rfl) rfl
    | _::_::_::_,_,no=>exact no (BJ rfl rfl) rfl
  | _=>exact no (q:=.bad) rfl rfl
theorem rr_sub {o i:Expr} {p:Pos}:CQ (comp c (.Subscript o i p))=false:=by
  cases i with
  | Slice lo hi st q=>cases st<;>rfl
  | _=>rfl
theorem rr_cmp {l:Expr} {ops:List CmpOp} {rs:List Expr} {p:Pos}:CQ (comp c (.Compare l ops rs p))=false :=
  match ops,rs with
  | [op],[r]=>BJ rfl rfl
  | [],_=>rfl
  | _::_::_,_=>rfl
  | [op],[]=>rfl
  | [op],_::_::_=>rfl
theorem rr_lc {e:Expr} {g:List Comprehension} {sc:Scope} {p:Pos}:CQ (comp c (.ListComp e g sc p))=false :=
  match g with
  | [⟨t,it,ifs,a0⟩]=>by
    cases t with
    | Name x px=>exact BJ rfl rfl
    | _=>rfl
  | []=>rfl
  | _::_::_=>by rw [comp_gens];rfl
theorem rr_inv {e:Expr} (h:CQ (comp c e)=true):RR1 c e:=by
  by_cases hc:∃ f as kws p,e = .Call f as kws p
  . obtain ⟨f,as,kws,p,rfl⟩:=hc;cases kws with
    | cons _ _=>rw [comp_kw] at h;cases h
    | nil=>exact rr_call h
  . refine absurd (Eq.trans (Eq.symm ?_) h) Bool.false_ne_true;cases e with
    | Constant k n p=>cases k<;>rfl
    | Name x p=>exact rr_nm
    | Attribute o n p=>exact BJ (rr_opt fun Y=>rfl) rfl
    | Subscript o i p=>exact rr_sub
    | UnaryOp op e p=>cases op<;>rfl
    | Compare l ops rs p=>exact rr_cmp
    | JoinedStr es p=>rw [CS];split<;>rfl
    | FormattedValue e k sp p=>cases sp<;>first | rfl | exact BJ rfl rfl
    | ListComp elt gens sc p=>exact rr_lc
    | Call f as kws p=>exact absurd ⟨f,as,kws,p,rfl⟩ hc
    | _=>first | rfl | exact BJ rfl rfl
inductive Rr1 (c:Sc) (r:Str) (x:Mine.X):Mine.X->Prop
  | rng (h:c.builtin r "range" = true):Rr1 c r x (.rng x)
  | rev (h:c.builtin r "reversed" = true):Rr1 c r x (.rev x)
theorem one1_rr {r:Str} {x:Mine.X} (h:CQ (one1 c r x)=true):Rr1 c r x (one1 c r x):=by
  unfold one1 at h ⊢;by_cases h1:c.builtin r "len" = true
  . rw [if_pos h1] at h;exact absurd h Bool.false_ne_true
  by_cases h2:c.builtin r "list" = true
  . rw [if_neg h1,if_pos h2] at h;exact absurd h Bool.false_ne_true
  by_cases h3:c.builtin r "dict" = true
  . rw [if_neg h1,if_neg h2,if_pos h3] at h;exact absurd h Bool.false_ne_true
  rw [if_neg h1,if_neg h2,if_neg h3] at h ⊢;by_cases h4:c.builtin r "range" = true
  . rw [if_pos h4];exact .rng h4
  by_cases h5:c.builtin r "reversed" = true
  . rw [if_neg h4,if_pos h5];exact .rev h5
  rw [if_neg h4,if_neg h5] at h;exact absurd h Bool.false_ne_true
inductive IsSrc (B:Heap) (G:Gh) (H:Hp) (h:Heap):Value->V->List V->Prop
  | val {o:V} {x:Value} {xs:List V} (r:VR G o x) (q:srcV o H=some xs):IsSrc B G H h x o xs
  | rng {ra:Addr} {n:Int} {t u v:Tok} (r:IsRange h ra 0 n 1 t u v) (hn:0<=n/\n<=1000000):IsSrc B G H h (.ref ra) .none ((List.range n.toNat).map fun i=>.int (Int.ofNat i))
  | rev {ia l:Addr} {v:V} {xs:List V} (r:VR G v (.ref l)) (q:look H v=some (.lst xs)) (r1:h.get? ia=some (revObj l ((xs.length:Int) - 1))) (r2:G ia=none) (r3:B.get? ia=none):IsSrc B G H h (.ref ia) v xs.reverse
inductive SrcPost (w:World) (B:Heap) (os:OsState) (G:Gh) (h:Heap) (K:V->List V->Hp->Prop) (x:Value) (s':Shared):Prop
  | mk (G':Gh) (H':Hp) (o:V) (items:List V) (e:Ext G G') (S:Sat w B os G' s') (l:LKeep G h s'.heap) (le:Le H' G') (r:IsSrc B G' H' s'.heap x o items) (k:K o items H')
theorem src_ok {e:Expr} {K:V->List V->Hp->Prop} (ih:PE e) (ih2:∀ f a p,e = .Call f [a] [] p->PE a) (ok:EnvOk c env) (h:vcI d (Cf (comp c e)) K X m H) (a:At w B os A d env c.ls m H G s) :
    wpAny (Mo w) A (eval e env) (SrcPost w B os G s.heap K) (PostX w B os G s.heap X) s:=by
  unfold Cf at h;cases hq:CQ (comp c e) with
  | true =>
    replace h:=hq▸h;rw [cond_true] at h;cases rr_inv hq with | mk r np e' p hs =>
    have hr:=By (c:=c) (np:=np) (p:=p) (x:=r) (a:=e');replace hr:=if_pos hs▸hr;rw [hr] at h hq;have z:=one1_rr hq;generalize one1 c r (comp c e')=y at z h;cases z with
    | rng hr=>refine CY (v:=.type "range") ok hs hr (by simp [bltL]) a (WG.on (ih2 _ _ _ rfl ok h G s a) (fun G1 b1 H1 z s1 e1 S1 l1 le1 r1 k1=>?_) fun Y Y x=>x);obtain ⟨n,rfl,k2⟩:=Ba k1;obtain ⟨t,rfl⟩:=r1;refine call_range_1 ?_;have kp:∀ b o,s1.heap.get? b=some o->(s1.heap.push {cls:=.type "range",data:=.fields #[.int 0 s1.toks,.int n t,.int 1 (s1.toks+1)]}).get? b=some o:=fun b o e=>Heap.get?_push_of_some _ e;exact ⟨G1,H1,.none,_,e1,S1.keeps kp rfl rfl,l1.trans e1 (.keeps kp),le1,.rng (Heap.get?_push_size _ rfl) k2.1,k2.2⟩
    | rev hr=>refine CY (v:=.type "reversed") ok hs hr (by simp [bltL]) a (WG.on (ih2 _ _ _ rfl ok h G s a) (fun G1 b1 H1 z s1 e1 S1 l1 le1 r1 k1=>?_) fun Y Y x=>x);obtain ⟨c2,hx,k2⟩:=AK k1;obtain ⟨xs,rfl,k3⟩:=BZ k2;obtain ⟨q,items,n,rfl,i1,i2,-⟩:=Am S1 le1 r1 hx;refine call_reversed_list i1.isList ?_;have kp:∀ b o,s1.heap.get? b=some o->(s1.heap.push (revObj q ((items.toArray.size:Int) - 1))).get? b=some o:=fun b o e=>Heap.get?_push_of_some _ e;refine ⟨G1,H1,b1,_,e1,S1.keeps kp rfl rfl,l1.trans e1 (.keeps kp),le1,.rev r1 hx ?_ S1.fresh S1.freshB,k3.2⟩;rw [<- i2.size];exact Heap.get?_push_size _ rfl
  | false=>replace h:=hq▸h;rw [cond_false] at h;refine WG.on (ih ok h G s a) (fun G1 b1 H1 z s1 e1 S1 l1 le1 r1 k1=>?_) fun Y Y x=>x;obtain ⟨xs,hx,k2⟩:=AK k1;exact ⟨G1,H1,b1,xs,e1,S1,l1,le1,.val r1 hx,k2⟩
end
section
variable {w:World} {B:Heap} {os:OsState} {A:Around} {d:Nat} {env:Env} {c:Sc} {K:KV} {X:KX} {m:Lm} {H:Hp} {G G' G₀:Gh} {s s':Shared} {x:Str} {p:Pos} {D:Addr} {o:Obj} {h h':Heap}
theorem small_of {n:Int} (hn:0<=n/\n<=1000000):Builtin.Range.small 0 n 1=true:=by
  have e:Builtin.Range.rangeSize 0 n 1=n:=by unfold Builtin.Range.rangeSize;simp;omega
  unfold Builtin.Range.small;refine wl (e ..) ?_;simp only [Builtin.Range.rangeFitsLong,Bool.and_eq_true,decide_eq_true_eq,Bool.or_eq_true,beq_iff_eq,Int.sub_self,Int.add_zero];refine ⟨⟨⟨⟨?_,?_⟩,?_⟩,?_⟩,.inr ?_⟩
  . exact ⟨by decide,by decide⟩
  . exact ⟨Int.le_trans (by decide) hn.1,Int.lt_of_le_of_lt hn.2 (by decide)⟩
  . exact ⟨by decide,by decide⟩
  . exact ⟨Int.le_trans (by decide) hn.1,Int.lt_of_le_of_lt hn.2 (by decide)⟩
  . rw [if_pos (by decide)];simp;omega
inductive IterPost (w:World) (B:Heap) (os:OsState) (A:Around) (G:Gh) (h:Heap) (H:Hp) (o:V) (items:List V) (it:Value) (s':Shared):Prop
  | mk (G':Gh) (ia:Addr) (obj:Obj) (IO:Nat->Obj->Prop) (Ok:Gh->Hp->Heap->Prop) (e:Ext G G') (S:Sat w B os G' s') (l:LKeep G h s'.heap) (le:Le H G') (i:it = .ref ia) (g:G' ia=some (.rw obj)) (q:EqB ia G G') (n:G ia=none) (k:∀ b o,b≠ia->h.get? b=some o->s'.heap.get? b=some o) (io:IO 0 obj) (ok:Ok G' H s'.heap) (st:A.handled=none->Strm w B os A ia items (AL o H) IO Ok)
theorem new_rw {ob:Obj} (S:Sat w B os G s) (hf:ob.isFreed=false) (hs:s'.heap=s.heap.push ob) (hg:s'.gens=s.gens) (ho:s'.os=s.os) :
    Ext G (Mine.upd G s.heap.objs.size (.rw ob))/\Sat w B os (Mine.upd G s.heap.objs.size (.rw ob)) s'/\LKeep G s.heap s'.heap :=
  ⟨.upd_fresh S.fresh,S.push (c:=.rw ob) hf (fun G' e=>Heap.get?_push_size _ hf) hs hg ho,by rw [hs];exact .keeps fun b o e=>Heap.get?_push_of_some _ e⟩
set_option tactic.hygienic true in
theorem iter_ok {z:Value} {v:V} {items:List V} {E:Value->Shared->Prop} (S:Sat w B os G s) (l:Le H G) (src:IsSrc B G H s.heap z v items):wpAny (Mo w) A (pyIter z) (IterPost w B os A G s.heap H v items) E s:=by
  cases src with
  | val r q =>
    obtain ⟨c,hx,q⟩:=Option.bind_eq_some_iff.mp q;cases c<;>first | exact Option.noConfusion rfl (heq_of_eq q) | skip
    . cases q;obtain ⟨pa,its,n,rfl,h1,h2⟩:=CI S l r hx;refine wpAny_pyIter_tuple ⟨_,h1,rfl,n,rfl⟩ ?_;obtain ⟨e1,S1,k1⟩:=new_rw (s':={s with heap:=s.heap.push {cls:=.type "tuple_iterator",data:=.fields #[.ref pa,.int 0 0]}}) S rfl rfl rfl rfl;exact ⟨_,_,_,(fun i o=>o.cls = .type "tuple_iterator" /\ o.data = .fields #[.ref pa,.int i 0]),(fun G H Y=>VR G v (.ref pa)/\look H v=some (.tup items)),e1,S1,k1,l.other (l.fresh S),rfl,AA _ _ _,.upd _ _ _,S.fresh,fun b o Y e=>Heap.get?_push_of_some _ e,⟨rfl,rfl⟩,⟨r.ext e1,hx⟩,fun hh=>strm_tup hh hx rfl⟩
    . cases q;obtain ⟨pa,its,n,rfl,h1,h2,-⟩:=Am S l r hx;refine wpAny_pyIter_list h1.isList ?_;obtain ⟨e1,S1,k1⟩:=new_rw (s':={s with heap:=s.heap.push {cls:=.type "list_iterator",data:=.fields #[.ref pa,.int 0 0]}}) S rfl rfl rfl rfl;exact ⟨_,_,_,(fun i o=>o.cls = .type "list_iterator" /\ o.data = .fields #[.ref pa,.int i 0]),(fun G H Y=>VR G v (.ref pa)/\look H v=some (.lst items)),e1,S1,k1,l.other (l.fresh S),rfl,AA _ _ _,.upd _ _ _,S.fresh,fun b o Y e=>Heap.get?_push_of_some _ e,⟨rfl,rfl⟩,⟨r.ext e1,hx⟩,fun hh=>strm_list hh hx rfl⟩
    . rename_i es;cases v with
      | ref _=>cases q
      | dct es' =>
        cases hx;cases q;obtain ⟨pa,rfl,hG⟩:=r;obtain ⟨h0,kvs,h1,h2⟩:=(S.cells pa _ hG).2;obtain ⟨ep,hat⟩:=h1.dictAt;obtain ⟨od,es2,g1,g2⟩:=id hat;refine wpAny_pyIter_dict (knd:=SK w) h0 hat ?_;obtain ⟨e1,S1,k1⟩:=new_rw (s':={s with heap:=s.heap.push {cls:=.type "dict_keyiterator",data:=.fields #[.ref pa,.int 0 0,.int kvs.length 0,.int ep 0]}}) S rfl rfl rfl rfl;have hne:pa≠s.heap.objs.size:=fun q=>by have:=Heap.lt_size g1;rw [q] at this;exact Nat.lt_irrefl _ this
        exact ⟨_,_,_,(fun i o=>o.cls = .type "dict_keyiterator" /\ o.data = .fields #[.ref pa,.int i 0,.int kvs.length 0,.int ep 0]),(fun G Y h=>G pa=some (.fz (.dct es))/\h.get? pa=some od),e1,S1,k1,l.other (l.fresh S),rfl,AA _ _ _,.upd _ _ _,S.fresh,fun b o Y e=>Heap.get?_push_of_some _ e,⟨rfl,rfl⟩,⟨e1.fz hG,Heap.get?_push_of_some _ g1⟩,fun hh=>strm_dct hh h0 h2.keys (fun h hh=>⟨od,es2,hh,g2⟩) hne⟩
      | _=>cases hx
  | @rng ra n t u v2 r hn =>
    refine wpAny_pyIter_range r (small_of hn) ?_;have e:(Builtin.Range.rangeSize 0 n 1)=((n.toNat:Nat):Int):=by unfold Builtin.Range.rangeSize;simp;omega
    refine wl (e ..) ?_;obtain ⟨e1,S1,k1⟩:=new_rw (s':={s with heap:=s.heap.push {cls:=.type "range_iterator",data:=.fields #[rawInt 0,rawInt ((n.toNat:Nat):Int),rawInt 1]}}) S rfl rfl rfl rfl;refine ⟨_,_,_,(fun i o=>o={cls:=.type "range_iterator",data:=.fields #[rawInt i,rawInt ((n.toNat:Int) - i),rawInt 1]}),(fun Y Y Y=>True),e1,S1,k1,l.other (l.fresh S),rfl,AA _ _ _,.upd _ _ _,S.fresh,fun b o Y e=>Heap.get?_push_of_some _ e,?_,trivial,fun hh=>strm_rng hh n.toNat⟩;simp
  | @rev ia la v2 xs r q r1 r2 r3 =>
    refine wpAny_pyIter_revIter ⟨_,r1,rfl,rfl⟩ ?_;have e1:Ext G (Mine.upd G ia (.rw (revObj la ((xs.length:Int) - 1)))):=.upd_fresh r2;refine ⟨_,ia,_,(fun i o=>i<=xs.length/\o.cls = .type "list_reverseiterator" /\ o.data = .fields #[.ref la,rawInt ((xs.length:Int) - 1 - i)]),(fun G H Y=>VR G v (.ref la)/\look H v=some (.lst xs)),e1,⟨S.top,S.base,fun a c hc=>?_,S.gens,S.os,e1.tb S.tbs⟩,.refl _ _,l.other ?_,rfl,AA _ _ _,.upd _ _ _,r2,fun b o Y e=>e,⟨Nat.zero_le _,rfl,by simp [revObj]⟩,⟨r.ext e1,q⟩,fun hh=>strm_rev hh q rfl⟩
    . by_cases z:a=ia
      . subst z;rw [AA] at hc;cases hc;exact ⟨r3,r1⟩
      . rw [AC z] at hc;exact ⟨(S.cells a c hc).1,(S.cells a c hc).2.ext e1⟩
    . cases hq:H ia with
      | none=>rfl
      | some v=>have:=l ia v hq;rw [r2] at this;cases this
end
section
variable {w:World} {B:Heap} {os:OsState} {A:Around} {d:Nat} {env:Env} {c:Sc} {K:KV} {X:KX} {m:Lm} {H:Hp} {G G' G₀:Gh} {s s':Shared} {x:Str} {p:Pos} {D:Addr} {o:Obj} {h h':Heap}
theorem Sat.setLc (S:Sat w B os G s) {L:Addr} (hL:G L=some .lc) (k:Heap.SameBut L s.heap s'.heap) (hl:∃ o es ep,s'.heap.get? L=some o/\o.data = .dict es ep) (hg:s'.gens=s.gens) (ho:s'.os=s.os):Sat w B os G s':=by
  refine ⟨S.top,fun b o h=>?_,fun b c h=>?_,hg.trans S.gens,ho.trans S.os,S.tbs⟩
  . have:b≠L:=fun q=>by subst q;have:=(S.cells b _ hL).1;rw [h] at this;cases this
    exact (k.2 b this).trans (S.base b o h)
  . by_cases q:b=L
    . subst q;rw [hL] at h;cases h;exact ⟨S.alone hL,hl⟩
    . refine ⟨S.alone h,(S.cells b c h).2.keep (fun o z=>(k.2 b q).trans z) fun dx o' hd z=>?_⟩;have:dx≠L:=fun q=>by subst q;rw [hL] at hd;cases hd
      exact (k.2 dx this).trans z
theorem Ns.alive {h:Heap} {a:Addr} {mm:Str->Option Value} (x:h.Ns a mm):∃ o es ep,h.get? a=some o/\o.data = .dict es ep:=by obtain ⟨o,es,ep,ho,hd,_⟩:=x;exact ⟨o,es,ep,ho,hd⟩
theorem store_ok {ls:List Str} {v:V} {y:Value} {i:Nat} (a:At w B os A d env ls m H G s) (hl:env.kindOf x=some .local) (hi:ls[i]?=some x) (hu:∀ j v,j≠i->ls[j]?=some x->m[j]?≠some (some v)) (r:VR G v y) {Q:Unit->Shared->Prop} {E:Value->Shared->Prop}
    (q:∀ h' tk,Heap.SameBut env.locals s.heap h'->At w B os A d env ls (m.set i (some v)) H G {s with heap:=h',toks:=tk}->Q () {s with heap:=h',toks:=tk}):wpAny (Mo w) A (storeName env x y) Q E s:=by
  obtain ⟨S,cx,L,le⟩:=a;obtain ⟨h1,h2,h3,h4,⟨mm,hn,hv⟩,hc⟩:=L;refine wpAny_storeName_local hl hn (fun h' hn' hs'=>q h' _ hs' ⟨S.setLc (s':={s with heap:=h',toks:=s.toks+1}) h4 hs' (Ns.alive hn') rfl rfl,cx,⟨h1,h2,h3,h4,⟨_,hn',fun j z v' e1 e2 e3=>?_⟩,fun j z v' e1 e2 e3=>?_⟩,le⟩) (by rw [h1];rfl)
  . by_cases ej:j=i
    . subst ej;rw [hi] at e1;cases e1;replace e2:=(List.getElem?_set)▸e2;split at e2
      . split at e2
        . cases e2;exact ⟨y,if_pos rfl,r⟩
        . cases e2
      . rename_i n;exact absurd rfl n
    . replace e2:=(List.getElem?_set_ne (Ne.symm ej))▸e2;by_cases ez:z=x
      . subst ez;exact absurd e2 (hu j v' ej e1)
      . obtain ⟨y',q1,q2⟩:=hv j z v' e1 e2 e3;exact ⟨y',by show (if z=x then some y else mm z)=some y';rw [if_neg ez];exact q1,q2⟩
  . by_cases ej:j=i
    . subst ej;rw [hi] at e1;cases e1;replace e3:=hl▸e3;rcases e3 with e3 | e3<;>cases e3
    . replace e2:=(List.getElem?_set_ne (Ne.symm ej))▸e2;exact hc j z v' e1 e2 e3
noncomputable def BM (items:List Value) (n:Nat):Obj:={cls:=.type "list",data:=.seq items.toArray n}
theorem app_raw {items:List Value} {n:Nat} {y:Value} (S:Sat w B os G s) (hD:G D=some (.rw (BM items n))) (hz:items.length<=1000000) {Q:Value->Shared->Prop} {E:Value->Shared->Prop}
    (q:∀ n' h',Heap.SameBut D s.heap h'->h'.get? D=some (BM (items++[y]) n')->Q .none {s with heap:=h'}):wpAny (Mo w) A (call (.builtin "list.append") [.ref D,y]) Q E s:=by
  have j1:IsL s.heap D items.toArray n:=(S.cells _ _ hD).2;refine call_meets PySem.F.slot_list_append ⟨_,j1,rfl⟩ PySem.F.entry_list_append (PySem.F.args_list_append_2 _ _) (list_append D items.toArray n y (by simpa using An hz)) ⟨j1,?_⟩;have u:=j1.update (·.push y);have e:items.toArray.push y=(items++[y]).toArray:=by simp
  rw [e] at u;exact q _ _ (Heap.SameBut.update ..) u
end
noncomputable def clo (env:Env):List (Str×NameKind)->List (Str×Addr)->List (Str×Addr)
  | [],cs=>cs
  | (n,k)::r,cs=>if k == .free then clo env r ((n,(env.cells.lookup n).getD 0)::cs) else clo env r cs
theorem clo_cons {env:Env} {n:Str} {k:NameKind} {r:List (Str×NameKind)} {cs:List (Str×Addr)}:clo env ((n,k)::r) cs=if k == .free then clo env r ((n,(env.cells.lookup n).getD 0)::cs) else clo env r cs:=rfl
theorem clo_is (env:Env) (f:Str×NameKind->List (Str×Addr)->Sem (ForInStep (List (Str×Addr)))) (hf:∀ n k cs,f (n,k) cs=if k == .free then (do let a <- cellOf env n;pure (.yield ((n,a)::cs))) else pure (.yield cs)) :
    ∀ (names:List (Str×NameKind)) (cs:List (Str×Addr)),(∀ q∈names,q.2 = .free->∃ a,env.cells.lookup q.1=some a)->forIn names cs f=pure (clo env names cs):=by
  intro l
  induction l with
  | nil=>intro cs _;exact rfl
  | cons Q r IH =>
    obtain ⟨n,k⟩:=Q;intro cs h;refine wl (List.forIn_cons ..) ?_;refine wl (hf ..) ?_;refine wl (clo_cons ..) ?_;by_cases hk:(k == NameKind.free)=true
    . refine wl (if_pos hk ..) ?_;refine wl (if_pos hk ..) ?_;obtain ⟨a,ha⟩:=h (n,k) (.head _) (beq_iff_eq.mp hk);have:cellOf env n=pure a:=by unfold cellOf;rw [ha]
      refine wl (this ..) ?_;refine wl (ha ..) ?_;simp only [pure_bind,Option.getD_some];exact IH _ fun q hq=>h q (.tail _ hq)
    . refine wl (if_neg hk ..) ?_;refine wl (if_neg hk ..) ?_;simp only [pure_bind];exact IH _ fun q hq=>h q (.tail _ hq)
theorem closure_is {scope:Scope} {env:Env} (h:∀ q∈scope.names,q.2 = .free->∃ a,env.cells.lookup q.1=some a):closureFor scope env=pure (clo env scope.names []):=by simp only [closureFor];refine wl (clo_is env _ (fun n k cs=>by cases hk:(k == NameKind.free)<;>simp [hk]) scope.names [] h ..) ?_;rfl
theorem clo_lookup (env:Env) {y:Str} {a:Addr} (ha:env.cells.lookup y=some a):∀ (names:List (Str×NameKind)) (cs:List (Str×Addr)),(cs.lookup y=some a\/(cs.lookup y=none/\(y,NameKind.free)∈names))->(clo env names cs).lookup y=some a:=by
  intro l
  induction l with
  | nil=>intro cs h;rcases h with h | ⟨_,h⟩;exact h;cases h
  | cons Q r IH =>
    obtain ⟨n,k⟩:=Q;intro cs h;refine wl (clo_cons ..) ?_;by_cases hk:(k == NameKind.free)=true
    . refine wl (if_pos hk ..) ?_;refine IH _ ?_;refine wl (List.lookup_cons ..) ?_;by_cases hn:(y == n)=true
      . refine wl (hn ..) ?_;have:=beq_iff_eq.mp hn;subst this;exact .inl (by simp [ha])
      . rw [Bool.not_eq_true] at hn;refine wl (hn ..) ?_;rcases h with h | ⟨h1,h2⟩
        . exact .inl h
        . rcases List.mem_cons.mp h2 with h2 | h2
          . cases h2;simp at hn
          . exact .inr ⟨h1,h2⟩
    . refine wl (if_neg hk ..) ?_;refine IH _ ?_;rcases h with h | ⟨h1,h2⟩
      . exact .inl h
      . rcases List.mem_cons.mp h2 with h2 | h2
        . cases h2;exact absurd rfl hk
        . exact .inr ⟨h1,h2⟩
theorem lookup_map (g:Str->NameKind->NameKind):∀ (names:List (Str×NameKind)) (y:Str),(names.map fun q=>(q.1,g q.1 q.2)).lookup y=(names.lookup y).map (g y)
  | [],_=>rfl
  | (n,k)::r,y=>by
    simp only [List.map_cons,List.lookup_cons];cases h:y == n with
    | true=>rw [beq_iff_eq.mp h];rfl
    | false=>exact lookup_map g r y
theorem DI (scope:Scope) (env:Env) (y:Str):(relabel scope env).names.lookup y=(scope.names.lookup y).map fun k=>if (k == .free && env.scope.kind == .function && env.kindOf y == some .cell) then .cell else k:=by
  have:=lookup_map (fun n k=>if (k == .free && env.scope.kind == .function && env.kindOf n == some .cell) then .cell else k) scope.names y;refine wr (this ..) ?_;unfold relabel
  congr 1
  apply List.map_congr_left;rintro ⟨n,k⟩ _;show (if (k == .free && env.scope.kind == .function && env.kindOf n == some .cell)=true then (n,NameKind.cell) else (n,k))=(n,if (k == .free && env.scope.kind == .function && env.kindOf n == some .cell)=true then .cell else k);split<;>rfl
section
variable {w:World} {B:Heap} {os:OsState} {A:Around} {d:Nat} {env:Env} {c:Sc} {K:KV} {X:KX} {m:Lm} {H:Hp} {G G' G₀:Gh} {s s':Shared} {x:Str} {p:Pos} {D:Addr} {o:Obj} {h h':Heap}
theorem msk_at:∀ {bs:List Bool} {m:Lm} {j:Nat} {v:V},(msk bs m)[j]?=some (some v)->bs[j]?=some true/\m[j]?=some (some v)
  | [],_,j,v,h=>Option.noConfusion rfl (heq_of_eq (List.getElem?_nil.symm.trans h))
  | _::_,[],j,v,h=>Option.noConfusion rfl (heq_of_eq (List.getElem?_nil.symm.trans h))
  | true::bs,a::m,0,v,h=>⟨rfl,h⟩
  | false::bs,a::m,0,v,h=>Option.noConfusion rfl (heq_of_eq (Option.some.inj h))
  | b::bs,a::m,j+1,v,h=>msk_at (bs:=bs) (m:=m) h
structure CompIn (c:Sc) (sc:Scope) (x:Str):Prop where
  loc:sc.names.lookup x=some .local
  kind:sc.kind = .function
  names:∀ q∈sc.names,q.2≠.cell/\(q.2 = .local->sc.names.lookup q.1=some .local)/\(q.2 = .free->c.sc.names.lookup q.1=some .cell)
theorem comp_in {sc:Scope} {a:Int} {it:Expr} {ifs:List Expr} (h:DA c sc x a it ifs=true):a=0/\Cj it=false/\Aq ifs=true/\ifs.length<=1/\CompIn c sc x:=by unfold DA at h;simp only [Bool.and_eq_true,beq_iff_eq,Bool.not_eq_true',decide_eq_true_eq] at h;obtain ⟨⟨⟨⟨⟨⟨h1,h2⟩,h3⟩,h4⟩,h5⟩,h6⟩,h7⟩:=h;refine ⟨h1,h2,h5,h6,h3,h4,fun q hq=>?_⟩;have:=List.all_eq_true.mp h7 q hq;simp only [Bool.and_eq_true,bne_iff_ne,ne_eq,Bool.or_eq_true,beq_iff_eq] at this;obtain ⟨⟨g1,g2⟩,g3⟩:=this;exact ⟨g1,fun e=>g2.resolve_left fun n=>n e,fun e=>g3.resolve_left fun n=>n e⟩
theorem inner_env {sc:Scope} (ok:EnvOk c env) (I:CompIn c sc x) (C:Addr):EnvOk (c.inner sc x) (compEnvC sc (clo env sc.names []) C env):=by
  have kd:∀ y,(compEnvC sc (clo env sc.names []) C env).kindOf y=(sc.names.lookup y).map fun k=>if (k == .free && env.scope.kind == .function && env.kindOf y == some .cell) then .cell else k:=fun y=>DI sc env y
  refine ⟨fun y hy=>?_,fun y hy=>?_,fun y hy=>?_,ok.gl,fun y hy=>?_⟩
  . refine wl (kd ..) ?_;unfold Sc.own at hy;split at hy
    . rename_i q;rw [show (c.inner sc x).sc=sc from rfl] at q;rw [q];exact .inl rfl
    . rename_i q;rw [show (c.inner sc x).sc=sc from rfl] at q;rw [q];exact .inr (.inl rfl)
    . rename_i q;rw [show (c.inner sc x).sc=sc from rfl] at q;rw [q];simp only [Option.map_some];split
      . exact .inr (.inl rfl)
      . exact .inr (.inr rfl)
    . cases hy
  . rw [kd];rw [show (c.inner sc x).sc=sc from rfl] at hy;rw [hy];rfl
  . rw [kd];unfold Sc.glob at hy;rw [show (c.inner sc x).sc=sc from rfl] at hy;rw [beq_iff_eq.mp hy];rfl
  . replace hy:=(show (c.inner sc x).sc=sc from rfl)▸hy;have:=mem_of_lookup hy;exact absurd rfl (I.names _ this).1
theorem inner_loc {sc:Scope} {C:Addr} (ok:EnvOk c env) (I:CompIn c sc x) (L:Loc env c.ls m G h) (hC:G C=some .lc) (hn:h.Ns C fun Y=>none) :
    Loc (compEnvC sc (clo env sc.names []) C env) (x::c.ls) (none::msk (c.mask sc) m) G h:=by
  obtain ⟨h1,h2,h3,h4,⟨mm,hm,hv⟩,hc⟩:=L;have kd:∀ y,(compEnvC sc (clo env sc.names []) C env).kindOf y=(sc.names.lookup y).map fun k=>if (k == .free && env.scope.kind == .function && env.kindOf y == some .cell) then .cell else k:=fun y=>DI sc env y
  have mk:∀ {j:Nat} {y:Str} {v:V},c.ls[j]?=some y->(msk (c.mask sc) m)[j]?=some (some v)->sc.names.lookup y=some .free/\m[j]?=some (some v):=by intro j y v e1 e2;obtain ⟨q1,q2⟩:=msk_at e2;unfold Sc.mask at q1;replace q1:=(List.getElem?_map)▸q1;replace q1:=e1▸q1;exact ⟨by simpa using q1,q2⟩
  refine ⟨I.kind,h2,h3,hC,⟨_,hn,fun i y v e1 e2 e3=>?_⟩,fun i y v e1 e2 e3=>?_⟩
  . cases i with
    | zero=>simp at e2
    | succ i=>simp only [List.getElem?_cons_succ] at e1 e2;obtain ⟨q1,q2⟩:=mk e1 e2;rw [kd] at e3;replace e3:=q1▸e3;simp only [Option.map_some] at e3;split at e3<;>cases e3
  . cases i with
    | zero=>simp at e2
    | succ i=>simp only [List.getElem?_cons_succ] at e1 e2;obtain ⟨q1,q2⟩:=mk e1 e2;have q3:=(I.names _ (mem_of_lookup q1)).2.2 rfl;obtain ⟨q4,a,q5⟩:=ok.cell y q3;obtain ⟨ca,o,z,g1,g2,g3,g4⟩:=hc i y v e1 q2 (.inl q4);exact ⟨ca,o,z,clo_lookup env g1 sc.names [] (.inr ⟨rfl,mem_of_lookup q1⟩),g2,g3,g4⟩
end
section
variable {w:World} {B:Heap} {os:OsState} {A:Around} {d:Nat} {env:Env} {c:Sc} {K:KV} {X:KX} {m:Lm} {H:Hp} {G G' G₀:Gh} {s s':Shared} {x:Str} {p:Pos} {D:Addr} {o:Obj} {h h' h₀:Heap}
theorem Loc.weak {ls:List Str} {m':Lm} (l:Loc env ls m G h) (k:∀ (j:Nat) (v:V),m'[j]?=some (some v)->m[j]?=some (some v)):Loc env ls m' G h:=by obtain ⟨a,b,cc,dd,⟨mm,hn,hv⟩,hc⟩:=l;exact ⟨a,b,cc,dd,⟨mm,hn,fun i x v h1 h2 h3=>hv i x v h1 (k i v h2) h3⟩,fun i x v h1 h2 h3=>hc i x v h1 (k i v h2) h3⟩
theorem At.weak {ls:List Str} {m':Lm} (a:At w B os A d env ls m H G s) (k:∀ (j:Nat) (v:V),m'[j]?=some (some v)->m[j]?=some (some v)):At w B os A d env ls m' H G s:=⟨a.sat,a.cx,a.loc.weak k,a.le⟩
theorem cond_ok {ifs:List Expr} {K:Bool->Hp->Prop} (iht:∀ t∈ifs,PT t) (h1:Aq ifs=true) (h2:ifs.length<=1) (ok:EnvOk c env) (hv:vcC d (AT c ifs) K X m H) (a:At w B os A d env c.ls m H G s) :
    wpAny (Mo w) A (forIn ifs true fun c r=>if r=true then do let ok <- isTrue c env (eval c env);pure (ForInStep.yield ok) else pure (ForInStep.yield r)) (PG w B os relB G s.heap K) (PostX w B os G s.heap X) s:=by
  match ifs,iht,h1,h2,hv with
  | [],_,_,_,hv=>exact wpAny_tests_nil (WG.now (rel:=relB) (b:=true) a.sat a.le rfl hv)
  | [t],iht,h1,_,hv=>exact wpAny_tests_one (iht t (.head _) ((Bool.and_eq_true_iff.mp h1).1) ok hv G s a)
inductive CompEnd (w:World) (B:Heap) (os:OsState) (G₀:Gh) (h₀:Heap) (C D:Addr) (Kend:List V->Hp->Prop) (s':Shared):Prop
  | mk (G:Gh) (H:Hp) (acc:List V) (its:List Value) (n:Nat) (mm:Str->Option Value) (e:Ext G₀ G) (S:Sat w B os G s') (l:LKeep G₀ h₀ s'.heap) (le:Le H G) (hD:G D=some (.rw (BM its n))) (r:VRs G acc its) (hn:s'.heap.Ns C mm) (hC:G C=some .lc) (k:Kend acc H)
inductive CLs (w:World) (B:Heap) (os:OsState) (A:Around) (d:Nat) (env:Env) (ls:List Str) (G₀:Gh) (h₀:Heap) (ia D:Addr) (IO:Nat->Obj->Prop) (Ok:Gh->Hp->Heap->Prop) (m:Lm) (i:Nat) (acc:List V) (G:Gh) (H:Hp) (s:Shared):Prop
  | mk (its:List Value) (nn:Nat) (obj:Obj) (e0:Ext G₀ G) (k0:LKeep G₀ h₀ s.heap) (hG:G ia=some (.rw obj)) (hio:IO i obj) (hok:Ok G H s.heap) (hGD:G D=some (.rw (BM its nn))) (hacc:VRs G acc its) (a:At w B os A d env ls m H G s)
inductive CLI (w:World) (B:Heap) (os:OsState) (A:Around) (d:Nat) (env:Env) (ls:List Str) (G₀:Gh) (h₀:Heap) (ia D:Addr) (IO:Nat->Obj->Prop) (Ok:Gh->Hp->Heap->Prop) (m:Lm) (I:Nat->List V->Hp->Prop) (tot n:Nat) (s:Shared):Prop
  | mk (i:Nat) (acc:List V) (G:Gh) (H:Hp) (e:n=tot - i) (hi:i<=tot) (hal:acc.length<=i) (cl:CLs w B os A d env ls G₀ h₀ ia D IO Ok m i acc G H s) (hI:I i acc H)
theorem PostX.no {y:Value} {P:Prop} (p:PostX w B os G h (fun Y Y=>False) y s'):P:=p.casesOn fun Y Y Y Y Y Y Y Y f=>f.elim
variable {ls:List Str} {ia C:Addr} {items acc:List V} {v₀ v:V} {H₀ H':Hp} {IO:Nat->Obj->Prop} {Ok:Gh->Hp->Heap->Prop} {mk:Lm} {i:Nat} {z:Value}
theorem CLs.at (cl:CLs w B os A d env ls G₀ h₀ ia D IO Ok m i acc G H s):At w B os A d env ls m H G s:=cl.casesOn fun Y Y Y Y Y Y Y Y Y Y a=>a
theorem CLs.weak (cl:CLs w B os A d env ls G₀ h₀ ia D IO Ok (some v::mk) i acc G H s):CLs w B os A d env ls G₀ h₀ ia D IO Ok (none::mk) i acc G H s :=
  cl.casesOn fun its nn obj e0 k0 hG hio hok hGD hacc a=>⟨its,nn,obj,e0,k0,hG,hio,hok,hGD,hacc,a.weak fun j v hj=>by cases j with | zero=>simp at hj | succ j=>simpa using hj⟩
theorem CLs.step (st:Strm w B os A ia items (AL v₀ H₀) IO Ok) (cl:CLs w B os A d env ls G₀ h₀ ia D IO Ok m i acc G H s) (hs:AL v₀ H₀ H') (e:Ext G G') (S:Sat w B os G' s') (l:LKeep G s.heap s'.heap) (le:Le H' G'):CLs w B os A d env ls G₀ h₀ ia D IO Ok m i acc G' H' s':=by obtain ⟨its,nn,obj,e0,k0,hG,hio,hok,hGD,hacc,a⟩:=cl;exact ⟨its,nn,obj,e0.trans e,k0.trans e0 l,e.rw hG,hio,st.step hok hs e (fun b v hb o q=>(l b).2 v hb o q),e.rw hGD,hacc.ext e,a.step e S l le⟩
theorem CLs.app (st:Strm w B os A ia items (AL v₀ H₀) IO Ok) (cl:CLs w B os A d env ls G₀ h₀ ia D IO Ok m i acc G H s) (hD:G₀ D=none) (hne:ia≠D) (r:VR G v z) (hl:acc.length<=1000000) {Q E:Value->Shared->Prop}
    (q:∀ G' s',CLs w B os A d env ls G₀ h₀ ia D IO Ok m i (acc++[v]) G' H s'->Q .none s'):wpAny (Mo w) A (call (.builtin "list.append") [.ref D,z]) Q E s:=by
  obtain ⟨its,nn,obj,e0,k0,hG,hio,hok,hGD,hacc,a⟩:=cl;refine app_raw a.sat hGD (hacc.length▸hl) fun n' h5 hs5 hD5=>?_;have kd:∀ b o,b≠D->s.heap.get? b=some o->h5.get? b=some o:=fun b o nb e=>(hs5.2 b nb).trans e;have eb:=EqB.upd G D (.rw (BM (its++[z]) n'));exact q _ _ ⟨its++[z],n',obj,eb.ext e0 hD,k0.trans e0 (lkeepB hGD kd),(eb ia hne).trans hG,hio,st.raw hGD hok eb kd,AA _ _ _,(hacc.append (.cons r .nil)).extB eb.extB hGD,
    eb.at (s':={s with heap:=h5}) hGD (fun v q=>by cases q) a kd (fun cc hc=>by rw [AA] at hc;cases hc;exact hD5) rfl rfl⟩
theorem CLs.next (st:Strm w B os A ia items (AL v₀ H₀) IO Ok) (cl:CLs w B os A d env ls G₀ h₀ ia D IO Ok m i acc G H s) (hv:items[i]?=some v) (hia:G₀ ia=none) (hne:ia≠D) {Q:Option Value->Shared->Prop} {E:Value->Shared->Prop}
    (q:∀ z G' s',VR G' v z->CLs w B os A d env ls G₀ h₀ ia D IO Ok m (i+1) acc G' H s'->Q (some z) s'):wpAny (Mo w) A (pyNext (.ref ia)) Q E s:=by
  obtain ⟨its,nn,obj,e0,k0,hG,hio,hok,hGD,hacc,a⟩:=cl;refine st.next a.sat a.le hok hG hio hv fun z h' tk obj' rz hio' hob hsb=>?_
  have kb:∀ b o,b≠ia->s.heap.get? b=some o->h'.get? b=some o:=fun b o nb e=>(hsb.2 b nb).trans e;have eb:=EqB.upd G ia (.rw obj');exact q z _ _ (eb.vr hG rz) ⟨its,nn,obj',eb.ext e0 hia,k0.trans e0 (lkeepB hG kb),AA _ _ _,hio',st.raw hG hok eb kb,(eb D (Ne.symm hne)).trans hGD,hacc.extB eb.extB hG,
    eb.at (s':={s with heap:=h',toks:=tk}) hG (st.ncell i obj hio) a kb (fun cc hc=>by rw [AA] at hc;cases hc;exact hob) rfl rfl⟩
theorem CLs.store (st:Strm w B os A ia items (AL v₀ H₀) IO Ok) (cl:CLs w B os A d env ls G₀ h₀ ia D IO Ok (none::mk) i acc G H s) (hx:env.kindOf x=some .local) (hls:ls[0]?=some x) (hmk:∀ j v,ls[j+1]?=some x->mk[j]?≠some (some v)) (hC:G₀ env.locals=none) (hst:AL v₀ H₀ H) (r:VR G v z) {Q:Unit->Shared->Prop} {E:Value->Shared->Prop}
    (q:∀ s',CLs w B os A d env ls G₀ h₀ ia D IO Ok (some v::mk) i acc G H s'->Q () s'):wpAny (Mo w) A (storeName env x z) Q E s:=by
  obtain ⟨its,nn,obj,e0,k0,hG,hio,hok,hGD,hacc,a⟩:=cl;refine store_ok a hx (i:=0) hls (fun j v hj hl hm=>?_) r fun h2 tk hs2 a2=>?_
  . cases j with
    | zero=>exact hj rfl
    | succ j=>exact hmk j v hl (by simpa using hm)
  have kc:∀ b o,b≠env.locals->s.heap.get? b=some o->h2.get? b=some o:=fun b o nb e=>(hs2.2 b nb).trans e;exact q _ ⟨its,nn,obj,e0,k0.trans (.refl G₀) (lkeepB0 hC kc),hG,hio,st.step hok hst (.refl G) (fun b v hb o e=>kc b o (fun q=>by rw [q,a.loc.lc] at hb;cases hb) e),hGD,hacc,a2⟩
theorem CLs.done (st:Strm w B os A ia items (AL v₀ H₀) IO Ok) (cl:CLs w B os A d env ls G₀ h₀ ia D IO Ok m items.length acc G H s) (hia:G₀ ia=none) (hne:ia≠D) (hC:env.locals=C) {Kend:List V->Hp->Prop} (k:Kend acc H) {Q:Option Value->Shared->Prop} {E:Value->Shared->Prop}
    (q:∀ s',CompEnd w B os G₀ h₀ C D Kend s'->Q none s'):wpAny (Mo w) A (pyNext (.ref ia)) Q E s:=by
  obtain ⟨its,nn,obj,e0,k0,hG,hio,hok,hGD,hacc,a⟩:=cl;refine st.done a.sat a.le hok hG hio fun h' kb=>?_;have eb:=EqB.del G ia;have a1:At w B os A d env ls m H (Mine.del G ia) {s with heap:=h'}:=eb.at (s':={s with heap:=h'}) hG (st.ncell _ obj hio) a kb (fun cc hc=>by simp [Mine.del] at hc) rfl rfl;obtain ⟨mm,hn,_⟩:=a1.loc.ns;exact q _ ⟨_,H,acc,its,nn,mm,eb.ext e0 hia,a1.sat,k0.trans e0 (lkeepB hG kb),a1.le,(eb D (Ne.symm hne)).trans hGD,hacc.extB eb.extB hG,hC▸hn,hC▸a1.loc.lc,k⟩
theorem comp_loop {elt iter:Expr} {px pos:Pos} {ifs:List Expr} {sc:Scope} {I:Nat->List V->Hp->Prop} {R:Result->Shared->Prop}
    (ihe:PE elt) (iht:∀ t∈ifs,PT t) (h1:Aq ifs=true) (h2:ifs.length<=1) (hx:env.kindOf x=some .local) (hls:c.ls[0]?=some x) (hmk:∀ j v,c.ls[j+1]?=some x->mk[j]?≠some (some v)) (ok:EnvOk c env) (hC:env.locals=C)
    (st:Strm w B os A ia items (AL v₀ H₀) IO Ok) (hlen:items.length<=1000000)
    (hs:∀ i acc v H',items[i]?=some v->I i acc H'->AL v₀ H₀ H'/\vcC d (AT c ifs) (fun t H''=>(t=true->vcE d (comp c elt) (fun w H=>cv w H (fun w H=>I (i+1) (acc++[w]) H)) (fun Y Y=>False) (some v::mk) H'')/\(t=false->I (i+1) acc H'')) (fun Y Y=>False) (some v::mk) H')
    (hend:∀ acc H',I items.length acc H'->AL v₀ H₀ H')
    (hC0:G₀ C=none) (hia:G₀ ia=none) (hD:G₀ D=none) (hne:ia≠D)
    (hR:∀ s',CompEnd w B os G₀ h₀ C D (fun acc H=>I items.length acc H) s'->R (.ok .next) s')
    (n:Nat) (s:Shared) (hI:CLI w B os A d env c.ls G₀ h₀ ia D IO Ok (none::mk) I items.length n s) :
      codeAny (Mo w) A (.compLoop (.ListComp elt [⟨.Name x px,iter,ifs,0⟩] sc pos) 0 (.ref ia) (.ref D) env) R s:=by
  refine codeAny_compLoop_tests (CLI w B os A d env c.ls G₀ h₀ ia D IO Ok (none::mk) I items.length) ?_ n hI;rintro n s ⟨i,acc,G,H,rfl,hi,hal,cl,hII⟩;by_cases hlt:i<items.length
  . have hv:items[i]?=some items[i]:=List.getElem?_eq_getElem hlt;obtain ⟨hst,hvc⟩:=hs i acc _ H hv hII;refine cl.next st hv hia hne fun z G1 s1 rz c1=>?_
    refine wpAny_assign_Name (c1.store st hx hls hmk (hC▸hC0) hst rz fun s2 c2=>?_);have sn:∀ {acc' H'},I (i+1) acc' H'->AL v₀ H₀ H':=fun {acc' H'} hI'=>by
      by_cases hl2:i+1<items.length
      . exact (hs (i+1) acc' _ H' (List.getElem?_eq_getElem hl2) hI').1
      . exact hend acc' H' (Nat.le_antisymm hlt (Nat.not_lt.mp hl2)▸hI')
    refine WG.on (cond_ok iht h1 h2 ok hvc c2.at) (fun G3 b3 H3 t s3 e3 S3 l3 le3 r3 k3=>?_) (fun Y Y p=>p.no);cases (r3:b3=t);cases b3 with
    | false=>have hI':=k3.2 rfl;exact wl (if_neg (by decide) ..) (⟨items.length - (i+1),(r_sl ‹_›),i+1,acc,G3,H3,rfl,hlt,(r_su ‹_›),(c2.step st (sn hI') e3 S3 l3 le3).weak,hI'⟩)
    | true=>refine wl (if_pos rfl ..) ?_;refine WG.on (WG.conv (ihe ok (k3.1 rfl) G3 s3 (c2.at.step e3 S3 l3 le3))) (fun G4 b4 H4 y s4 e4 S4 l4 le4 r4 k4=>?_) (fun Y Y p=>p.no);refine (c2.step st (sn k4) (e3.trans e4) S4 (l3.trans e3 l4) le4).app st hD hne r4 (Nat.le_trans hal (Nat.le_trans hi hlen)) fun G5 s5 c5=>⟨items.length - (i+1),(r_sl ‹_›),i+1,acc++[b4],G5,H4,rfl,hlt,by simp;assumption,c5.weak,k4⟩
  . cases Nat.le_antisymm hi (Nat.not_lt.mp hlt);exact cl.done st hia hne hC hII fun s' ce=>hR s' ce
end
section
variable {w:World} {B:Heap} {os:OsState} {A:Around} {d:Nat} {env:Env} {c:Sc} {K:KV} {X:KX} {m:Lm} {H:Hp} {G G' G₀:Gh} {s s':Shared} {x:Str} {p:Pos} {D C:Addr} {o:Obj} {h h' h₀:Heap}
theorem VR.delL (hC:G C=some .lc) {v:V} {x:Value} (h:VR G v x):VR (Mine.del G C) v x:=by
  have k:∀ {a:Addr} {v:V},G a=some (.fz v)->Mine.del G C a=some (.fz v):=fun {a v} q=>by
    have:a≠C:=fun z=>by rw [z,hC] at q;cases q
    simp [Mine.del,this];exact q
  cases v with
  | any | none | bool | int | str | ref | type | bi=>exact h
  | tup | lst | dct | obj=>obtain ⟨a,h1,h2⟩:=h;exact ⟨a,h1,k h2⟩
theorem VRs.delL (hC:G C=some .lc) {vs:List V} {xs:List Value} (h:VRs G vs xs):VRs (Mine.del G C) vs xs:=by
  induction h with
  | nil=>exact .nil
  | cons h _ ih=>exact .cons (h.delL hC) ih
theorem VKs.delL (hC:G C=some .lc) {vs:List (Str×V)} {xs:List (Str×Value)} (h:VKs G vs xs):VKs (Mine.del G C) vs xs:=by
  induction h with
  | nil=>exact .nil
  | cons h _ ih=>exact .cons (h.delL hC) ih
theorem OR.delL {a:Addr} (hC:G C=some .lc):∀ {v:V},OR w G h a v->OR w (Mine.del G C) h a v
  | .lst _,⟨i,n,h1,h2⟩=>⟨i,n,h1,h2.delL hC⟩
  | .tup _,⟨i,n,h1,h2⟩=>⟨i,n,h1,h2.delL hC⟩
  | .dct _,⟨s,k,h1,h2⟩=>⟨s,k,h1,h2.delL hC⟩
  | .obj _ _,⟨dx,h1,k,h2,h4,h5,h6,h7⟩=>⟨dx,h1,k,by
      have:dx≠C:=fun z=>by rw [z,hC] at h2;cases h2
      simp [Mine.del,this];exact h2,h4,h5,fun k v hv=>let ⟨x,a,b⟩:=h6 k v hv;⟨x,a,b.delL hC⟩,h7⟩
  | .any,h | .none,h | .bool _,h | .int _,h | .str _,h | .ref _,h | .type _,h | .bi _,h=>h.elim
theorem OC.delL {a:Addr} (hC:G C=some .lc):∀ {c:Cell},OC w G h a c->OC w (Mine.del G C) h a c
  | .fz _,x=>OR.delL hC x
  | .mu _,x=>OR.delL hC x
  | .hid _,x | .rw _,x | .fr _,x | .lc,x | .ce,x=>x
  | .tb,x=>x.to (fun Y z=>z) fun q Y z=>by
      have:q≠C:=fun y=>by rw [y,hC] at z;cases z
      simp [Mine.del,this];exact z
theorem Sat.delL (S:Sat w B os G s) (hC:G C=some .lc) (k:Heap.SameBut C s.heap s'.heap) (hg:s'.gens=s.gens) (ho:s'.os=s.os):Sat w B os (Mine.del G C) s':=by
  refine ⟨S.top,fun b o h=>?_,fun b c' h=>?_,hg.trans S.gens,ho.trans S.os,fun b q=>by
    have:b≠C:=fun y=>by have:=S.tbs b q;rw [y,hC] at this;cases this
    simp [Mine.del,this];exact S.tbs b q⟩
  . have:b≠C:=fun q=>by subst q;have:=(S.cells b _ hC).1;rw [h] at this;cases this
    exact (k.2 b this).trans (S.base b o h)
  . by_cases q:b=C
    . simp [Mine.del,q] at h
    . have h':G b=some c':=by simpa [Mine.del,q] using h
      refine ⟨S.alone h',((S.cells b c' h').2.keep (fun o z=>(k.2 b q).trans z) fun dx o' hd z=>?_).delL hC⟩;have:dx≠C:=fun q=>by subst q;rw [hC] at hd;cases hd
      exact (k.2 dx this).trans z
theorem Le.delL (l:Le H G) (hC:G C=some .lc):Le H (Mine.del G C):=fun a v q=>by
  have:a≠C:=fun z=>by have:=l a v q;rw [z,hC] at this;cases this
  simp [Mine.del,this];exact l a v q
theorem Ext.delL (x:Ext G₀ G) (h:G₀ C=none):Ext G₀ (Mine.del G C):=fun a c q n=>by
  have:a≠C:=fun z=>by rw [z,h] at q;cases q
  simp [Mine.del,this];exact x a c q n
theorem comp_end {h₁:Heap} (e:CompEnd w B os G₀ h₀ C D (fun acc H=>Ak (.lst acc) K H) s') (hC:G₀ C=none) (hD:G₀ D=none) (hs:Heap.SameBut C s'.heap h₁):PG w B os VR G₀ h₀ K (.ref D) {s' with heap:=h₁}:=by
  obtain ⟨G,H,acc,its,n,mm,e0,S,k0,le,hGD,hacc,hn,hCl,k⟩:=e;have hne:D≠C:=fun q=>by rw [q,hCl] at hGD;cases hGD
  have S1:=S.delL (s':={s' with heap:=h₁}) hCl hs rfl rfl;have hD1:Mine.del G C D=some (.rw (BM its n)):=by simp [Mine.del,hne];exact hGD
  have le1:=le.delL hCl;have ho:h₁.get? D=some (BM its n):=(hs.2 D hne).trans (S.cells _ _ hGD).2;have eb:=EqB.upd (Mine.del G C) D (.mu (.lst acc));have S2:Sat w B os (Mine.upd (Mine.del G C) D (.mu (.lst acc))) {s' with heap:=h₁}:=eb.sat (s':={s' with heap:=h₁}) hD1 S1 (fun b o Y e=>e) (fun cc hc=>by rw [AA] at hc;cases hc;exact ⟨its,n,ho,(hacc.delL hCl).extB eb.extB hD1⟩) rfl rfl;refine ⟨_,.ref D,upd H D (.lst acc),eb.ext (e0.delL hC) hD,S2,k0.trans (.refl G₀) (lkeepB0 hC fun b o nb e=>(hs.2 b nb).trans e),le1.upd _ _,rfl,k D (le1.no hD1)⟩
end
section
variable {w:World} {B:Heap} {os:OsState} {A:Around} {d:Nat} {env:Env} {c:Sc} {K:KV} {X:KX} {m:Lm} {H:Hp} {G G' G₀:Gh} {s s':Shared} {x:Str} {p:Pos} {D C:Addr} {o:Obj} {h h' h₀:Heap}
theorem comp_core {elt it:Expr} {px pos:Pos} {ifs:List Expr} {sc:Scope} {a0:Int} {use:Option (Value->Sem Unit)} {Q:Value->Shared->Prop} {E:Value->Shared->Prop} (ihe:PE elt) (iht:∀ t∈ifs,PT t) (ihi:PE it) (ihi2:∀ f a p,it = .Call f [a] [] p->PE a)
    (hset:Cj it=false) (hok:Aq ifs=true) (hlen:ifs.length<=1) (I:CompIn c sc x) (ok:EnvOk c env)
    (h:vcI d (Cf (comp c it)) (fun o items=>compV d o items (vcE d (comp (c.inner sc x) elt)) (vcC d (AT (c.inner sc x) ifs)) (c.mask sc) m K) X m H)
    (a:At w B os A d env c.ls m H G s) (hE:∀ x s',PostX w B os G s.heap X x s'->E x s')
    (hfin:∀ D C G1 s1 s',Ext G G1->LKeep G s.heap s1->G1 C=none->G1 D=none->CompEnd w B os G1 s1 C D (fun acc H=>Ak (.lst acc) K H) s'->compPost (Mo w) A E use Q (.ref D) C (.ok .next) s') :
    wpAny (Mo w) A (comprehension (.ListComp elt [⟨.Name x px,it,ifs,0⟩] sc pos) sc env (firstIterPos [⟨.Name x px,it,ifs,0⟩] pos) (newList []) false (eval it env) use) Q E s:=by
  have hcl:closureFor sc env=pure (clo env sc.names []):=closure_is fun q hq hf=>(ok.cell q.1 ((I.names q hq).2.2 hf)).2;refine wpAny_comprehension_free (use:=use) (g:=⟨.Name x px,it,ifs,0⟩) (gs:=[]) rfl (fun x=>?_) hcl I.kind (fun q hq hl=>(I.names q hq).2.1 hl) ?_
  . exact folded_no hset
  refine wpAny_mono (src_ok ihi ihi2 ok h a) (fun z s1 ⟨G1,H1,v0,items,e1,S1,l1,le1,src,k1⟩=>?_) hE;obtain ⟨hd,hit,J,hJ0,hstep,hend⟩:=k1;refine wpAny_mono (iter_ok (A:=A) (E:=E) S1 le1 src) (fun itv s2 ⟨G2,ia,obj,IO,Ok,e2,S2,l2,le2,hitv,hia,eb2,hia0,kb,hio,hoks,hst⟩=>?_) fun Y Y e=>e;subst hitv;refine wpAny_newList ?_ (by decide);obtain ⟨e3,S3,l3⟩:=new_rw (ob:=BM [] 0) (s':={s2 with heap:=s2.heap.push (BM [] 0)}) S2 rfl rfl rfl rfl;have le3:=le2.other (c:=.rw (BM [] 0)) (le2.fresh S2);refine wpAny_newFunctionEnv (fun q hq=>(I.names q hq).1) (by intro y hy;simp at hy) (fun h4 hns hsb=>?_) I.kind;have a1:=a.step e1 S1 l1 le1;have a2:=a1.step e2 S2 l2 le2;have a3:=a2.step (s':={s2 with heap:=s2.heap.push (BM [] 0)}) e3 S3 l3 le3;have S4a:=S3.push (o:={cls:=.type "dict",data:=.dict #[]}) (c:=.lc) (s':={s2 with heap:=(s2.heap.push (BM [] 0)).push {cls:=.type "dict",data:=.dict #[]}}) rfl (fun G' Y=>⟨_,_,_,Heap.get?_push_size _ rfl,rfl⟩) rfl rfl rfl;have kp4:∀ b o,(s2.heap.push (BM [] 0)).get? b=some o->h4.get? b=some o:=fun b o e=>(hsb.2 b (Nat.ne_of_lt (Heap.lt_size e))).trans (Heap.get?_push_of_some _ e);have e4:Ext (Mine.upd G2 s2.heap.objs.size (.rw (BM [] 0))) (Mine.upd (Mine.upd G2 s2.heap.objs.size (.rw (BM [] 0))) (s2.heap.push (BM [] 0)).objs.size .lc):=.upd_fresh S3.fresh;have S4:Sat w B os (Mine.upd (Mine.upd G2 s2.heap.objs.size (.rw (BM [] 0))) (s2.heap.push (BM [] 0)).objs.size .lc) {s2 with heap:=h4,toks:=s2.toks+0} :=
    S4a.setLc (s':={s2 with heap:=h4,toks:=s2.toks+0}) (AA _ _ _) hsb (Ns.alive hns) rfl rfl
  have le4:=le3.other (c:=.lc) (le3.fresh S3);have a4:=a3.step (s':={s2 with heap:=h4,toks:=s2.toks+0}) e4 S4 (.keeps kp4) le4;have hsz:(s2.heap.push (BM [] 0)).objs.size=s2.heap.objs.size+1:=Heap.size_push ..;have gn:∀ q,s2.heap.objs.size<=q->G1 q=none:=fun q hq=>by
    cases hG:G1 q with
    | none=>rfl
    | some cc =>
      obtain ⟨oo,ho⟩:=Option.isSome_iff_exists.mp (S1.cells q cc hG).2.alive;have:q≠ia:=fun z=>by rw [z,hia0] at hG;cases hG
      exact absurd (Heap.lt_size (kb q oo this ho)) (Nat.not_lt.mpr hq)
  have hD0:=gn _ (Nat.le_refl _);have hC0:=gn (s2.heap.push (BM [] 0)).objs.size (by rw [hsz];exact Nat.le_succ _);have hneD:ia≠s2.heap.objs.size:=fun q=>by have:=Heap.lt_size (S2.cells ia _ hia).2;exact absurd (q▸this) (Nat.lt_irrefl _)
  have hok':=inner_env ok I (s2.heap.push (BM [] 0)).objs.size;have st:=hst (a.cx.handled hd);have hL:=inner_loc ok I a4.loc (AA _ _ _) (by simpa using hns);have e24:=e3.trans e4;have kp24:∀ b o,s2.heap.get? b=some o->h4.get? b=some o:=fun b o e=>kp4 b o (Heap.get?_push_of_some _ e);have stay0:AL v0 H1 H1:=by cases v0<;>first | rfl | trivial
  have main:=comp_loop (w:=w) (B:=B) (os:=os) (A:=A) (d:=d) (env:=compEnvC sc (clo env sc.names []) (s2.heap.push (BM [] 0)).objs.size env) (c:=c.inner sc x) (G₀:=G1) (h₀:=s1.heap) (D:=s2.heap.objs.size) (px:=px) (pos:=pos) (iter:=it) (sc:=sc)
    (R:=compPost (Mo w) A E use Q (.ref s2.heap.objs.size) (s2.heap.push (BM [] 0)).objs.size)
    (mk:=msk (c.mask sc) m) (I:=J) (x:=x) ihe iht hok hlen (hok'.loc x I.loc) rfl (fun j v hj hm=>by
      obtain ⟨q1,q2⟩:=msk_at hm;unfold Sc.mask at q1;have hj':c.ls[j]?=some x:=by simpa [Sc.inner] using hj
      rw [List.getElem?_map,hj'] at q1;simp [I.loc] at q1) hok' rfl st hit hstep (fun acc H' hI=>(hend acc H' hI).1) hC0 hia0 hD0 hneD (fun s' ce=>by
        have ce':CompEnd w B os G1 s1.heap (s2.heap.push (BM [] 0)).objs.size s2.heap.objs.size (fun acc H=>Ak (.lst acc) K H) s':=by obtain ⟨g1,g2,g3,g4,g5,g6,q1,q2,q3,q4,q5,q6,q7,q8,q9⟩:=ce;exact ⟨g1,g2,g3,g4,g5,g6,q1,q2,q3,q4,q5,q6,q7,q8,(hend g3 g2 q9).2⟩
        exact hfin _ _ G1 s1.heap s' e1 l1 hC0 hD0 ce') items.length {s2 with heap:=h4,toks:=s2.toks+0}
    ⟨0,[],_,H1,rfl,Nat.zero_le _,Nat.le_refl _,⟨[],0,obj,e2.trans e24,l2.trans e2 (.keeps kp24),e24.rw hia,hio,st.step hoks stay0 e24 (fun b v hb o e=>kp24 b o e),e4.rw (AA _ _ _),.nil,⟨S4,a4.cx,hL,le4⟩⟩,hJ0⟩
  refine codeAny_compStart_list main ?_;exact st.self S4 (e24.rw hia) hio main
theorem pe_comp {elt it:Expr} {px pos:Pos} {ifs:List Expr} {sc:Scope} {a0:Int} (ihe:PE elt) (iht:∀ t∈ifs,PT t) (ihi:PE it) (ihi2:∀ f a p,it = .Call f [a] [] p->PE a):PE (.ListComp elt [⟨.Name x px,it,ifs,a0⟩] sc pos):=by
  intro w B os A d env c K X m H ok h G s a;rw [comp_ListComp] at h;split at h
  . rename_i hc;obtain ⟨rfl,hset,hok,hlen,I⟩:=comp_in hc;dsimp only [E_comp] at h;rw [eval_ListComp];refine comp_core (a0:=0) ihe iht ihi ihi2 hset hok hlen I ok h a (fun Y Y e=>e) fun D C G1 s1 s' e1 l1 hC hD ce=>?_;have ce':=ce;obtain ⟨g1,g2,g3,g4,g5,mm,q1,q2,q3,q4,q5,q6,q7,q8,q9⟩:=ce';exact ⟨mm,q7,fun h' hs'=>(comp_end ce hC hD hs').pre e1 l1⟩
  . exact h.elim
end
theorem lri_no_len:typeLookup (.type "list_reverseiterator") "__len__" = pure none:=by rw [typeLookup_type,builtinLookup_eq_fast];kernel_rfl
theorem lri_hint:typeLookup (.type "list_reverseiterator") "__length_hint__" = pure (some (.builtin "list_reverseiterator.__length_hint__")):=by rw [typeLookup_type,builtinLookup_eq_fast];kernel_rfl
theorem VRs.rev {G:Gh} {vs:List V} {xs:List Value} (h:VRs G vs xs):VRs G vs.reverse xs.reverse:=by
  induction h with
  | nil=>exact .nil
  | cons h _ ih=>rw [List.reverse_cons,List.reverse_cons];exact ih.append (.cons h .nil)
section
variable {w:World} {A:Around} {s:Shared} {E:Value->Shared->Prop}
theorem hint_rev {it l:Addr} {i:Int} {Q:Bool->Shared->Prop} (hit:s.heap.IsRevIter it l i) (h:Q false s):wpAny (Mo w) A (Builtin.List.listLengthHint (.ref it)) Q E s:=by
  unfold Builtin.List.listLengthHint;refine wpAny_bind (wpAny_specialOf hit.typeIs lri_no_len ?_);show wpAny _ A (specialOf (Value.ref it) (Str.ofString "__length_hint__") >>= _) _ _ _;refine wpAny_bind (wpAny_specialOf hit.typeIs lri_hint ?_);generalize hid:("list_reverseiterator.__length_hint__" : String)=id0
  wp_delta
  refine wl (show splitId id0=some ("list_reverseiterator","__length_hint__") from by subst hid;decide +kernel) ?_;subst hid;refine wpAny_bind (wpAny_isInstance (T := "list_reverseiterator") (b:=true) hit.typeIs (by rw [isSubtype_type];kernel_rfl) ?_);refine wpAny_ite_split (fun hab=>absurd hab (by decide)) (fun Y=>?_);refine wpAny_ite_split (fun Y=>?_) (fun hab=>absurd (by decide +kernel) hab);exact wpAny_ite_split (fun hab=>absurd hab (by decide)) (fun Y=>wpAny_pure h)
theorem ext_loop {it l S:Addr} {items:List Value} {res:Value} {R:Result->Shared->Prop} (hh:A.handled=none) (n1:l≠it) (n2:S≠it) (n3:S≠l) :
    ∀ (k:Nat) (s:Shared) (al:List Value) (c:Nat),k<=items.length->s.heap.IsRevIter it l ((k:Int) - 1)->s.heap.IsList l items.toArray->s.heap.get? S=some {cls:=.type "list",data:=.seq al.toArray c}->al.length+k<=2000000 ->
      (∀ h' c',(∀ b o,b≠S->b≠it->s.heap.get? b=some o->h'.get? b=some o)->h'.get? S=some {cls:=.type "list",data:=.seq (al++(items.take k).reverse).toArray c'}->R (.ok (.ret res)) {s with heap:=h'}) ->
      codeAny (Mo w) A (.builtin "list.extend.loop" ⟨[.ref S,.ref it,res],[]⟩) R s:=by
  intro l
  induction l with
  | zero=>intro s al c hk hit hl hS hz hR;refine codeAny_builtin F.entry_extend_loop ?_;refine wl (Around.under_plainId F.plain_extend_loop _ ..) ?_;show wpAny _ A.in1 (pyNext (.ref it) >>= _) _ _ s;refine wpAny_bind (wpAny_pyNext_rev_end hh (by simpa using hit) fun h' hx=>wpAny_pure (hR h' c (fun b o Y n e=>hx b o n e) ?_));simpa using hx _ _ n2 hS
  | succ k IH =>
    intro s al c hk hit hl hS hz hR;have hv:items.toArray[k]?=some items[k]:=by simp
    have ek:=r_i1 k;replace hit:=ek▸hit;refine codeAny_builtin F.entry_extend_loop ?_;refine wl (Around.under_plainId F.plain_extend_loop _ ..) ?_;show wpAny _ A.in1 (pyNext (.ref it) >>= _) _ _ s;refine wpAny_bind (wpAny_pyNext_rev_item hit hl hv fun h1 hit1 hs1=>?_);have hS1:=(hs1.2 _ n2).trans hS;show wpAny _ A.in1 (updateSeq S (·.push items[k]) >>= _) _ _ _;refine wpAny_bind (wpAny_updateSeq hS1 rfl (wpAny_pure ⟨plainId_quiet F.plain_extend_loop _,?_⟩) (by rw [List.size_toArray];exact r_pl ‹_› (by decide)) (by show (al.toArray.push _).size<=_;rw [Array.size_push,List.size_toArray];exact r_p1l ‹_› (by decide)));have s2:=Heap.SameBut.update h1 S (Obj.mapSeq (·.push items[k]));obtain ⟨c2,hc2⟩:∃ c2,(h1.update S (Obj.mapSeq (·.push items[k]))).get? S=some {cls:=.type "list",data:=.seq (al++[items[k]]).toArray c2}:=⟨_,by
      have:=Heap.get?_update_self (Obj.mapSeq (·.push items[k])) hS1 rfl;rw [this];simp [Obj.mapSeq];rfl⟩
    refine IH _ (al++[items[k]]) c2 (Nat.le_of_succ_le hk) (hit1.at fun o e=>(s2.2 _ n2.symm).trans e) (hl.at fun o e=>(s2.2 _ n3.symm).trans ((hs1.2 _ n1).trans e)) hc2 (by simp;exact r_p1 ‹_›) fun h' c' kp hf=>hR h' c' (fun b o m1 m2 e=>kp b o m1 m2 ((s2.2 b m1).trans ((hs1.2 b m2).trans e))) ?_;refine wl (hf ..) ?_;refine wl (List.take_succ_eq_append_getElem hk ..) ?_;refine wl (List.reverse_append ..) ?_;simp
theorem ext_with {it l S:Addr} {items al:List Value} {c:Nat} {res:Value} {R:Result->Shared->Prop} (hh:A.handled=none) (n1:l≠it) (n2:S≠it) (n3:S≠l) (hit:s.heap.IsRevIter it l ((items.length:Int) - 1)) (hl:s.heap.IsList l items.toArray) (hS:s.heap.get? S=some {cls:=.type "list",data:=.seq al.toArray c}) (hz:al.length+items.length<=2000000)
    (hR:∀ h' c',(∀ b o,b≠S->b≠it->s.heap.get? b=some o->h'.get? b=some o)->h'.get? S=some {cls:=.type "list",data:=.seq (al++items.reverse).toArray c'}->R (.ok (.ret res)) {s with heap:=h'}) :
    wpAny (Mo w) A.in1 (Builtin.List.listExtendWith (.ref S) (.ref it) res)
      (fun fin s'=>match fin with | .done f=>R (.ok f) s' | .again c'=>c'.quiet=true/\codeAny (Mo w) A c' R s') (fun e s'=>R (.error e) s') s:=by
  unfold Builtin.List.listExtendWith;refine wpAny_bind (wpAny_typeOf hit.typeIs ?_);have h1:Builtin.List.listSameRef (.ref S) (.ref it)=false:=by simp [Builtin.List.listSameRef,n2]
  have h2:(Value.type "list_reverseiterator" == Value.type "list")=false:=by decide
  have h3:(Value.type "list_reverseiterator" == Value.type "tuple")=false:=by decide
  simp only [h1,h2,h3,Bool.or_false,Bool.false_eq_true,if_false];refine wpAny_bind (wpAny_pyIter_revIter hit ?_);refine wpAny_bind (wpAny_holding (hint_rev hit ?_));refine wpAny_ite_split (fun hab=>absurd hab (by decide +kernel)) (fun Y=>?_);refine wpAny_pure ⟨plainId_quiet F.plain_extend_loop _,ext_loop hh n1 n2 n3 items.length s al c (Nat.le_refl _) hit hl hS hz fun h' c' kp hf=>hR h' c' kp ?_⟩;refine wl (hf ..) ?_;exact wl (List.take_length ..) rfl
theorem ext_call {it l S:Addr} {items al:List Value} {c:Nat} {R:Result->Shared->Prop} (hh:A.handled=none) (n1:l≠it) (n2:S≠it) (n3:S≠l) (hit:s.heap.IsRevIter it l ((items.length:Int) - 1)) (hl:s.heap.IsList l items.toArray) (hS:s.heap.get? S=some {cls:=.type "list",data:=.seq al.toArray c}) (hz:al.length+items.length<=2000000)
    (hR:∀ h' c',(∀ b o,b≠S->b≠it->s.heap.get? b=some o->h'.get? b=some o)->h'.get? S=some {cls:=.type "list",data:=.seq (al++items.reverse).toArray c'}->R (.ok (.ret .none)) {s with heap:=h'}) :
    codeAny (Mo w) A (.call (.builtin "list.extend") ⟨[.ref S,.ref it],[]⟩) R s :=
  codeAny_call_builtin PySem.F.slot_list_extend.plain PySem.F.entry_list_extend (PySem.F.slot_list_extend.check _ _ _ _ _ _ _ _ ⟨_,hS,rfl⟩ (PySem.F.args_list_extend_2 _ _) (ext_with hh n1 n2 n3 hit hl hS hz hR))
end
section
variable {w:World} {B:Heap} {os:OsState} {A:Around} {d:Nat} {env:Env} {c:Sc} {K:KV} {X:KX} {m:Lm} {H:Hp} {G G' G₀:Gh} {s s':Shared} {x:Str} {p:Pos} {D C:Addr} {h h' h₀:Heap}
theorem extr_ok {o e:Expr} {r n:Str} {apos np q:Pos} (iho:PE o) (ihe:PE e) (ok:EnvOk c env) (h0:Ad o=true) (hline:(apos.endLine == p.line)=true) (hs:AP [e]=true) (hn:(n == ("extend" : Str))=true) (hr:c.builtin r "reversed" = true)
    (h:vcE d (.extr (comp c o) (comp c e)) K X m H) (a:At w B os A d env c.ls m H G s):WG w B os A (eval (.Call (.Attribute o n apos) [.Call (.Name r np) [e] [] q] [] p) env) VR K X G s:=by
  dsimp only [E_extr] at h;have hs':AP [PySem.Expr.Call (.Name r np) [e] [] q]=true:=rfl;cases beq_iff_eq.mp hn;refine meth_open h0 hs' hline (Nat.le_of_ble_eq_true rfl) fun pl=>?_;refine WG.on (iho ok h G s a) (fun G1 b1 H1 z s1 e1 S1 l1 le1 r1 k1=>?_) fun Y Y e=>e;have a1:=a.step e1 S1 l1 le1;obtain ⟨ra,rfl,k3⟩:=Dx k1;obtain ⟨c0,hx0,k4⟩:=AK k3;obtain ⟨xs0,rfl,k5⟩:=BZ k4
  . cases (show z = .ref ra from r1);obtain ⟨items0,n0,i1,-⟩:=DO S1 le1 hx0;refine getMethod_builtin ⟨_,i1,rfl⟩ PySem.F.plainAttrs_list PySem.F.slot_list_extend PySem.F.type_list_extend (fun a e=>by cases e;exact ⟨_,i1,rfl⟩) ?_;refine Calls.callWith_builtin (AJ hs' p env) (AW hs' ?_);refine Calls.spliced_cons ?_;refine CY (v:=.type "reversed") ok hs hr (by simp [bltL]) a1 (WG.on (ihe ok k5 G1 s1 a1) (fun G2 b2 H2 z2 s2 e2 S2 l2 le2 r2 k2=>?_) fun Y Y x=>x.pre e1 l1);have a2:=a1.step e2 S2 l2 le2;obtain ⟨ys,rfl,k6⟩:=BZ k2;obtain ⟨c1,hx,k7⟩:=AK k6;obtain ⟨xs,rfl,k8⟩:=BZ k7
    . obtain ⟨⟨k0,ka,kb⟩,k9⟩:=k8;obtain ⟨la,rfl,gl⟩:=r2;obtain ⟨its,n,h1,h2⟩:=(S2.cells la _ gl).2;have h1:IsL s2.heap la its.toArray n:=h1;obtain ⟨items,n2,j1,j2⟩:=DO S2 le2 hx;have gr:=le2 _ _ hx;refine call_reversed_list h1.isList (Calls.spliced_nil ?_);have fr:∀ {o} {b:Addr},s2.heap.get? b=some o->b≠s2.heap.objs.size:=fun z=>Nat.ne_of_lt (Heap.lt_size z);have pk:∀ b o,s2.heap.get? b=some o->(s2.heap.push (revObj la ((its.toArray.size:Int) - 1))).get? b=some o:=fun b o z=>Heap.get?_push_of_some _ z;have lx:=j2.length;have ly:=h2.length;refine wpAny_call (ext_call (s:={s2 with heap:=s2.heap.push (revObj la ((its.toArray.size:Int) - 1))}) (items:=its) (al:=items) (c:=n2) (l:=la) (a.cx.handled k0) (fr h1) (fr j1) (fun y=>by rw [y,gl] at gr;cases gr) ⟨revObj la ((its.toArray.size:Int) - 1),Heap.get?_push_size _ rfl,rfl,by rw [List.size_toArray];rfl⟩ ⟨_,pk _ _ h1,rfl,n,rfl⟩ (pk _ _ j1) (r_2 (Nat.le_trans (Nat.le_of_eq lx.symm) (by assumption)) (Nat.le_trans (Nat.le_of_eq ly.symm) (by assumption)) rfl) fun h' c' kp hf=>?_);have kp2:∀ b o,b≠ra->s2.heap.get? b=some o->h'.get? b=some o:=fun b o nb z=>kp b o nb (fr z) (pk b o z);obtain ⟨S3,e3⟩:=S2.setK (v':=.lst (xs++ys.reverse)) (s':={s2 with heap:=h'}) gr kp2 ⟨items++its.reverse,c',hf,j2.append h2.rev⟩ rfl rfl;have l3:LKeep G2 s2.heap h':=fun b=>⟨fun l o z=>⟨o,kp2 b o (fun y=>by rw [y,gr] at l;cases l) z,rfl⟩,fun v l o z=>kp2 b o (fun y=>by rw [y,gr] at l;cases l) z⟩
      exact ⟨_,.none,_,(e1.trans e2).trans e3,S3,(l1.trans e1 l2).trans (e1.trans e2) l3,le2.upd _ _,rfl,k9⟩
set_option tactic.hygienic true in
theorem meth_gen {o:Expr} {n:Str} {apos p:Pos} {es:List Expr} (iho:PE o) (ihs:∀ e∈es,PE e) (hc:∀ c,comp c (.Call (.Attribute o n apos) es [] p)=if Ad o && AP es && (apos.endLine == p.line) && decide (es.length<20) then (match mIx n with | some k=>.meth (comp c o) k (AT c es) | none=>.bad) else .bad):PE (.Call (.Attribute o n apos) es [] p):=by
  intro w B os A d env c K X m H ok h G s a;rw [hc] at h;split at h
  . rename_i hq;simp only [Bool.and_eq_true,decide_eq_true_eq] at hq;obtain ⟨⟨⟨h0,hs⟩,hl⟩,hlen⟩:=hq;split at h
    . rename_i k hk;have:=mIx_name hk;subst this;exact meth_core iho ihs ok h0 hs hl hlen h a
    . exact h.elim
  . exact h.elim
theorem pe_meth {o:Expr} {n:Str} {apos p:Pos} {es:List Expr} (iho:PE o) (ihs:∀ e∈es,PE e) (ihs2:∀ e∈es,∀ f a q,e = .Call f [a] [] q->PE a):PE (.Call (.Attribute o n apos) es [] p):=by
  by_cases hsp:∃ r np a q,es=[.Call (.Name r np) [a] [] q]
  . obtain ⟨r,np,e,q,rfl⟩:=hsp;intro w B os A d env c K X m H ok h G s a;rw [comp_extr] at h;split at h
    . rename_i hq;simp only [Bool.and_eq_true] at hq;obtain ⟨⟨h0,hl⟩,hs⟩:=hq;split at h
      . rename_i hx;obtain ⟨hx1,hx2⟩:=Bool.and_eq_true_iff.mp hx;exact extr_ok iho (ihs2 _ (.head _) _ _ _ rfl) ok h0 hl hs hx1 hx2 h a
      . split at h
        . rename_i k hk;have:=mIx_name hk;subst this;refine meth_core iho ihs ok h0 rfl hl (by simp) ?_ a;rw [AY,AZ,By,if_pos hs];exact h
        . exact h.elim
    . exact h.elim
  . exact meth_gen iho ihs fun c=>comp_meth fun r np a q he=>hsp ⟨r,np,a,q,he⟩
theorem Au {e:Expr} (hb:∀ c,comp c e = .bad):PE e:=by intro w B os A d env c K X m H ok h G s a;rw [hb c] at h;exact h.elim
theorem BV {e:Expr} (hb:BF e=false):PT e:=by intro w B os A d env c K X m H ht;rw [hb] at ht;cases ht
theorem size_mem {e:Expr} {es:List Expr} (h:e∈es):sizeOf e<sizeOf es:=List.sizeOf_lt_of_mem h
theorem sw {p y n:Nat} (h:p+y<n):p<n:=Nat.lt_of_le_of_lt (Nat.le_add_right p y) h
theorem s0 {y n:Nat} (h:1+y<n+1):y<n:=Nat.lt_of_succ_lt_succ (Nat.lt_of_le_of_lt (Nat.le_of_eq (Nat.add_comm y 1)) h)
theorem s1 {x y n:Nat} (h:1+x+y<n+1):y<n:=s0 (Nat.lt_of_le_of_lt (Nat.add_le_add_right (Nat.le_add_right 1 x) y) h)
theorem s2 {x x' y n:Nat} (h:1+x+x'+y<n+1):y<n:=s0 (Nat.lt_of_le_of_lt (Nat.add_le_add_right (Nat.le_trans (Nat.le_add_right 1 x) (Nat.le_add_right _ x')) y) h)
theorem s3 {x y:Nat}:y<1+x+y:=Nat.lt_add_of_pos_left (Nat.lt_of_lt_of_le Nat.one_pos (Nat.le_add_right 1 x))
theorem s5 {x x' y:Nat}:y<1+x+x'+y:=Nat.lt_add_of_pos_left (Nat.lt_of_lt_of_le Nat.one_pos (Nat.le_trans (Nat.le_add_right 1 x) (Nat.le_add_right _ x')))
theorem s4 {y:Nat}:y<1+y:=Nat.lt_add_of_pos_left Nat.one_pos
theorem sz_sl {lo hi st:Option Expr} {q:Pos}:sizeOf lo<sizeOf (Expr.Slice lo hi st q)/\sizeOf hi<sizeOf (Expr.Slice lo hi st q):=by rw [Expr.Slice.sizeOf_spec];exact ⟨Nat.lt_add_right _ (Nat.lt_add_right _ (Nat.lt_add_right _ s4)),Nat.lt_add_right _ (Nat.lt_add_right _ s3)⟩
theorem sz_so {e:Expr}:sizeOf e<sizeOf (some e):=by simp
theorem sz_gen {t it:Expr} {ifs:List Expr} {a0:Int}:sizeOf it<sizeOf ([⟨t,it,ifs,a0⟩]:List Comprehension)/\sizeOf ifs<sizeOf ([⟨t,it,ifs,a0⟩]:List Comprehension):=by have:=List.sizeOf_lt_of_mem (List.Mem.head (a:=(⟨t,it,ifs,a0⟩:Comprehension)) []);exact ⟨Nat.lt_trans (by rw [Comprehension.mk.sizeOf_spec];exact Nat.lt_add_right _ (Nat.lt_add_right _ s3)) this,Nat.lt_trans (by rw [Comprehension.mk.sizeOf_spec];exact Nat.lt_add_right _ s5) this⟩
theorem sz_arg {f a e:Expr} {q:Pos} (h:e = .Call f [a] [] q):sizeOf a<sizeOf e:=by rw [h,Expr.Call.sizeOf_spec];exact Nat.lt_trans (List.sizeOf_lt_of_mem (.head _)) (Nat.lt_add_right _ (Nat.lt_add_right _ s3))
theorem sz_at {o:Expr} {n:Str} {p:Pos}:sizeOf o<sizeOf (Expr.Attribute o n p):=by rw [Expr.Attribute.sizeOf_spec];exact Nat.lt_add_right _ (Nat.lt_add_right _ s4)
theorem pe_ncall {f:Expr} {es:List Expr} {kws:List Keyword} {p:Pos} (hes:∀ e∈es,PE e) (ho:∀ o n ap,f = .Attribute o n ap->PE o) (ha:∀ e∈es,∀ f a q,e = .Call f [a] [] q->PE a):PE (.Call f es kws p):=by
  cases kws with
  | cons k ks=>exact Au fun c=>comp_kw
  | nil =>
    cases f with
    | Name x np=>exact pe_call np p hes
    | Attribute o nm ap=>exact pe_meth (ho _ _ _ rfl) hes ha
    | _=>clear hes ho ha;exact Au fun c=>rfl
theorem pe_ncomp {elt t it:Expr} {ifs:List Expr} {a0:Int} {sc:Scope} {p:Pos} (he:PE elt) (hf:∀ t∈ifs,PT t) (hi:PE it) (ha:∀ f a q,it = .Call f [a] [] q->PE a):PE (.ListComp elt [⟨t,it,ifs,a0⟩] sc p):=by
  cases t with
  | Name x px=>exact pe_comp he hf hi ha
  | _=>clear he hf hi ha;exact Au fun c=>rfl
theorem pe_nsub {o i:Expr} {p:Pos} (ho:PE o) (hh:PE i) (hs:∀ lo hi q,i = .Slice lo hi none q->(∀ e,lo=some e->PE e)/\(∀ e,hi=some e->PE e)):PE (.Subscript o i p):=by
  by_cases hi:Aw i=true
  . obtain ⟨lo,hi',st,q,rfl⟩:=slice_inv hi;cases st with
    | none=>exact pe_slc q p ho (hs _ _ _ rfl).1 (hs _ _ _ rfl).2
    | some e=>exact Au fun c=>rfl
  . have hi':Aw i=false:=by simpa using hi
    intro w B os A d env c K X m H ok hv;rw [comp_Subscript hi'] at hv;exact pe_sub p hi' ho hh ok hv
theorem pe_all (n:Nat):∀ (e:Expr),sizeOf e<n->PE e/\PT e:=by
  induction n with
  | zero=>exact fun Y h=>absurd h (Nat.not_lt_zero _)
  | succ n ih =>
    intro e h;have ihm:∀ {es:List Expr},sizeOf es<n->∀ e∈es,PE e/\PT e:=fun hs e he=>ih e (Nat.lt_trans (size_mem he) hs);cases e with
    | Constant k n p=>exact ⟨pe_const k n p,BV rfl⟩
    | Name x p=>exact ⟨pe_name x p,pt_val (pe_name x p) fun Y=>rfl⟩
    | Attribute o nm p=>rw [Expr.Attribute.sizeOf_spec] at h;have:=ih o (s0 (sw (sw h)));exact ⟨pe_attr nm p this.1,pt_val (pe_attr nm p this.1) fun Y=>rfl⟩
    | BinOp l op r p=>rw [Expr.BinOp.sizeOf_spec] at h;exact ⟨pe_bin op p (ih l (s0 (sw (sw (sw h))))).1 (ih r (s2 (sw h))).1,BV rfl⟩
    | UnaryOp op e p =>
      rw [Expr.UnaryOp.sizeOf_spec] at h;have:=ih e (s1 (sw h));cases op with
      | Not=>exact ⟨pe_not p this.1,pt_not p this.2⟩
      | _=>exact ⟨Au fun c=>rfl,BV rfl⟩
    | BoolOp op es p=>rw [Expr.BoolOp.sizeOf_spec] at h;have:=ihm (es:=es) (s1 (sw h));exact ⟨pe_bop op p fun e he=>(this e he).1,pt_bop op p fun e he=>(this e he).2⟩
    | IfExp t a b p=>rw [Expr.IfExp.sizeOf_spec] at h;exact ⟨pe_ite p (ih t (s0 (sw (sw (sw h))))).2 (ih a (s1 (sw (sw h)))).1 (ih b (s2 (sw h))).1,BV rfl⟩
    | List es p=>rw [Expr.List.sizeOf_spec] at h;exact ⟨pe_list p fun e he=>(ihm (es:=es) (s0 (sw h)) e he).1,BV rfl⟩
    | Tuple es k p=>rw [Expr.Tuple.sizeOf_spec] at h;exact ⟨pe_tup k p fun e he=>(ihm (es:=es) (s0 (sw (sw h))) e he).1,BV rfl⟩
    | JoinedStr es p=>rw [Expr.JoinedStr.sizeOf_spec] at h;exact ⟨pe_fstr p fun e he=>(ihm (es:=es) (s0 (sw h)) e he).1,BV rfl⟩
    | Dict ks vs p=>rw [Expr.Dict.sizeOf_spec] at h;exact ⟨pe_dict p (fun e he=>(ih e (Nat.lt_trans sz_so (Nat.lt_trans (List.sizeOf_lt_of_mem he) (s0 (sw (sw h)))))).1) fun e he=>(ihm (es:=vs) (s1 (sw h)) e he).1,BV rfl⟩
    | Compare l ops cs p =>
      match ops,cs,h with
      | [op],[r],h=>rw [Expr.Compare.sizeOf_spec] at h;have hl:PE l:=(ih l (s0 (sw (sw (sw h))))).1;have hr:PE r:=(ih r (Nat.lt_trans (List.sizeOf_lt_of_mem (.head _)) (s2 (sw h)))).1;exact ⟨pe_cmp op p hl hr,pt_cmp op p hl hr⟩
      | [],cs,h=>exact ⟨Au fun c=>rfl,BV rfl⟩
      | _::_::_,cs,h=>exact ⟨Au fun c=>rfl,BV rfl⟩
      | [op],[],h=>exact ⟨Au fun c=>rfl,BV rfl⟩
      | [op],_::_::_,h=>exact ⟨Au fun c=>rfl,BV rfl⟩
    | Subscript o i p =>
      rw [Expr.Subscript.sizeOf_spec] at h;have hp:=pe_nsub (p:=p) (ih o (s0 (sw (sw h)))).1 (ih i (s1 (sw h))).1 fun lo hi q w=>⟨fun e he=>(ih e (Nat.lt_trans (he▸sz_so) (Nat.lt_trans sz_sl.1 (w▸s1 (sw h))))).1,fun e he=>(ih e (Nat.lt_trans (he▸sz_so) (Nat.lt_trans sz_sl.2 (w▸s1 (sw h))))).1⟩
      exact ⟨hp,pt_val hp fun Y=>rfl⟩
    | FormattedValue e k sp p =>
      refine ⟨?_,BV rfl⟩;cases sp with
      | some _=>exact Au fun c=>rfl
      | none =>
        rw [Expr.FormattedValue.sizeOf_spec] at h;by_cases hk:k = -1
        . subst hk;exact pe_fval p (ih e (s0 (sw (sw (sw h))))).1
        . exact Au fun c=>by rw [BK,if_neg (by simpa using hk)]
    | ListComp elt gens sc p =>
      refine ⟨?_,BV rfl⟩
      match gens,h with
      | [⟨t,it,ifs,a0⟩],h=>rw [Expr.ListComp.sizeOf_spec] at h;exact pe_ncomp (ih elt (s0 (sw (sw (sw h))))).1 (fun t ht=>(ihm (es:=ifs) (Nat.lt_trans sz_gen.2 (s1 (sw (sw h)))) t ht).2) (ih it (Nat.lt_trans sz_gen.1 (s1 (sw (sw h))))).1 (fun f a q he=>(ih a (Nat.lt_trans (sz_arg he) (Nat.lt_trans sz_gen.1 (s1 (sw (sw h)))))).1)
      | [],h=>exact Au fun c=>rfl
      | ⟨t,it,ifs,a0⟩::_::_,h=>exact Au fun c=>comp_gens
    | Call f es kws p=>rw [Expr.Call.sizeOf_spec] at h;have hp:PE (.Call f es kws p):=pe_ncall (fun e he=>(ihm (es:=es) (s1 (sw (sw h))) e he).1) (fun o n ap e=>(ih o (Nat.lt_trans (e▸sz_at) (s0 (sw (sw (sw h)))))).1) fun e he f a q hq=>(ih a (Nat.lt_trans (sz_arg hq) (Nat.lt_trans (List.sizeOf_lt_of_mem he) (s1 (sw (sw h)))))).1;exact ⟨hp,pt_val hp fun Y=>by cases f<;>rfl⟩
    | NamedExpr | Lambda | Set | SetComp | DictComp | GeneratorExp | Await | Yield | YieldFrom | Starred | Slice=>exact ⟨Au fun c=>rfl,BV rfl⟩
end
def XStep (B:Heap) (G:Gh) (h h':Heap):Prop:=∀ b o,h.get? b=some o->(∃ c,G b=some c)\/(∃ o,B.get? b=some o)->∃ sl,h'.get? b=some {o with slots:=sl}/\((G b≠some .lc/\∀ d,G b≠some (.fr d))->h'.get? b=some o)
section
variable {w:World} {B:Heap} {os:OsState} {A:Around} {d:Nat} {env:Env} {c:Sc} {K:KV} {X:KX} {m:Lm} {H:Hp} {G G' G₀:Gh} {s s':Shared} {x:Str} {p:Pos} {h h' h₀:Heap}
theorem XStep.refl:XStep B G h h:=fun b o e Y=>⟨o.slots,e,fun Y=>e⟩
theorem XStep.trans {h₁ h₂:Heap} (a:XStep B G h h₁) (b:XStep B G h₁ h₂):XStep B G h h₂:=fun z o e q=>by obtain ⟨sl,e1,k1⟩:=a z o e q;obtain ⟨sl2,e2,k2⟩:=b z _ e1 q;refine ⟨sl2,e2,fun n=>?_⟩;obtain ⟨sl3,e3,k3⟩:=b z o (k1 n) q;exact k3 n
theorem Sat.xstep (S:Sat w B os G s) (k:XStep B G s.heap s'.heap) (hg:s'.gens=s.gens) (ho:s'.os=s.os):Sat w B os G s':=by
  have nB:∀ {b o},B.get? b=some o->G b=none:=fun {b o} e=>by
    cases q:G b with
    | none=>rfl
    | some c=>rw [S.alone q] at e;cases e
  refine ⟨S.top,fun b o e=>?_,fun b c q=>⟨S.alone q,?_⟩,hg.trans S.gens,ho.trans S.os,S.tbs⟩
  . obtain ⟨_,_,k2⟩:=k b o (S.base b o e) (.inr ⟨o,e⟩);exact k2 ⟨by rw [nB e];simp,by rw [nB e];simp⟩
  . have hc:=(S.cells b c q).2;have kd:∀ dx o,G dx=some (.hid b)->s.heap.get? dx=some o->s'.heap.get? dx=some o:=fun dx o q2 e=>(k dx o e (.inl ⟨_,q2⟩)).choose_spec.2 ⟨by rw [q2];simp,by rw [q2];simp⟩;have alive:(s'.heap.get? b).isSome=true:=by obtain ⟨o,e⟩:=Option.isSome_iff_exists.mp hc.alive;obtain ⟨sl,e1,_⟩:=k b o e (.inl ⟨_,q⟩);rw [e1];rfl
    cases c with
    | fr d=>obtain ⟨o,e,e2⟩:=hc;obtain ⟨sl,e1,_⟩:=k b o e (.inl ⟨_,q⟩);exact ⟨_,e1,e2⟩
    | lc=>obtain ⟨o,es,ep,e,e2⟩:=hc;obtain ⟨sl,e1,_⟩:=k b o e (.inl ⟨_,q⟩);exact ⟨_,es,ep,e1,e2⟩
    | _=>exact hc.keep (fun o e=>(k b o e (.inl ⟨_,q⟩)).choose_spec.2 ⟨by rw [q];simp,by rw [q];simp⟩) kd
theorem XStep.lkeep (k:XStep B G h h'):LKeep G h h':=fun a =>
  ⟨fun l o e=>by obtain ⟨sl,e1,_⟩:=k a o e (.inl ⟨_,l⟩);exact ⟨_,e1,rfl⟩,fun v l o e=>by obtain ⟨sl,e1,k1⟩:=k a o e (.inl ⟨_,l⟩);exact k1 ⟨by rw [l];simp,by rw [l];simp⟩⟩
theorem DD {S:List Addr} (hS:∀ b∈S,G b=none/\B.get? b=none) (k:∀ b o,b∉S->h.get? b=some o->∃ sl,h'.get? b=some {o with slots:=sl}/\((G b≠some .lc/\∀ d,G b≠some (.fr d))->h'.get? b=some o)):XStep B G h h':=fun b o e q=>by
  refine k b o (fun hb=>?_) e;rcases q with ⟨c,q⟩ | ⟨o,q⟩
  . rw [(hS b hb).1] at q;cases q
  . rw [(hS b hb).2] at q;cases q
theorem Cx.fun (cx:Cx A d G) (S:Sat w B os G s):∃ l,A.frames=some l/\s.heap.FunFrames B l/\∀ b∈l.filterMap (·.frame),G b=some .lc\/∃ d,G b=some (.fr d):=by
  obtain ⟨_,_,_,l,hl,z⟩:=cx;refine ⟨l,hl,?_,?_⟩
  . clear hl
    induction l with
    | nil=>trivial
    | cons e r ih =>
      obtain ⟨h1,L,h2,h3⟩:=z e (.head _);refine ⟨h1,⟨L,?_⟩,ih fun e he=>z e (.tail _ he)⟩;rcases h3 with h3 | ⟨dd,h3,h4⟩
      . obtain ⟨o,es,ep,ho,hd⟩:=(S.cells L _ h3).2;exact ⟨o,h2,S.alone h3,ho,fun vs q=>by rw [hd] at q;cases q⟩
      . obtain ⟨o,ho,hd⟩:=(S.cells L _ h3).2;exact ⟨o,h2,S.alone h3,ho,fun vs q=>h4 vs (hd▸q)⟩
  . intro b hb;obtain ⟨e,he,hf⟩:=List.mem_filterMap.mp hb;obtain ⟨_,L,h2,h3⟩:=z e he;rw [h2] at hf;cases hf;exact h3.imp id fun ⟨d,q,_⟩=>⟨d,q⟩
end
section
variable {w:World} {B:Heap} {os:OsState} {A:Around} {d:Nat} {env:Env} {c:Sc} {K:KV} {X:KX} {m:Lm} {H:Hp} {G G' G₀:Gh} {s s':Shared} {x:Str} {p:Pos} {h h' h₀:Heap}
theorem entry_ok {outer:List Env} {L e:Addr} {oe:Obj} {vs:Array Value} {head:Value} {hadNext:Bool} {Q:Unit->Shared->Prop} {E:Value->Shared->Prop}
    (hfr:A.frames=some (env::outer)) (hf:env.frame=some L) (cx:Cx A d G) (S:Sat w B os G s) (he:s.heap.get? e=some oe) (hG:G e=none) (hB:B.get? e=none) (hd:oe.data = .fields vs) (hsz:1<vs.size)
    (q:∀ h' T ts,XStep B G s.heap h'->(∀ b o,b≠e->G b=none->s.heap.get? b=some o->h'.get? b=some o)->G T=none->B.get? T=none->s.heap.get? T=none->h'.get? e=some (oe.mapFields (·.setIfInBounds 1 (.ref T)))->h'.get? T=some {cls:=.type "traceback",dict:=none,data:=.fields ts}->ts[3]?=some (rawInt L)->Q () {s with heap:=h'}) :
    wpAny (Mo w) A (do let a <- frameOf env;let pl <- entryPlaceOf L hadNext;let b <- EntryCells.newEntry head a .none (rawInt L) .none pl;setField (.ref e) 1 b) Q E s:=by
  obtain ⟨l,hl,hff,hfm⟩:=cx.fun S;rw [hfr] at hl;cases hl;have hene:e∉(env::outer).filterMap (·.frame):=fun hm=>by rcases hfm e hm with q | ⟨_,q⟩<;>(rw [hG] at q;cases q)
  refine wpAny_bind (wpAny_frameOf_fun hfr hff hf fun h₁ hs₁=>?_);refine wpAny_bind (wpAny_entryPlaceOf fun pl hpl=>?_);unfold EntryCells.newEntry newFields;refine wpAny_bind (wpAny_newObj_type ?_ (hpl.sizeOk5 _ _ _ _ _));have he₁:h₁.get? e=some oe:=(hs₁.2.1 e hene).trans he;have he₂:=Heap.get?_push_of_some (h:=h₁) {cls:=.type "traceback",dict:=none,data:=.fields ([head,.ref L,.none,rawInt L,.none]++(if pl.isEmpty then List.replicate 6 Value.none else pl)).toArray} he₁;refine wpAny_setField he₂ hd hsz ?_;have hTe:h₁.objs.size≠e:=Nat.ne_of_gt (Heap.lt_size he₁);have hd₃:=Obj.data_mapFields hd (·.setIfInBounds 1 (Value.ref h₁.objs.size));have he₃:=Heap.get?_update_self (Obj.mapFields (·.setIfInBounds 1 (Value.ref h₁.objs.size))) he₂ (Obj.isFreed_of_fields hd₃);have hT₃:=(Heap.get?_update_other (h₁.push {cls:=.type "traceback",dict:=none,data:=.fields ([head,.ref L,.none,rawInt L,.none]++(if pl.isEmpty then List.replicate 6 Value.none else pl)).toArray})
    (Obj.mapFields (·.setIfInBounds 1 (Value.ref h₁.objs.size))) (Ne.symm hTe)).trans (Heap.get?_push_size h₁ rfl)
  have keep:∀ b o,b≠e->h₁.get? b=some o ->
      ((h₁.push {cls:=.type "traceback",dict:=none,data:=.fields ([head,.ref L,.none,rawInt L,.none]++(if pl.isEmpty then List.replicate 6 Value.none else pl)).toArray}).update e (Obj.mapFields (·.setIfInBounds 1 (Value.ref h₁.objs.size)))).get? b=some o :=
    fun b o hbe hb=>by exact wl (Heap.get?_update_other _ _ (Ne.symm hbe) ..) (Heap.get?_push_of_some _ hb)
  have hsame:∀ b,(G b≠some .lc/\∀ d,G b≠some (.fr d))->h₁.get? b=s.heap.get? b:=fun b n=>hs₁.2.1 b fun hm=>by
    rcases hfm b hm with q | ⟨dd,q⟩
    . exact n.1 q
    . exact n.2 dd q
  refine q _ h₁.objs.size _ (DD (S:=[e]) (fun b hb=>by simp at hb;subst hb;exact ⟨hG,hB⟩) fun b o hb ho=>?_) (fun b o hb hGb ho=>keep b o hb ((hsame b ⟨by rw [hGb];simp,by rw [hGb];simp⟩).trans ho)) (hs₁.1▸S.fresh) (hs₁.1▸S.freshB) (Heap.get?_none_of_le (by rw [hs₁.1];exact Nat.le_refl _)) he₃ hT₃ (by first | (simp;done) | (rcases hpl with rfl | ⟨_,_,_,_,_,_,_,rfl⟩<;>simp));obtain ⟨sl,e1⟩:=hs₁.2.2 b o ho;simp at hb;exact ⟨sl,keep b _ hb e1,fun n=>keep b o hb ((hsame b n).trans ho)⟩
theorem note_ok {outer:List Env} {L:Addr} {y:Value} {msg:Str} {Q:Unit->Shared->Prop} {E:Value->Shared->Prop} (hfr:A.frames=some (env::outer)) (hf:env.frame=some L) (cx:Cx A d G) (S:Sat w B os G s)
    (r:RaisedX True (fun v=>v = .none\/v=rawInt L) w B G y msg s.heap)
    (q:∀ h',XStep B G s.heap h'->RaisedX False (· = rawInt L) w B G y msg h'->Q () {s with heap:=h'}):wpAny (Mo w) A (noteFrame y env) Q E s:=by
  obtain ⟨ea,dx,oe,vs,t,rfl,h2,h3,h4,h5,h6,h7,h8,h9,h10,h11,h12,h13⟩:=r;unfold noteFrame;simp only [hf];have hdl:∀ {o:Obj} {T:Addr},o.data = .fields vs->(Obj.mapFields (·.setIfInBounds 1 (.ref T)) o).data = .fields (vs.setIfInBounds 1 (.ref T)):=fun h=>Obj.data_mapFields h _;have hat1:∀ z,(vs.setIfInBounds 1 z)[1]?=some z:=fun z=>by rw [Array.getElem?_setIfInBounds_self];rw [if_pos (Nat.lt_trans (by decide) h8)]
  rcases h13 with ⟨_,hv⟩ | ⟨T,oT,ts,f,q1,q2,q3,q4,q5,q6,q7,q8,q9⟩
  . refine wpAny_bind (wpAny_field h4 h7 hv ?_);refine wl (if_neg (by decide) ..) ?_;refine entry_ok hfr hf cx S h4 h2 h3 h7 (Nat.lt_trans (by decide) h8) fun h' T ts k1 k2 k3 k4 k5 k6 k7 k8=>q h' k1 ?_;refine ⟨ea,dx,_,vs.setIfInBounds 1 (.ref T),t,rfl,h2,h3,k6,(Obj.cls_mapFields _ _).trans h5,(by obtain ⟨c0,d0,dt0,sl0⟩:=oe;cases (show dt0=_ from h7);exact h6),Obj.data_mapFields h7 _,by simpa using h8,h9,h10,h11,h12.keep fun o ho=>k2 dx o h11 h9 ho,.one T _ ts _ (hat1 _) ?_ ?_ k3 k4 k7 rfl k8 rfl⟩
    . intro z;rw [z,h4] at k5;cases k5
    . intro z;obtain ⟨o,_,_,ho,_⟩:=h12;rw [z,ho] at k5;cases k5
  . refine wpAny_bind (wpAny_field h4 h7 q1 ?_);refine wl (if_pos (show (Value.ref T != Value.none)=true from by simp) ..) ?_;refine wpAny_bind (wpAny_field q6 q7 q8 ?_);rcases q9 with rfl | rfl
    . refine wl (if_neg (show ¬ ((Value.none == rawInt L)=true) from by simp [rawInt]) ..) ?_;refine wpAny_bind (wpAny_setField q6 q7 (Array.getElem?_eq_some_iff.mp q8).1 ?_);have other:∀ b,b≠T->(s.heap.update T (Obj.mapFields (·.setIfInBounds 3 Value.none))).get? b=s.heap.get? b:=fun b hb=>Heap.get?_update_other _ _ (Ne.symm hb);have k0:XStep B G s.heap (s.heap.update T (Obj.mapFields (·.setIfInBounds 3 Value.none))):=DD (S:=[T]) (fun b hb=>by simp at hb;subst hb;exact ⟨q4,q5⟩) fun b o hb ho=>by simp at hb;exact ⟨o.slots,(other b hb).trans ho,fun Y=>(other b hb).trans ho⟩
      have S1:Sat w B os G {s with heap:=s.heap.update T (Obj.mapFields (·.setIfInBounds 3 Value.none))}:=S.xstep k0 rfl rfl;refine entry_ok hfr hf cx S1 ((other ea (Ne.symm q2)).trans h4) h2 h3 h7 (Nat.lt_trans (by decide) h8) fun h' T' ts' k1 k2 k3 k4 k5 k6 k7 k8=>q h' (k0.trans k1) ?_;refine ⟨ea,dx,_,vs.setIfInBounds 1 (.ref T'),t,rfl,h2,h3,k6,(Obj.cls_mapFields _ _).trans h5,(by obtain ⟨c0,d0,dt0,sl0⟩:=oe;cases (show dt0=_ from h7);exact h6),Obj.data_mapFields h7 _,by simpa using h8,h9,h10,h11,h12.keep fun o ho=>k2 dx o h11 h9 ((other dx (Ne.symm q3)).trans ho),.one T' _ ts' _ (hat1 _) ?_ ?_ k3 k4 k7 rfl k8 rfl⟩
      . intro z;rw [z] at k5;have:=(other ea (Ne.symm q2)).trans h4;rw [this] at k5;cases k5
      . intro z;obtain ⟨o,_,_,ho,_⟩:=h12;rw [z] at k5;have:=(other dx (Ne.symm q3)).trans ho;rw [this] at k5;cases k5
    . exact wl (if_pos (show (rawInt L == rawInt L)=true from by first | (simp;done) | exact beq_self_eq_true _) ..) (wpAny_pure (q s.heap .refl ⟨ea,dx,oe,vs,t,rfl,h2,h3,h4,h5,h6,h7,h8,h9,h10,h11,h12,.one T oT ts _ q1 q2 q3 q4 q5 q6 q7 q8 rfl⟩))
theorem Dq {fl:Value->Prop} {fr:Option Addr} {y:Value} {msg:Str} {Q:Unit->Shared->Prop} {E:Value->Shared->Prop} {nt:Prop} (S:Sat w B os G s)
    (r:RaisedX nt fl w B G y msg s.heap)
    (q:∀ h',XStep B G s.heap h'->RaisedX nt (· = fr.elim .none fun f=>rawInt f) w B G y msg h'->Q () {s with heap:=h'}):wpAny (Mo w) A (setFlight y fr) Q E s:=by
  obtain ⟨ea,dx,oe,vs,t,rfl,h2,h3,h4,h5,h6,h7,h8,h9,h10,h11,h12,h13⟩:=r;unfold setFlight;rcases h13 with ⟨n,hv⟩ | ⟨T,oT,ts,f,q1,q2,q3,q4,q5,q6,q7,q8,q9⟩
  . refine wpAny_bind (wpAny_field h4 h7 hv ?_);exact wl (if_neg (by decide) ..) (wpAny_pure (q s.heap .refl ⟨ea,dx,oe,vs,t,rfl,h2,h3,h4,h5,h6,h7,h8,h9,h10,h11,h12,.no n hv⟩))
  . have hsz3:3<ts.size:=(Array.getElem?_eq_some_iff.mp q8).1;refine wpAny_bind (wpAny_field h4 h7 q1 ?_);refine wl (if_pos (show (Value.ref T != Value.none)=true from by simp) ..) ?_;have other:∀ b,b≠T->(s.heap.update T (Obj.mapFields (·.setIfInBounds 3 (fr.elim Value.none fun f=>rawInt f)))).get? b=s.heap.get? b :=
      fun b hb=>Heap.get?_update_other _ _ (Ne.symm hb)
    refine wpAny_setField q6 q7 hsz3 (q _ (DD (S:=[T]) (fun b hb=>by simp at hb;subst hb;exact ⟨q4,q5⟩) fun b o hb ho=>?_) ?_)
    . simp at hb;exact ⟨o.slots,(other b hb).trans ho,fun Y=>(other b hb).trans ho⟩
    . exact ⟨ea,dx,oe,vs,t,rfl,h2,h3,(other ea (Ne.symm q2)).trans h4,h5,h6,h7,h8,h9,h10,h11,h12.keep fun o ho=>(other dx (Ne.symm q3)).trans ho,.one T _ _ _ q1 q2 q3 q4 q5 (Heap.get?_update_self _ q6 (Obj.isFreed_of_fields (Obj.data_mapFields q7 _))) (Obj.data_mapFields q7 _) (by simp [hsz3]) rfl⟩
theorem leaving_ok {outer:List Env} {L:Addr} {y:Value} {msg:Str} {Q:Unit->Shared->Prop} {E:Value->Shared->Prop} (hfr:A.frames=some (env::outer)) (hf:env.frame=some L) (cx:Cx A d G) (S:Sat w B os G s)
    (r:RaisedX True (fun v=>v = .none\/v=rawInt L) w B G y msg s.heap)
    (q:∀ h',XStep B G s.heap h'->Raised w B G y msg h'->Q () {s with heap:=h'}):wpAny (Mo w) A («leaving» env y) Q E s:=by
  unfold «leaving»;refine wpAny_bind (note_ok hfr hf cx S r fun h1 k1 r1=>?_);exact Dq (S.xstep (s':={s with heap:=h1}) k1 rfl rfl) r1 fun h2 k2 r2=>q h2 (k1.trans k2) (r2.mono (fun Y=>trivial) fun Y h=>h)
theorem back_ok {y:Value} {msg:Str} {L:Addr} {E:Value->Shared->Prop} (hf:env.frame=some L) (S:Sat w B os G s) (r:RaisedX False (· = rawInt L) w B G y msg s.heap)
    (q:∀ h',XStep B G s.heap h'->RaisedX False (· = rawInt L) w B G y msg h'->E y {s with heap:=h'}):cameBackBy (Mo w) A env E y s:=by
  unfold cameBackBy;have r':=r;obtain ⟨ea,dx,oe,vs,t,rfl,h2,h3,h4,h5,h6,h7,h8,h9,h10,h11,h12,h13⟩:=r;rcases h13 with ⟨n,_⟩ | ⟨T,oT,ts,f,q1,q2,q3,q4,q5,q6,q7,q8,q9⟩
  . exact n.elim
  . refine wpAny_bind (wpAny_field h4 h7 q1 ?_);refine wl (if_neg (show ¬ ((Value.ref T == Value.none)=true) from by simp) ..) ?_;refine Dq (fr:=env.frame) S r' fun h' k r2=>q h' k ?_;replace r2:=hf▸r2;exact r2
end
def LKb (L:Addr) (G:Gh) (h h':Heap):Prop:=∀ a,(G a=some .lc->a≠L->∀ o,h.get? a=some o->∃ o',h'.get? a=some o'/\o'.data=o.data)/\(∀ v,G a=some (.fz v)->∀ o,h.get? a=some o->h'.get? a=some o)
theorem LKeep.b {L:Addr} {G:Gh} {h h':Heap} (k:LKeep G h h'):LKb L G h h':=fun a=>⟨fun l Y=>(k a).1 l,(k a).2⟩
theorem LKb.refl (L:Addr) (G:Gh) (h:Heap):LKb L G h h:=(LKeep.refl G h).b
theorem LKb.trans {L:Addr} {G G₁:Gh} {h h₁ h₂:Heap} (x:LKb L G h h₁) (e:Ext G G₁) (y:LKb L G₁ h₁ h₂):LKb L G h h₂:=fun a=>⟨fun l n o ho=>by
  obtain ⟨o₁,a1,b1⟩:=(x a).1 l n o ho;obtain ⟨o₂,a2,b2⟩:=(y a).1 (e.lc l) n o₁ a1;exact ⟨o₂,a2,b2.trans b1⟩,fun v l o ho=>(y a).2 v (e.fz l) o ((x a).2 v l o ho)⟩
theorem LKb.own {L:Addr} {G:Gh} {h h':Heap} (k:Heap.SameBut L h h') (n:∀ v,G L≠some (.fz v)):LKb L G h h':=fun a =>
  ⟨fun l ne o e=>⟨o,(k.2 a ne).trans e,rfl⟩,fun v l o e=>(k.2 a fun q=>n v (q▸l)).trans e⟩
noncomputable def mns (G:Gh) (ex:List Addr):Gh:=fun a=>if a∈ex then none else G a
theorem mns_nil (G:Gh):mns G []=G:=by funext a;simp [mns]
theorem Ext.mns {G G':Gh} {ex:List Addr} (e:Ext G G'):Ext (mns G ex) (mns G' ex):=fun a c h n=>by
  unfold Mine.mns at h ⊢;split at h
  . cases h
  . rename_i q;rw [if_neg q];exact e a c h n
theorem Ext.mnsL {G G':Gh} {ex:List Addr} (e:Ext G G'):Ext (Mine.mns G ex) G':=fun a c h n=>by
  unfold Mine.mns at h;split at h
  . cases h
  . exact e a c h n
theorem LKb.mns {L:Addr} {G:Gh} {ex:List Addr} {h h':Heap} (k:LKb L G h h'):LKb L (mns G ex) h h':=fun a=>⟨fun l=>(k a).1 (by unfold Mine.mns at l;split at l;cases l;exact l),fun v l=>(k a).2 v (by unfold Mine.mns at l;split at l;cases l;exact l)⟩
inductive HldIn (w:World) (B:Heap) (A:Around) (ex:List Addr) (G:Gh) (msg:Str):Prop
  | mk (ea dx T:Addr) (oe od oT:Obj) (vs ts:Array Value) (t:Tok) (f:Value) (h1:ex=[ea,dx,T]) (h2:A.handled=some (.ref ea)) (h3:G ea=some (.rw oe)) (h4:G dx=some (.rw od)) (h5:G T=some (.rw oT)) (n1:dx≠ea) (n2:T≠ea) (n3:T≠dx)
      (o1:oe.cls = .ref CR) (o2:oe.dict=some dx) (o3:oe.data = .fields vs) (o4:2<vs.size) (o5:vs[1]?=some (.ref T)) (o6:∀ h:Heap,h.get? dx=some od->Sn h dx 1 (fun y=>if y=fld 20 then some (.str msg t) else none)) (o7:∃ es ep,od.data = .dict es ep) (o8:oT.data = .fields ts) (o9:ts[3]?=some f)
def Hld (w:World) (B:Heap) (A:Around) (ex:List Addr) (G:Gh):Option Str->Prop
  | none=>ex=[]
  | some msg=>HldIn w B A ex G msg
theorem Hld.ext {w:World} {B:Heap} {A:Around} {ex:List Addr} {G G':Gh} {cur:Option Str} (h:Hld w B A ex G cur) (e:Ext G G'):Hld w B A ex G' cur:=by
  cases cur with
  | none=>exact h
  | some msg=>obtain ⟨ea,dx,T,oe,od,oT,vs,ts,t,f,h1,h2,h3,h4,h5,n1,n2,n3,o1,o2,o3,o4,o5,o6,o7,o8,o9⟩:=h;exact ⟨ea,dx,T,oe,od,oT,vs,ts,t,f,h1,h2,e.rw h3,e.rw h4,e.rw h5,n1,n2,n3,o1,o2,o3,o4,o5,o6,o7,o8,o9⟩
structure SOk (c:Sc) (env:Env) (A:Around):Prop where
  ok:EnvOk c env
  nd:c.ls.Nodup
  fr:∃ outer L,A.frames=some (env::outer)/\env.frame=some L
  cd:tabSc c.sc=true->∃ q∈tabL,env.code = .ref q.1
section
variable (w:World) (B:Heap) (os:OsState)
def FlOk (env:Env) (v:Value):Prop:=v = .none\/∃ L,env.frame=some L/\v=rawInt L
inductive PN (env:Env) (ls:List Str) (G:Gh) (h:Heap) (N:Lm->Hp->Prop) (s':Shared):Prop
  | mk (G':Gh) (m':Lm) (H':Hp) (e:Ext G G') (S:Sat w B os G' s') (l:LKb env.locals G h s'.heap) (lo:Loc env ls m' G' s'.heap) (le:Le H' G') (n:N m' H')
inductive PR (env:Env) (G:Gh) (h:Heap) (R:KV) (v:Value) (s':Shared):Prop
  | mk (G':Gh) (b:V) (H':Hp) (e:Ext G G') (S:Sat w B os G' s') (l:LKb env.locals G h s'.heap) (le:Le H' G') (r:VR G' b v) (n:R b H')
def SPost (env:Env) (ls:List Str) (G:Gh) (h:Heap) (N:Lm->Hp->Prop) (R:KV):Flow->Shared->Prop
  | .next,s'=>PN w B os env ls G h N s'
  | .ret v,s'=>PR w B os env G h R v s'
  | _,_=>False
inductive SPostX (A:Around) (env:Env) (ls:List Str) (ex:List Addr) (G:Gh) (h:Heap) (E:KS) (x:Value) (s':Shared):Prop
  | mk (G':Gh) (msg:Str) (m':Lm) (H':Hp) (e:Ext (mns G ex) G') (S:Sat w B os G' s') (l:LKb env.locals (mns G ex) h s'.heap) (lo:Loc env ls m' G' s'.heap) (le:Le H' G') (r:RaisedX True (FlOk env) w B G' x msg s'.heap) (cx:Cx A 0 G') (k:E msg m' H')
def SW (A:Around) (d:Nat) (env:Env) (ls:List Str) (ex:List Addr) (cur:Option Str) (t:Sem Flow) (N:Lm->Hp->Prop) (R:KV) (E:KS) (m:Lm) (H:Hp):Prop :=
  ∀ G s,At w B os A d env ls m H G s->Hld w B A ex G cur->wpAny (Mo w) A t (SPost w B os env ls G s.heap N R) (SPostX w B os A env ls ex G s.heap E) s
variable {w B os}
theorem SPost.pre {env:Env} {ls:List Str} {G G₁:Gh} {h h₁:Heap} {N:Lm->Hp->Prop} {R:KV} {f:Flow} {s':Shared} (e:Ext G G₁) (l:LKb env.locals G h h₁) (p:SPost w B os env ls G₁ h₁ N R f s'):SPost w B os env ls G h N R f s':=by
  cases f with
  | next=>obtain ⟨G',m',H',a,b,c,d,f,r⟩:=(show PN .. from p);exact PN.mk G' m' H' (e.trans a) b (l.trans e c) d f r
  | ret v=>obtain ⟨G',m',H',a,b,c,d,f,r⟩:=(show PR .. from p);exact PR.mk G' m' H' (e.trans a) b (l.trans e c) d f r
  | _=>exact p
theorem SPostX.pre {A:Around} {env:Env} {ls:List Str} {ex:List Addr} {G G₁:Gh} {h h₁:Heap} {E:KS} {x:Value} {s':Shared} (e:Ext G G₁) (l:LKb env.locals G h h₁) (p:SPostX w B os A env ls ex G₁ h₁ E x s'):SPostX w B os A env ls ex G h E x s':=by obtain ⟨G',msg,m',H',a,b,c,d,f,r,x,k⟩:=p;exact ⟨G',msg,m',H',e.mns.trans a,b,l.mns.trans e.mns c,d,f,r,x,k⟩
theorem SPostX.of {env:Env} {ls:List Str} {ex:List Addr} {G:Gh} {E:KS} {A:Around} {d:Nat} {m:Lm} {H:Hp} {s s':Shared} {x:Value} (a:At w B os A d env ls m H G s) (p:PostX w B os G s.heap (fun x H=>E x m H) x s'):SPostX w B os A env ls ex G s.heap E x s':=by obtain ⟨G',msg,H',e,S,l,le,r,k⟩:=p;exact ⟨G',msg,m,H',e.mnsL,S,l.b.mns,a.loc.step e l,le,r.mono id fun v h=>.inl h,(a.cx.le (Nat.zero_le _)).ext e,k⟩
end
def PS (st:Stmt):Prop:=∀ ⦃w:World⦄ ⦃B:Heap⦄ ⦃os:OsState⦄ ⦃A:Around⦄ ⦃d:Nat⦄ ⦃env:Env⦄ ⦃c:Sc⦄ ⦃cur:Option Str⦄ ⦃ex:List Addr⦄ ⦃N:Lm->Hp->Prop⦄ ⦃R:KV⦄ ⦃E:KS⦄ ⦃m:Lm⦄ ⦃H:Hp⦄,SOk c env A->vcS d cur (Al c st) N R E m H->SW w B os A d env c.ls ex cur (exec st env) N R E m H
def PB (b:List Stmt):Prop:=∀ ⦃w:World⦄ ⦃B:Heap⦄ ⦃os:OsState⦄ ⦃A:Around⦄ ⦃d:Nat⦄ ⦃env:Env⦄ ⦃c:Sc⦄ ⦃cur:Option Str⦄ ⦃ex:List Addr⦄ ⦃N:Lm->Hp->Prop⦄ ⦃R:KV⦄ ⦃E:KS⦄ ⦃m:Lm⦄ ⦃H:Hp⦄,SOk c env A->vcS d cur (Ac c b) N R E m H->SW w B os A d env c.ls ex cur (execs b env) N R E m H
section
variable {w:World} {B:Heap} {os:OsState} {A:Around} {d:Nat} {env:Env} {c:Sc} {cur:Option Str} {ex:List Addr} {N:Lm->Hp->Prop} {R:KV} {E:KS} {m:Lm} {H:Hp} {G:Gh} {s:Shared}
theorem At.blk {ls:List Str} (a:At w B os A d env ls m H G s):env.blockKind = .function:=by unfold Env.blockKind;rw [a.loc.kind];rfl
theorem At.int {ls:List Str} (a:At w B os A d env ls m H G s):interactive env=false:=by unfold interactive;rw [a.loc.kind];rfl
theorem SW.expr {t:Sem Value} {K:KV} {Q:Value->Shared->Prop} (a:At w B os A d env c.ls m H G s) (h:WG w B os A t VR K (fun x H=>E x m H) G s)
    (k:∀ G' b H' z s',Ext G G'->LKeep G s.heap s'.heap->At w B os A d env c.ls m H' G' s'->VR G' b z->K b H'->Q z s'):wpAny (Mo w) A t Q (SPostX w B os A env c.ls ex G s.heap E) s :=
  WG.on h (fun G' b H' z s' e S l le r q=>k G' b H' z s' e l (a.step e S l le) r q) fun x s' p=>SPostX.of a p
theorem SW.next (a:At w B os A d env c.ls m H G s) (n:N m H):SPost w B os env c.ls G s.heap N R .next s:=⟨G,m,H,.refl G,a.sat,.refl _ _ _,a.loc,a.le,n⟩
theorem pb_nil:PB []:=by intro w B os A d env c cur ex N R E m H ok h G s a hl;rw [compB_nil] at h;dsimp only [S_skip] at h;exact wpAny_execs_nil (SW.next a h)
theorem pb_cons {st:Stmt} {r:List Stmt} (ih:PS st) (ihr:PB r):PB (st::r):=by
  intro w B os A d env c cur ex N R E m H ok h G s a hl;rw [compB_cons] at h;dsimp only [De] at h;refine wpAny_execs_cons (wpAny_mono (ih ok h G s a hl) (fun f s' p=>?_) fun Y Y e=>e);cases f with
  | next=>obtain ⟨G',m',H',e,S,l,lo,le,n⟩:=p;exact wpAny_mono (ihr ok n G' s' ⟨S,a.cx.ext e,lo,le⟩ (hl.ext e)) (fun Y Y p=>p.pre e l) fun Y Y p=>p.pre e l
  | ret v=>exact p
  | _=>exact p
theorem ps_ret {e:Mine.X} {x:Option PySem.Expr} {p:Pos} (ih:∀ e,x=some e->PE e):PS (.Return x p):=by
  intro w B os A d env c cur ex N R E m H ok h G s a hl;cases x with
  | none=>rw [DZ] at h;dsimp only [S_ret,E_cst] at h;exact wpAny_Return_none ⟨G,.none,H,.refl G,a.sat,.refl _ _ _,a.le,rfl,h⟩
  | some e=>rw [DZ] at h;dsimp only [S_ret] at h;refine wpAny_Return_some (WG.on (WG.conv (ih e rfl ok.ok h G s a)) (fun G' b H' z s' e S l le r q=>⟨G',b,H',e,S,l.b,le,r,q⟩) fun Y Y p=>SPostX.of a p)
theorem BP {e:PySem.Expr} {t:Option PySem.Expr} {n:Nat} (h:Ax e=false):swapsWith e t n env=pure false:=swaps_no h
theorem nd_set {c:Sc} (nd:c.ls.Nodup) {i:Nat} {x:Str} (hi:c.ls[i]?=some x) (m:Lm):∀ j v,j≠i->c.ls[j]?=some x->m[j]?≠some (some v):=fun j v hne hj Y=>by
  obtain ⟨h1,h2⟩:=List.getElem?_eq_some_iff.mp hi;obtain ⟨h3,h4⟩:=List.getElem?_eq_some_iff.mp hj;have nd':=List.pairwise_iff_getElem.mp nd;rcases Nat.lt_trichotomy i j with q | q | q
  . exact nd' i j h1 h3 q (h2.trans h4.symm)
  . exact hne q.symm
  . exact nd' j i h3 h1 q (h4.trans h2.symm)
theorem loc_at {c:Sc} {x:Str} {i:Nat} (h:c.loc? x=some i):c.sc.names.lookup x=some .local/\c.ls[i]?=some x:=by
  unfold Sc.loc? at h;split at h
  . rename_i q;exact ⟨by simpa using q,ix_at h⟩
  . cases h
theorem SW.store {x:Str} {i:Nat} {v:V} {y:Value} {Q:Unit->Shared->Prop} {E':Value->Shared->Prop} (ok:SOk c env A) (hi:c.loc? x=some i) (a:At w B os A d env c.ls m H G s) (r:VR G v y)
    (q:∀ s',LKb env.locals G s.heap s'.heap->At w B os A d env c.ls (m.set i (some v)) H G s'->Q () s'):wpAny (Mo w) A (storeName env x y) Q E' s:=by
  obtain ⟨h1,h2⟩:=loc_at hi;exact store_ok a (ok.ok.loc x h1) h2 (nd_set ok.nd h2 m) r fun h' tk hs a'=>q _ (.own hs fun v q=>by rw [a.loc.lc] at q;cases q) a'
end
section
variable {w:World} {B:Heap} {os:OsState} {A:Around} {d:Nat} {env:Env} {c:Sc} {cur:Option Str} {ex:List Addr} {N:Lm->Hp->Prop} {R:KV} {E:KS} {m:Lm} {H:Hp} {G:Gh} {s:Shared}
theorem SW.exprC {t:Sem Value} {K:KV} {Q:Value->Shared->Prop} (a:At w B os A d env c.ls m H G s) (h:WG w B os A t VR (fun v H=>cv v H K) (fun x H=>E x m H) G s)
    (k:∀ G' b H' z s',Ext G G'->LKeep G s.heap s'.heap->At w B os A d env c.ls m H' G' s'->VR G' b z->K b H'->Q z s'):wpAny (Mo w) A t Q (SPostX w B os A env c.ls ex G s.heap E) s:=SW.expr a (WG.conv h) k
theorem At.post {m':Lm} {H':Hp} {G':Gh} {s':Shared} (a:At w B os A d env c.ls m' H' G' s') (e:Ext G G') (l:LKb env.locals G s.heap s'.heap) (n:N m' H'):SPost w B os env c.ls G s.heap N R .next s':=⟨G',m',H',e,a.sat,l,a.loc,a.le,n⟩
theorem ps_exp {e:PySem.Expr} {p:Pos} (ih:PE e) (hcs:∀ c,Al c (.Expr e p)=if Ax e then .bad else .exp (comp c e)):PS (.Expr e p):=by
  intro w B os A d env c cur ex N R E m H ok h G s a hl;rw [hcs] at h;split at h
  . exact h.elim
  . rename_i hc;dsimp only [S_exp] at h;refine wpAny_Expr_any (SW.expr a (ih ok.ok h G s a) fun G' b H' z s' e l a' r k=>a'.post e l.b k) a.int (BP (by simpa using hc))
set_option tactic.hygienic true in
theorem ps_if {t:PySem.Expr} {x y:List Stmt} {p:Pos} (ih:PT t) (ih1:PB x) (ih2:PB y):PS (.If t x y p):=by
  intro w B os A d env c cur ex N R E m H ok h G s a hl;rw [compS_If] at h;split at h
  . rename_i ht;dsimp only [S_iff] at h;refine wpAny_If (WG.on (ih (K:=fun t H=>(t=true->vcS d cur (Ac c x) N R E m H)/\(t=false->vcS d cur (Ac c y) N R E m H)) ht ok.ok h G s a) (fun G' b H' z s' e S l le r k=>?_) fun Y Y p=>SPostX.of a p);cases (show b=z from r);have a':=a.step e S l le;cases b with
    | true=>exact wpAny_mono (ih1 ok (k.1 rfl) G' s' a' (hl.ext e)) (fun Y Y p=>p.pre e l.b) fun Y Y p=>p.pre e l.b
    | false=>exact wpAny_mono (ih2 ok (k.2 rfl) G' s' a' (hl.ext e)) (fun Y Y p=>p.pre e l.b) fun Y Y p=>p.pre e l.b
  . exact h.elim
set_option tactic.hygienic true in
theorem asg_core {x:Str} {xp p:Pos} {e:PySem.Expr} {i:Nat} (ih:PE e) (hc:Ax e=false) (hi:c.loc? x=some i) (ok:SOk c env A) (h:vcS d cur (.asg i (comp c e)) N R E m H):SW w B os A d env c.ls ex cur (exec (.Assign [.Name x xp] e p) env) N R E m H:=by intro G s a hl;dsimp only [S_asg] at h;refine wpAny_Assign_Name (SW.exprC a (ih ok.ok h G s a) fun G' b H' z s' e l a' r k=>?_) (BP hc);exact SW.store ok hi a' r fun s'' l' a''=>a''.post e (l.b.trans e l') k
set_option tactic.hygienic true in
theorem ps_auv {x:Str} {xp p:Pos} {op:Operator} {e:PySem.Expr} (ih:PE e):PS (.AugAssign (.Name x xp) op e p):=by
  intro w B os A d env c cur ex N R E m H ok h G s a hl;rw [compS_auv] at h;split at h
  . rename_i i hi;dsimp only [S_auv] at h;obtain ⟨o,ho,h3⟩:=AK h;obtain ⟨u,hu,h4⟩:=AK h3;obtain ⟨y,rfl,h5⟩:=Ba h4
    . have hy:=hu▸ho;obtain ⟨h1,h2⟩:=loc_at hi;obtain ⟨mm,hn,hv⟩:=a.loc.ns;obtain ⟨z,q1,t,rfl⟩:=hv i x _ h2 hy (ok.ok.loc x h1);refine wpAny_AugAssign_Name (wpAny_loadName_local a.loc.kind (ok.ok.loc x h1) hn q1 ?_);refine SW.expr a (ih ok.ok h5 G s a) fun G' b H' v s' e l a' r k=>?_;obtain ⟨rfl,k1⟩:=isAdd_inv k;obtain ⟨j,rfl,k2⟩:=Ba k1
      . obtain ⟨u,rfl⟩:=r;refine AutoIntOps.iadd_0 ?_;show wpAny (Mo w) A (storeName env x (.int _ s'.toks)) _ _ {s' with toks:=s'.toks+1};have a2:At w B os A d env c.ls m H' G' {s' with toks:=s'.toks+1}:=⟨a'.sat.keeps (fun Y Y e=>e) rfl rfl,a'.cx,a'.loc,a'.le⟩
        exact SW.store (v:=.int _) ok hi a2 ⟨_,rfl⟩ fun s'' l' a''=>a''.post e (l.b.trans e l') k2
  . exact h.elim
set_option tactic.hygienic true in
theorem setC_ok {n:Nat} {a v:V} {x z:Value} {K:Hp->Prop} {X:KX} (hn:n<flds.length) (S:Sat w B os G s) (l:Le H G) (r:VR G a x) (rz:VR G v z) (k:setC a n v K H) :
    WG w B os A (setAttr x (fld n) z) relU (fun Y=>K) X G s:=by
  obtain ⟨c,h,k⟩:=AK k;obtain ⟨C,es,rfl,k1,k2⟩:=aO_inv k;refine setA_ok hn (fun C' es' h'=>?_) S l r rz k2;rw [h] at h';cases h';exact obj_cls a H (fun C' es' h'=>by rw [h] at h';cases h';exact k1) S l r _ _ h
set_option tactic.hygienic true in
theorem ps_sat {o e:PySem.Expr} {n:Str} {op p:Pos} (iho:PE o) (ihe:PE e):PS (.Assign [.Attribute o n op] e p):=by
  intro w B os A d env c cur ex N R E m H ok h G s a hl;rw [compS_attr] at h;split at h
  . exact h.elim
  . rename_i hc;simp only [Bool.or_eq_true,not_or,Bool.not_eq_true] at hc;split at h
    . rename_i k hk;obtain ⟨rfl,hlt⟩:=fIx_fld hk;dsimp only [S_sat] at h;refine wpAny_Assign_stores (SW.exprC a (ihe ok.ok h G s a) fun G' b H' z s' e' l a' r q=>?_) (by unfold swapsWithSole;exact BP hc.1) (by unfold swappedStores;cases e<;>rfl);show wpAny (Mo w) A (assign (.Attribute o (fld k) op) env z) _ _ s';rw [arm_assign_Attribute];refine wpAny_mono (Q:=fun Y s''=>SPost w B os env c.ls G' s'.heap N R .next s'') (E:=SPostX w B os A env c.ls ex G' s'.heap E) ?_ (fun Y Y p=>p.pre e' l.b) fun Y Y p=>p.pre e' l.b;refine wpAny_bind (wpAny_holding (SW.expr a' (iho ok.ok q G' s' a') fun G2 b2 H2 z2 s2 e2 l2 a2 r2 q2=>?_));refine wpAny_bind (wpAny_standAt (wpAny_bind (wpAny_holding ?_)));refine WG.on (setC_ok (X:=fun x H=>E x m H) hlt a2.sat a2.le r2 (r.ext e2) q2) (fun G3 Y H3 Y s3 e3 S3 l3 le3 Y q3=>wpAny_release ?_) (fun Y Y p=>(SPostX.of a2 p).pre e2 l2.b);exact (a2.step e3 S3 l3 le3).post (e2.trans e3) (l2.trans e2 l3).b q3
    . exact h.elim
theorem ps_sit {o i e:PySem.Expr} {op p:Pos} (iho:PE o) (ihi:PE i) (ihe:PE e):PS (.Assign [.Subscript o i op] e p):=by
  intro w B os A d env c cur ex N R E m H ok h G s a hl;rw [compS_sub] at h;split at h
  . exact h.elim
  . rename_i hc;simp only [Bool.or_eq_true,not_or,Bool.not_eq_true] at hc;dsimp only [S_sit] at h;refine wpAny_Assign_Subscript (SW.exprC a (ihe ok.ok h G s a) fun G' b H' z s' e' l a' r q=>?_) (BP hc.1);refine wpAny_mono (Q:=fun ov s''=>wpAny (Mo w) A (eval i env) (fun iv s₃=>wpAny (Mo w) A (setItem ov iv z) (fun Y=>SPost w B os env c.ls G' s'.heap N R .next) (SPostX w B os A env c.ls ex G' s'.heap E) s₃) (SPostX w B os A env c.ls ex G' s'.heap E) s'') (E:=SPostX w B os A env c.ls ex G' s'.heap E) ?_
      (fun Y Y p=>wpAny_mono p (fun Y Y p=>wpAny_mono p (fun Y Y p=>p.pre e' l.b) fun Y Y p=>p.pre e' l.b) fun Y Y p=>p.pre e' l.b) fun Y Y p=>p.pre e' l.b
    refine SW.expr a' (iho ok.ok q G' s' a') fun G2 b2 H2 z2 s2 e2 l2 a2 r2 q2=>?_;refine WG.on (ihi ok.ok q2 G2 s2 a2) (fun G3 b3 H3 z3 s3 e3 S3 l3 le3 r3 q3=>?_) (fun Y Y p=>(SPostX.of a2 p).pre e2 l2.b);have a3:=a2.step e3 S3 l3 le3;refine WG.on (setI_ok (X:=fun x H=>E x m H) a3.sat a3.le (r2.ext e3) r3 ((r.ext e2).ext e3) q3) (fun G4 Y H4 Y s4 e4 S4 l4 le4 Y q4=>?_) (fun Y Y p=>(SPostX.of a3 p).pre (e2.trans e3) (l2.trans e2 l3).b);exact (a3.step e4 S4 l4 le4).post ((e2.trans e3).trans e4) ((l2.trans e2 l3).trans (e2.trans e3) l4).b q4
set_option tactic.hygienic true in
theorem ps_aua {o e:PySem.Expr} {n:Str} {op:Operator} {tp p:Pos} (iho:PE o) (ihe:PE e):PS (.AugAssign (.Attribute o n tp) op e p):=by
  intro w B os A d env c cur ex N R E m H ok h G s a hl;rw [compS_aua] at h;split at h
  . split at h
    . rename_i k hk;obtain ⟨rfl,hlt⟩:=fIx_fld hk;dsimp only [S_aua] at h;refine wpAny_AugAssign_AttributeAny (SW.expr a (iho ok.ok h G s a) fun G1 b1 H1 z1 s1 e1 l1 a1 r1 q1=>?_);refine WG.on (attr_gen (A:=A) (X:=fun x H=>E x m H) a1.sat a1.le r1 q1) (fun G2 b2 H2 z2 s2 e2 S2 l2 le2 r2 q2=>?_) (fun Y Y p=>(SPostX.of a1 p).pre e1 l1.b);have a2:=a1.step e2 S2 l2 le2;have e12:=e1.trans e2;have l12:=l1.trans e1 l2;refine WG.on (ihe ok.ok q2 G2 s2 a2) (fun G3 b3 H3 z3 s3 e3 S3 l3 le3 r3 q3=>?_) (fun Y Y p=>(SPostX.of a2 p).pre e12 l12.b);have a3:=a2.step e3 S3 l3 le3;have e13:=e12.trans e3;have l13:=l12.trans e12 l3;have r2':=r2.ext e3;clear r2;obtain ⟨rfl,q4⟩:=isAdd_inv q3;obtain ⟨i,rfl,q5⟩:=Ba q4;obtain ⟨j,rfl,q6⟩:=Ba q5
      . obtain ⟨t,rfl⟩:=r2';obtain ⟨u,rfl⟩:=r3;refine AutoIntOps.iadd_0 ?_;show wpAny (Mo w) A (setAttr z1 (fld k) (.int _ s3.toks)) _ _ {s3 with toks:=s3.toks+1};have S4:Sat w B os G3 {s3 with toks:=s3.toks+1}:=a3.sat.keeps (fun Y Y e=>e) rfl rfl;refine WG.on (setC_ok (v:=.int _) (X:=fun x H=>E x m H) hlt S4 a3.le ((r1.ext e2).ext e3) ⟨_,rfl⟩ q6) (fun G5 Y H5 Y s5 e5 S5 l5 le5 Y q5=>?_) (fun Y Y p=>(SPostX.of (s:={s3 with toks:=s3.toks+1}) ⟨S4,a3.cx,a3.loc,a3.le⟩ p).pre e13 l13.b);exact (a3.step e5 S5 l5 le5).post (e13.trans e5) (l13.trans e13 l5).b q5
    . exact h.elim
  . exact h.elim
theorem ps_del {o i:PySem.Expr} {tp p:Pos} (iho:PE o) (ihi:PE i):PS (.Delete [.Subscript o i tp] p):=by
  intro w B os A d env c cur ex N R E m H ok h G s a hl;rw [compS_del] at h;split at h
  . exact h.elim
  . dsimp only [S_dli] at h;refine wpAny_Delete (wpAny_deleteEach_cons (wpAny_delete_Subscript (SW.expr a (iho ok.ok h G s a) fun G1 b1 H1 z1 s1 e1 l1 a1 r1 q1=>?_)));refine WG.on (ihi ok.ok q1 G1 s1 a1) (fun G2 b2 H2 z2 s2 e2 S2 l2 le2 r2 q2=>?_) (fun Y Y p=>(SPostX.of a1 p).pre e1 l1.b);have a2:=a1.step e2 S2 l2 le2;refine WG.on (delI_ok (X:=fun x H=>E x m H) a2.sat a2.le (r1.ext e2) r2 q2) (fun G3 Y H3 Y s3 e3 S3 l3 le3 Y q3=>wpAny_deleteEach_nil ?_) (fun Y Y p=>(SPostX.of a2 p).pre (e1.trans e2) (l1.trans e1 l2).b);exact (a2.step e3 S3 l3 le3).post ((e1.trans e2).trans e3) ((l1.trans e1 l2).trans (e1.trans e2) l3).b q3
end
section
variable {w:World} {B:Heap} {os:OsState} {A:Around} {d:Nat} {env:Env} {c:Sc} {cur:Option Str} {ex:List Addr} {N:Lm->Hp->Prop} {R:KV} {E:KS} {m:Lm} {H:Hp} {G:Gh} {s:Shared}
theorem At.extBut (a:At w B os A d env c.ls m H G s) {h':Heap} (k:Heap.ExtBut s.heap.objs.size s.heap h'):At w B os A d env c.ls m H G {s with heap:=h'}/\LKeep G s.heap h':=by have kk:∀ b o,s.heap.get? b=some o->h'.get? b=some o:=fun b o e=>k b o (Nat.ne_of_lt (Heap.lt_size e)) e;have l:LKeep G s.heap h':=.keeps kk;exact ⟨a.step (s':={s with heap:=h'}) (.refl G) (a.sat.keeps (s':={s with heap:=h'}) kk rfl rfl) l a.le,l⟩
theorem store2 {x:Str} {xp:Pos} {i:Nat} {v:V} {y:Value} {Q:Unit->Shared->Prop} {E':Value->Shared->Prop} (ok:SOk c env A) (hi:c.loc? x=some i) (a:At w B os A d env c.ls m H G s) (r:VR G v y)
    (q:∀ s',LKb env.locals G s.heap s'.heap->At w B os A d env c.ls (m.set i (some v)) H G s'->Q () s'):wpAny (Mo w) A (assign (.Name x xp) env y) Q E' s :=
  wpAny_assign_Name (SW.store ok hi a r q)
noncomputable def setTs:Lm->List Nat->List V->Lm
  | m,i::ls,v::vs=>setTs (m.set i (some v)) ls vs
  | m,_,_=>m
theorem each_ok:∀ {es:List PySem.Expr} {ls:List Nat},locs c es=some ls->(assignEach es env).length=ls.length/\∀ q∈assignEach es env,q.1=false:=by
  intro l
  induction l with
  | nil=>intro _ h;cases h;exact ⟨rfl,fun Y h=>nomatch h⟩
  | cons e r IH=>intro _ h;obtain ⟨x,hx,h⟩:=Option.bind_eq_some_iff.mp h;obtain ⟨i,hi,h⟩:=Option.bind_eq_some_iff.mp h;obtain ⟨ls,hl,rfl⟩:=Option.map_eq_some_iff.mp h;obtain ⟨p,rfl⟩:=nm_inv hx;have ih:=IH hl;exact ⟨congrArg (· + 1) ih.1,fun q hq=>by cases hq with | head=>rfl | tail _ h=>exact ih.2 q h⟩
theorem store_all {Q:Unit->Shared->Prop} {E':Value->Shared->Prop} (ok:SOk c env A) {es:List PySem.Expr}:∀ {ls:List Nat} {vs:List V} {xs:List Value} {m:Lm} {s:Shared},locs c es=some ls->VRs G vs xs->vs.length=ls.length->At w B os A d env c.ls m H G s ->
    (∀ s',LKb env.locals G s.heap s'.heap->At w B os A d env c.ls (setTs m ls vs) H G s'->Q () s')->wpAny (Mo w) A (assignInOrder ((assignEach es env).map (·.2)) xs) Q E' s:=by
  induction es with
  | nil=>intro ls vs xs m s h r hn a q;cases h;exact wpAny_pure (q s (.refl _ _ _) a)
  | cons e es IH =>
    intro ls vs xs m s h r hn a q;obtain ⟨x,hx,h⟩:=Option.bind_eq_some_iff.mp h;obtain ⟨i,hi,h⟩:=Option.bind_eq_some_iff.mp h;obtain ⟨ls,hl,rfl⟩:=Option.map_eq_some_iff.mp h;obtain ⟨p,rfl⟩:=nm_inv hx;cases r with
    | nil=>exact absurd hn (Nat.succ_ne_zero _).symm
    | cons r1 rs=>exact wpAny_bind (wpAny_holding (store2 ok hi a r1 fun s2 l2 a2=>IH hl rs (Nat.succ.inj hn) a2 fun s3 l3 a3=>q s3 (l2.trans (.refl G) l3) a3))
theorem two_len {xs:List V} {P:V->V->Prop} (k:match xs with | [a,b]=>P a b | _=>False):∃ a b,xs=[a,b]/\P a b:=by
  cases xs with
  | nil=>exact k.elim
  | cons a xs=>cases xs with
    | nil=>exact k.elim
    | cons b xs=>cases xs with
      | nil=>exact ⟨a,b,rfl,k⟩
      | cons _ _=>exact k.elim
set_option tactic.hygienic true in
theorem tgs_inv {t:Tg} {ls:List Nat} {v:V} {N:Lm->Prop} (ht:tgOf ls=some t) (k:BL t v m N):∃ vs,v = .tup vs/\vs.length=ls.length/\N (setTs m ls vs):=by
  cases ls with
  | nil=>cases ht
  | cons i ls=>cases ls with
    | nil=>cases ht
    | cons j ls=>cases ls with
      | nil=>cases ht;obtain ⟨xs,rfl,k2⟩:=aT_inv k;obtain ⟨a,b,rfl,k3⟩:=two_len k2;exact ⟨_,rfl,rfl,k3⟩
      | cons l ls=>cases ls with
        | nil =>
          cases ht;obtain ⟨xs,rfl,k2⟩:=aT_inv k;cases xs with
          | nil=>exact k2.elim
          | cons a xs=>cases xs with
            | nil=>exact k2.elim
            | cons b xs=>cases xs with
              | nil=>exact k2.elim
              | cons c xs=>cases xs with
                | nil=>exact ⟨_,rfl,rfl,k2⟩
                | cons _ _=>exact k2.elim
        | cons _ _=>cases ht
set_option tactic.hygienic true in
theorem bind_ok {t:Tg} {te:PySem.Expr} {v:V} {z:Value} {N':Lm->Prop} {Q:Unit->Shared->Prop} {E':Value->Shared->Prop} (ht:tg? c te=some t) (ok:SOk c env A) (hh:A.handled=none) (a:At w B os A d env c.ls m H G s) (r:VR G v z) (k:BL t v m N')
    (q:∀ m' s',LKb env.locals G s.heap s'.heap->At w B os A d env c.ls m' H G s'->N' m'->Q () s'):wpAny (Mo w) A (assign te env z) Q E' s:=by
  cases tg_inv ht with
  | one hi=>exact store2 ok hi a r fun s' l a'=>q _ s' l a' k
  | @tup es kk p ls _ hl ht=>obtain ⟨vs,rfl,hn,k⟩:=tgs_inv ht k;obtain ⟨p,its,n,rfl,g1,g2⟩:=CI (w:=w) (B:=B) (os:=os) (H:=H) a.sat a.le r rfl;obtain ⟨h1,h2⟩:=each_ok (env:=env) hl;refine wpAny_assign_Tuple hh ⟨_,g1,rfl,n,rfl⟩ ((h1.trans hn.symm).trans (g2.length.trans List.size_toArray.symm)) (List.findIdx?_eq_none_iff.mpr h2) fun h' hk=>?_;obtain ⟨a1,l1⟩:=a.extBut hk;exact store_all ok hl g2 hn a1 fun s2 l2 a2=>q _ s2 (l1.b.trans (.refl G) l2) a2 k
set_option tactic.hygienic true in
theorem ps_unp {ts:List PySem.Expr} {kk:Nat} {tp p:Pos} {e:PySem.Expr} (ihe:PE e):PS (.Assign [.Tuple ts kk tp] e p):=by
  intro w B os A d env c cur ex N R E m H ok h G s a hl;rw [compS_tup] at h;split at h
  . exact h.elim
  . rename_i hc;simp only [Bool.or_eq_true,not_or,Bool.not_eq_true] at hc;split at h
    . rename_i t ht;dsimp only [S_unp] at h;refine Assign_Tuple (SW.expr a (ihe ok.ok h.2 G s a) fun G1 b1 H1 z1 s1 e1 l1 a1 r1 q1=>?_) (by unfold swapsWithSole;exact BP hc.1) (by unfold swappedStores;cases e<;>first | rfl | exact absurd hc.2.symm Bool.false_ne_true);exact bind_ok ht ok (a.cx.handled h.1) a1 r1 q1 fun m' s' l' a' n'=>a'.post e1 (l1.b.trans e1 l') n'
    . exact h.elim
end
section
variable {w:World} {B:Heap} {os:OsState} {A:Around} {d:Nat} {env:Env} {c:Sc} {cur:Option Str} {ex:List Addr} {N:Lm->Hp->Prop} {R:KV} {E:KS} {m:Lm} {H:Hp} {G:Gh} {s s':Shared} {h:Heap}
theorem SPostX.noted {x:Value} (ok:SOk c env A) (p:SPostX w B os A env c.ls ex G h E x s'):notedBy (Mo w) A env (fun e s''=>cameBackBy (Mo w) A env (SPostX w B os A env c.ls ex G h E) e s'') x s':=by
  obtain ⟨G',msg,m',H',e,S,l,lo,le,r,cx,k⟩:=p;obtain ⟨outer,L,hfr,hf⟩:=ok.fr;refine note_ok hfr hf cx S (r.mono id fun v hv=>?_) fun h1 k1 r1=>?_
  . rcases hv with hv | ⟨L',hL,hv⟩
    . exact .inl hv
    . rw [hf] at hL;cases hL;exact .inr hv
  have S1:Sat w B os G' {s' with heap:=h1}:=S.xstep k1 rfl rfl;refine back_ok (msg:=msg) hf S1 r1 fun h2 k2 r2=>?_;have S2:Sat w B os G' {s' with heap:=h2}:=S1.xstep (s':={s' with heap:=h2}) k2 rfl rfl;have lk:=(k1.trans k2).lkeep;exact ⟨G',msg,m',H',e,S2,l.trans e lk.b,lo.step (.refl G') lk,le,r2.mono False.elim fun v hv=>.inr ⟨L,hf,hv⟩,cx,k⟩
theorem ps_whl {t:PySem.Expr} {b:List Stmt} {p:Pos} (iht:PT t) (ihb:PB b):PS (.While t b [] p):=by
  intro w B os A d env c cur ex N R E m H ok h G s a hl;rw [compS_While] at h;split at h
  . rename_i ht;dsimp only [S_whl] at h;obtain ⟨I,⟨n0,hI0⟩,hstep⟩:=h;refine wpAny_While (codeAny_whileLoop (fun n s'=>∃ m' H' G',Ext G G'/\LKb env.locals G s.heap s'.heap/\At w B os A d env c.ls m' H' G' s'/\I n m' H') ?_ n0 ⟨m,H,G,.refl G,.refl _ _ _,a,hI0⟩);rintro n s1 ⟨m1,H1,G1,e1,l1,a1,hI⟩;refine WG.on (iht (K:=fun t H=>(t=true->vcS d cur (Ac c b) (fun m H=>∃ n',n'<n/\I n' m H) R E m1 H)/\(t=false->N m1 H)) ht ok.ok (hstep n m1 H1 hI) G1 s1 a1) (fun G2 b2 H2 z s2 e2 S2 l2 le2 r2 k2=>?_) fun x s2 p=>SPostX.noted ok ((SPostX.of a1 p).pre e1 l1);cases (show b2=z from r2);have a2:=a1.step e2 S2 l2 le2;have e12:=e1.trans e2;have l12:=l1.trans e1 l2.b;cases b2 with
    | false=>rw [if_neg (by decide)];exact wpAny_execs_nil (a2.post e12 l12 (k2.2 rfl))
    | true =>
      rw [if_pos rfl];refine wpAny_mono (ihb ok (k2.1 rfl) G2 s2 a2 (hl.ext e12)) (fun f s3 p3=>?_) fun x s3 p3=>SPostX.noted ok (p3.pre e12 l12);cases f with
      | next=>obtain ⟨G3,m3,H3,e3,S3,l3,lo3,le3,n',hn',k3⟩:=p3;exact ⟨n',hn',m3,H3,G3,e12.trans e3,l12.trans e12 l3,⟨S3,a2.cx.ext e3,lo3,le3⟩,k3⟩
      | ret v=>exact p3.pre e12 l12
      | _=>exact p3.elim
  . exact h.elim
theorem owned_ok {te:PySem.Expr} {it:Addr} {z:Value} {obj:Obj} {Q:Unit->Shared->Prop} {E':Value->Shared->Prop} (ho:s.heap.get? it=some obj) (hc:∃ n,n∈["list_iterator","tuple_iterator","range_iterator","dict_keyiterator","list_reverseiterator"]/\obj.cls = .type n) (q:Q () s) :
    wpAny (Mo w) A (letOwnedTupleGo te (.ref it) z) Q E' s:=by
  obtain ⟨n,hn,hc⟩:=hc;obtain ⟨oc,od,oda,osl⟩:=obj;cases (show oc=_ from hc);have core:wpAny (Mo w) A (do
      let (.ref r,.ref a):=(Value.ref it,z) | return
      let o <- load r
      match o.cls,o.data with
      | .type n,.fields vs =>
        if ["enumerate","zip","dict_itemiterator","dict_reverseitemiterator","odict_iterator","itertools.zip_longest","itertools.pairwise"].contains n && vs[0]? == some (rawInt a) then
          rule "for.unpacks-the-owned-tuple"
          updateField r 0 .none
      | _,_=>pure ()) Q E' s:=by
    cases z with
    | ref a =>
      refine wpAny_bind (wpAny_load ho ?_);cases oda with
      | fields vs =>
        have:(["enumerate","zip","dict_itemiterator","dict_reverseitemiterator","odict_iterator","itertools.zip_longest","itertools.pairwise"].contains n)=false:=by simp only [List.mem_cons,List.not_mem_nil,or_false] at hn;rcases hn with rfl | rfl | rfl | rfl | rfl<;>decide
        dsimp only;exact wl (this ..) (wpAny_pure q)
      | _=>exact wpAny_pure q
    | _=>exact wpAny_pure q
  unfold letOwnedTupleGo;cases te<;>first | exact wpAny_pure q | exact core
end
section
variable {w:World} {B:Heap} {os:OsState} {A:Around} {d:Nat} {env:Env} {c:Sc} {cur:Option Str} {ex:List Addr} {N:Lm->Hp->Prop} {R:KV} {E:KS} {m:Lm} {H:Hp} {G:Gh} {s s':Shared} {h:Heap}
theorem LKb.fzk {L:Addr} {G:Gh} {h h':Heap} (k:LKb L G h h'):FzK G h h':=fun a v e o q=>(k a).2 v e o q
inductive FLs (w:World) (B:Heap) (os:OsState) (A:Around) (d:Nat) (env:Env) (ls:List Str) (G₀:Gh) (h₀:Heap) (ia:Addr) (IO:Nat->Obj->Prop) (Ok:Gh->Hp->Heap->Prop) (m:Lm) (i:Nat) (G:Gh) (H:Hp) (s:Shared):Prop
  | mk (obj:Obj) (e:Ext G₀ G) (l:LKb env.locals G₀ h₀ s.heap) (hG:G ia=some (.rw obj)) (hio:IO i obj) (hok:Ok G H s.heap) (a:At w B os A d env ls m H G s)
inductive FLI (w:World) (B:Heap) (os:OsState) (A:Around) (d:Nat) (env:Env) (ls:List Str) (G₀:Gh) (h₀:Heap) (ia:Addr) (IO:Nat->Obj->Prop) (Ok:Gh->Hp->Heap->Prop) (J:Nat->Lm->Hp->Prop) (tot n:Nat) (s:Shared):Prop
  | mk (i:Nat) (m:Lm) (H:Hp) (G:Gh) (e:n=tot - i) (hi:i<=tot) (fl:FLs w B os A d env ls G₀ h₀ ia IO Ok m i G H s) (hI:J i m H)
variable {ls:List Str} {G' G₀:Gh} {H' H₀:Hp} {h₀:Heap} {ia:Addr} {IO:Nat->Obj->Prop} {Ok:Gh->Hp->Heap->Prop} {i:Nat} {items:List V} {v v₀:V} {m':Lm}
theorem FLs.at (fl:FLs w B os A d env ls G₀ h₀ ia IO Ok m i G H s):At w B os A d env ls m H G s:=fl.casesOn fun Y Y Y Y Y Y a=>a
theorem FLs.ext (fl:FLs w B os A d env ls G₀ h₀ ia IO Ok m i G H s):Ext G₀ G:=fl.casesOn fun Y e Y Y Y Y Y=>e
theorem FLs.lk (fl:FLs w B os A d env ls G₀ h₀ ia IO Ok m i G H s):LKb env.locals G₀ h₀ s.heap:=fl.casesOn fun Y Y l Y Y Y Y=>l
theorem FLs.step (st:Strm w B os A ia items (AL v₀ H₀) IO Ok) (fl:FLs w B os A d env ls G₀ h₀ ia IO Ok m i G H s) (hs:AL v₀ H₀ H') (e:Ext G G') (l:LKb env.locals G s.heap s'.heap) (a:At w B os A d env ls m' H' G' s'):FLs w B os A d env ls G₀ h₀ ia IO Ok m' i G' H' s' :=
  fl.casesOn fun obj e0 l0 hG hio hok Y=>⟨obj,e0.trans e,l0.trans e0 l,e.rw hG,hio,st.step hok hs e fun b v hb o q=>l.fzk b v hb o q,a⟩
theorem FLs.next (st:Strm w B os A ia items (AL v₀ H₀) IO Ok) (fl:FLs w B os A d env ls G₀ h₀ ia IO Ok m i G H s) (hv:items[i]?=some v) (hia:G₀ ia=none) {Q:Option Value->Shared->Prop} {E:Value->Shared->Prop}
    (q:∀ z obj G' s',VR G' v z->s'.heap.get? ia=some obj->IO (i+1) obj->FLs w B os A d env ls G₀ h₀ ia IO Ok m (i+1) G' H s'->Q (some z) s'):wpAny (Mo w) A (pyNext (.ref ia)) Q E s:=by
  obtain ⟨obj,e0,l0,hG,hio,hok,a⟩:=fl;refine st.next a.sat a.le hok hG hio hv fun z h' tk obj' rz hio' hob hsb=>?_
  have kb:∀ b o,b≠ia->s.heap.get? b=some o->h'.get? b=some o:=fun b o nb e=>(hsb.2 b nb).trans e;have eb:=EqB.upd G ia (.rw obj');exact q z obj' _ _ (eb.vr hG rz) hob hio' ⟨obj',eb.ext e0 hia,l0.trans e0 (lkeepB hG kb).b,AA _ _ _,hio',st.raw hG hok eb kb,
    eb.at (s':={s with heap:=h',toks:=tk}) hG (st.ncell i obj hio) a kb (fun cc hc=>by rw [AA] at hc;cases hc;exact hob) rfl rfl⟩
theorem FLs.done (st:Strm w B os A ia items (AL v₀ H₀) IO Ok) (fl:FLs w B os A d env ls G₀ h₀ ia IO Ok m items.length G H s) (hia:G₀ ia=none) {Q:Option Value->Shared->Prop} {E:Value->Shared->Prop}
    (q:∀ G' s',Ext G₀ G'->LKb env.locals G₀ h₀ s'.heap->At w B os A d env ls m H G' s'->Q none s'):wpAny (Mo w) A (pyNext (.ref ia)) Q E s:=by
  obtain ⟨obj,e0,l0,hG,hio,hok,a⟩:=fl;refine st.done a.sat a.le hok hG hio fun h' kb=>?_;have eb:=EqB.del G ia;exact q _ _ (eb.ext e0 hia) (l0.trans e0 (lkeepB hG kb).b) (eb.at (s':={s with heap:=h'}) hG (st.ncell _ obj hio) a kb (fun cc hc=>by simp [Mine.del] at hc) rfl rfl)
set_option tactic.hygienic true in
theorem ps_for {te it:PySem.Expr} {b:List Stmt} {p:Pos} (ihi:PE it) (ihi2:∀ f a p,it = .Call f [a] [] p->PE a) (ihb:PB b):PS (.For te it b [] p):=by
  intro w B os A d env c cur ex N R E m H ok h G s a hl;rw [compS_For] at h;split at h
  . exact h.elim
  rename_i hset;split at h
  . rename_i tg htg;dsimp only [S_frs] at h;refine wpAny_For (wpAny_mono (src_ok ihi ihi2 ok.ok h a) (fun z s1 ⟨G1,H1,v0,items,e1,S1,l1,le1,src,k1⟩=>?_) fun x s' p=>SPostX.of a p) (fun x=>folded_no (eq_false_of_ne_true hset));obtain ⟨hd,J,hJ0,hstep,hend⟩:=k1;have hh:=a.cx.handled hd;refine wpAny_mono (iter_ok (A:=A) (E:=SPostX w B os A env c.ls ex G s.heap E) S1 le1 src) (fun itv s2 ⟨G2,ia,obj0,IO,Ok,e2,S2,l2,le2,hitv,hia,eb2,hia0,kb,hio,hoks,hst⟩=>?_) fun Y Y e=>e;subst hitv;have st:=hst hh;have a1:=a.step e1 S1 l1 le1;have a2:=a1.step e2 S2 l2 le2;have stay_of:∀ {i m' H'},i<=items.length->J i m' H'->AL v0 H1 H':=fun {i m' H'} hle hI=>by
      by_cases hlt:i<items.length
      . exact (hstep i _ m' H' (List.getElem?_eq_getElem hlt) hI).1
      . have:i=items.length:=(r_ne ‹_› ‹_›)
        subst this;exact (hend m' H' hI).1
    refine codeAny_forLoop_any (FLI w B os A d env c.ls G1 s1.heap ia IO Ok J items.length) ?_ items.length ⟨0,m,H1,G2,rfl,Nat.zero_le _,⟨obj0,e2,l2.b,hia,hio,hoks,a2⟩,hJ0⟩;rintro n s3 ⟨i,m3,H3,G3,rfl,hi,fl,hI⟩;by_cases hlt:i<items.length
    . have hv:items[i]?=some items[i]:=List.getElem?_eq_getElem hlt;refine fl.next st hv hia0 fun z obj' G4 s4 rz hob hio' f4=>?_
      refine owned_ok hob (st.cls _ _ hio') ?_;refine bind_ok htg ok hh f4.at rz (hstep i _ m3 H3 hv hI).2 fun m5 s5 l5 a5 k5=>?_;have e05:=e1.trans f4.ext;have l05:=l1.b.trans e1 (f4.lk.trans f4.ext l5);refine wpAny_mono (ihb ok k5 _ s5 a5 (hl.ext e05)) (fun f s6 p6=>?_) fun x s6 p6=>SPostX.noted ok (p6.pre e05 l05);cases f with
      | next=>obtain ⟨G6,m6,H6,e6,S6,l6,lo6,le6,k6⟩:=p6;exact ⟨items.length - (i+1),(r_sl ‹_›),i+1,m6,H6,G6,rfl,hlt,f4.step st (stay_of hlt k6) e6 (l5.trans (.refl _) l6) ⟨S6,a5.cx.ext e6,lo6,le6⟩,k6⟩
      | ret v=>exact p6.pre e05 l05
      | _=>exact p6.elim
    . cases Nat.le_antisymm hi (Nat.not_lt.mp hlt);exact fl.done st hia0 fun G4 s4 e4 l4 a4=>wpAny_execs_nil (a4.post (e1.trans e4) (l1.b.trans e1 l4) (hend m3 H3 hI).2)
  . exact h.elim
end
section
variable {w:World} {B:Heap} {os:OsState} {A:Around} {d:Nat} {env:Env} {c:Sc} {cur:Option Str} {ex:List Addr} {N:Lm->Hp->Prop} {R:KV} {E:KS} {m:Lm} {H:Hp} {G:Gh} {s s':Shared} {h:Heap} {C:Addr}
theorem Loc.delL {ls:List Str} {h':Heap} (l:Loc env ls m G h) (hC:G C=some .lc) (ne:env.locals≠C) (k:Heap.SameBut C h h'):Loc env ls m (Mine.del G C) h':=by
  obtain ⟨h1,h2,h3,h4,⟨mm,hn,hv⟩,hc⟩:=l;refine ⟨h1,h2,h3,by simp [Mine.del,ne];exact h4,⟨mm,ns_data hn fun o ho=>⟨o,(k.2 _ ne).trans ho,rfl⟩,fun i x v a1 a2 a3=>?_⟩,fun i x v a1 a2 a3=>?_⟩
  . obtain ⟨y,q1,q2⟩:=hv i x v a1 a2 a3;exact ⟨y,q1,q2.delL hC⟩
  . obtain ⟨ca,o,y,q1,q2,q3,q4⟩:=hc i x v a1 a2 a3;have:ca≠C:=fun z=>by rw [z,hC] at q2;cases q2
    exact ⟨ca,o,y,q1,by simp [Mine.del,this];exact q2,q3,q4.delL hC⟩
theorem asgc_core {x y:Str} {xp px pos p:Pos} {elt it:PySem.Expr} {ifs:List PySem.Expr} {sc:Scope} {a0:Int} {i:Nat} (ihe:PE elt) (iht:∀ t∈ifs,PT t) (ihi:PE it) (ihi2:∀ f a p,it = .Call f [a] [] p->PE a) (ok:SOk c env A)
    (hi:c.loc? x=some i) (hc:DA c sc y a0 it ifs=true) (hline:(xp.line == pos.line)=true) (hno:(sc.names.any fun (n,k)=>n == x && (k == .local || k == .cell))=false)
    (h:vcS d cur (.asgc i (c.mask sc) (comp (c.inner sc y) elt) (Cf (comp c it)) (AT (c.inner sc y) ifs)) N R E m H) :
    SW w B os A d env c.ls ex cur (exec (.Assign [.Name x xp] (.ListComp elt [⟨.Name y px,it,ifs,a0⟩] sc pos) p) env) N R E m H:=by
  intro G s a hl;obtain ⟨rfl,hset,hok,hlen,I⟩:=comp_in hc;obtain ⟨hx1,hx2⟩:=loc_at hi;have hk:=ok.ok.loc x hx1;dsimp only [S_asgc] at h;have hsw:swapsWith (.ListComp elt [⟨.Name y px,it,ifs,0⟩] sc pos) (some (.Name x xp)) p.line env=pure true:=by unfold swapsWith;show (pure _:Sem Bool)=_;refine wl (a.blk ..) ?_;refine wl (hk ..) ?_;refine wl (show (PySem.Expr.ListComp elt [⟨.Name y px,it,ifs,0⟩] sc pos).pos=pos from rfl ..) ?_;refine wl (hline ..) ?_;refine wl (hno ..) ?_;rfl
  refine wl (exec_Assign_Name_used _ _ _ _ hsw ..) ?_;refine wpAny_bind (wpAny_standAt (wpAny_bind ?_));show wpAny _ A (do let _ <- comprehension (.ListComp elt [⟨.Name y px,it,ifs,0⟩] sc pos) sc env _ (newList []) false (eval it env) (some (assign (.Name x xp) env))) _ _ s;refine wpAny_bind (wpAny_mono (comp_core (a0:=0) (use:=some (assign (.Name x xp) env)) (Q:=fun Y s'=>SPost w B os env c.ls G s.heap N R .next s') (E:=SPostX w B os A env c.ls ex G s.heap E) ihe iht ihi ihi2 hset hok hlen I ok.ok h a (fun Y Y p=>SPostX.of a p) fun D C G1 s1 s' e1 l1 hC hD ce=>?_) (fun Y s' hq=>wpAny_pure (wpAny_pure hq)) fun Y Y e=>e);obtain ⟨G2,H2,acc,its,n,mm,e2,S2,k2,le2,hGD,hacc,hn,hCl,k⟩:=ce;have hneC:D≠C:=fun q=>by rw [q,hCl] at hGD;cases hGD
  have hneL:C≠env.locals:=fun q=>by rw [q,e1.lc a.loc.lc] at hC;cases hC
  have eb:=EqB.upd G2 D (.mu (.lst acc));have S3:Sat w B os (Mine.upd G2 D (.mu (.lst acc))) s':=eb.sat (s':=s') hGD S2 (fun b o Y e=>e) (fun cc hc=>by rw [AA] at hc;cases hc;exact ⟨its,n,(S2.cells _ _ hGD).2,hacc.extB eb.extB hGD⟩) rfl rfl;have e3:Ext G1 (Mine.upd G2 D (.mu (.lst acc))):=eb.ext e2 hD;obtain ⟨v',H4,cv4,n4⟩:=cv_conv (k D (le2.no hGD));obtain ⟨G4,e4,S4,le4,r4⟩:=cv4 w B os _ s' S3 (le2.upd _ _);have hC4:G4 C=some .lc:=e4.lc (by rw [AC (Ne.symm hneC)];exact hCl);have e04:Ext G G4:=(e1.trans e3).trans e4;have l04:LKeep G s.heap s'.heap:=l1.trans e1 k2;have a4:At w B os A d env c.ls m H4 G4 s':=a.step e04 S4 l04 le4;show wpAny (Mo w) A (assign (.Name x xp) env (.ref D)) _ _ s';refine wpAny_assign_Name (store_ok a4 hk hx2 (nd_set ok.nd hx2 m) (r4 _ rfl) fun h5 tk hs5 a5=>?_);refine ⟨mm,hn.sameBut hs5 hneL,fun h6 hs6=>?_⟩;have S6:Sat w B os (Mine.del G4 C) {s' with heap:=h6,toks:=tk}:=a5.sat.delL (s':={s' with heap:=h6,toks:=tk}) hC4 hs6 rfl rfl;have l5:LKb env.locals G s.heap h5:=l04.b.trans e04 (.own hs5 fun v q=>by rw [a4.loc.lc] at q;cases q);have hGC:G C=none\/∃ v,G C=some (.mu v):=by
    cases q:G C with
    | none=>exact .inl rfl
    | some cc =>
      refine .inr ?_;cases cc with
      | mu v=>exact ⟨v,rfl⟩
      | _=>have:=e1 C _ q (fun v e=>by cases e);rw [hC] at this;cases this
  have nC:∀ v,G C≠some (.fz v):=fun v q=>by rcases hGC with z | ⟨_,z⟩<;>(rw [z] at q;cases q)
  have nC2:G C≠some .lc:=fun q=>by rcases hGC with z | ⟨_,z⟩<;>(rw [z] at q;cases q)
  refine ⟨_,_,H4,?_,S6,?_,a5.loc.delL hC4 (Ne.symm hneL) hs6,a5.le.delL hC4,n4⟩
  . intro b cc q nq;have:b≠C:=fun z=>by
      replace q:=z▸q;rcases hGC with y | ⟨v,y⟩
      . rw [y] at q;cases q
      . rw [y] at q;cases q;exact nq v rfl
    simp [Mine.del,this];exact e04 b cc q nq
  . refine l5.trans (.refl G) fun b=>⟨fun l Y o e=>⟨o,(hs6.2 b fun q=>nC2 (q▸l)).trans e,rfl⟩,fun v l o e=>(hs6.2 b fun q=>nC v (q▸l)).trans e⟩
set_option tactic.hygienic true in
theorem ps_asgc {elt it:PySem.Expr} {y x:Str} {px xp pos p:Pos} {ifs:List PySem.Expr} {a0:Int} {sc:Scope} (i1:PE elt) (i2:∀ t∈ifs,PT t) (i3:PE it) (i4:∀ f a p,it = .Call f [a] [] p->PE a):PS (.Assign [.Name x xp] (.ListComp elt [⟨.Name y px,it,ifs,a0⟩] sc pos) p):=by
  intro w B os A d env c cur ex N R E m H ok h;rw [compS_asgc] at h;split at h
  . exact h.elim
  . rename_i i hi;split at h
    . rename_i hq;simp only [Bool.and_eq_true,Bool.not_eq_true'] at hq;obtain ⟨⟨q1,q2⟩,q3⟩:=hq;exact asgc_core i1 i2 i3 i4 ok hi q1 q2 q3 h
    . exact h.elim
set_option tactic.hygienic true in
theorem ps_asgn {x:Str} {xp p:Pos} {e:PySem.Expr} (ih:PE e) (hcs:∀ c,Al c (.Assign [.Name x xp] e p)=match c.loc? x with | none=>.bad | some i=>if Ax e then .bad else .asg i (comp c e)):PS (.Assign [.Name x xp] e p):=by
  intro w B os A d env c cur ex N R E m H ok h;rw [hcs] at h;split at h
  . exact h.elim
  . rename_i i hi;split at h
    . exact h.elim
    . rename_i hc;exact asg_core ih (eq_false_of_ne_true hc) hi ok h
end
theorem lookup_zip_some {names:List Str}:∀ {vals:List Value} {n:Str},n∈names->names.length<=vals.length->((names.zip vals).lookup n).isSome=true:=by
  induction names with
  | nil=>intro vals n h;cases h
  | cons a r ih =>
    intro vals n h hl;cases vals with
    | nil=>simp at hl
    | cons v vs =>
      refine wl (List.zip_cons_cons ..) ?_;refine wl (List.lookup_cons ..) ?_;cases q:(n == a) with
      | true=>rfl
      | false =>
        refine ih ?_ (by simpa using hl);rcases List.mem_cons.mp h with rfl | h
        . simp at q
        . exact h
theorem fm_congr {α β:Type} {f g:α->Option β}:∀ {l:List α},(∀ x∈l,f x=g x)->l.filterMap f=l.filterMap g
  | [],_=>rfl
  | a::l,h=>by rw [List.filterMap_cons,List.filterMap_cons,h a (.head _),fm_congr fun x hx=>h x (.tail _ hx)]
theorem Bk {names:List Str} (nd:names.Nodup):∀ {vals:List Value},names.length=vals.length->(names.filterMap fun n=>((names.zip vals).lookup n).map (n,·))=names.zip vals:=by
  induction names with
  | nil=>intro vals _;rfl
  | cons a r ih =>
    intro vals hl;cases vals with
    | nil=>simp at hl
    | cons v vs =>
      have nd':=List.nodup_cons.mp nd;refine wl (List.zip_cons_cons ..) ?_;refine wl (List.filterMap_cons ..) ?_;have:(List.lookup a ((a,v)::r.zip vs))=some v:=by rw [List.lookup_cons];simp
      refine wl (this ..) ?_;simp only [Option.map_some]
      congr 1
      refine wr (ih nd'.2 (vals:=vs) (by simpa using hl) ..) ?_;refine fm_congr fun n hn=>?_;refine wl (List.lookup_cons ..) ?_;have:(n == a)=false:=by simp only [beq_eq_false_iff_ne,ne_eq];rintro rfl;exact nd'.1 hn
      refine wl (this ..) ?_;exact wl (ih nd'.2 (by simpa using hl) ..) rfl
noncomputable def dftF (x:Str×Value) (acc:List (Str×Value)):Sem (ForInStep (List (Str×Value))):=if (List.lookup x.fst acc).isNone=true then pure (ForInStep.yield (acc++[(x.fst,x.snd)])) else pure (ForInStep.yield acc)
theorem par_of {p:Arguments} (h:p.posonlyargs=[]/\p.vararg=none/\p.kwonlyargs=[]/\p.kwarg=none):∃ as kd df,p=⟨[],as,none,[],kd,none,df⟩:=by obtain ⟨po,as,va,ko,kd,kw,df⟩:=p;obtain ⟨h1,h2,h3,h4⟩:=h;cases h1;cases h2;cases h3;cases h4;exact ⟨_,_,_,rfl⟩
theorem Du {s:Shared} {fd:FuncData} {names:List Str} {vals its':List Value} {slots binds:List (Str×Value)} (o:Option (Array Value)) (hp:fd.params.posonlyargs=[]/\fd.params.vararg=none/\fd.params.kwonlyargs=[]/\fd.params.kwarg=none) (prm:fd.params.args.map (·.arg)=names)
    (hd:∀ {M A E} {Q:Option (Array Value)->Shared->Prop},Q o s->wpAny M A (seqItems? fd.defaults) Q E s) (nc:vals.length<=names.length) (hi:(o.getD #[]).toList.drop ((o.getD #[]).toList.length - names.length)=its')
    (rest:∀ n∈names.take (names.length - its'.length),(List.lookup n (names.zip vals)).isSome=true) (loop:forIn ((names.drop (names.length - its'.length)).zip its') (names.zip vals) dftF=pure slots) (fin:(names.filterMap fun n=>(slots.lookup n).map (n,·))=binds):BindsTo s fd ⟨vals,[]⟩ binds:=by
  obtain ⟨as,kd,df,hpar⟩:=par_of hp;clear hp;have prm:as.map (·.arg)=names:=by rw [hpar] at prm;exact prm
  subst prm;have r:=List.filter_eq_nil_iff.mpr fun n hn=>show ¬ (List.lookup n _).isNone=true by obtain ⟨v,hv⟩:=Option.isSome_iff_exists.mp (rest n hn);rw [hv];exact Bool.false_ne_true
  have nc':=decide_eq_false (Nat.not_lt.mpr nc);subst hi;intro M A E Q q
  delta bindArgs
  generalize fd.params=p at hpar ⊢;subst hpar;refine wpAny_bind (wpAny_of_eq List.forIn_nil ?_);refine wpAny_bind (hd ?_);refine wpAny_ite_false (decide_eq_false fun h=>absurd (nc'.symm.trans (Bool.and_eq_true_iff.mp h).1) Bool.false_ne_true) ?_;refine wpAny_ite_false (decide_eq_false fun h=>Bool.false_ne_true ((congrArg (fun l:List Str => !l.isEmpty) r).symm.trans h)) ?_;refine wpAny_bind (wpAny_of_eq loop ?_);refine wpAny_bind (wpAny_of_eq List.forIn_nil ?_);refine wpAny_pure ?_;show Q (List.filterMap _ (as.map _++[])) s;refine wl (List.append_nil ..) ?_;exact wl (fin ..) (q)
theorem dft_none {s:Shared} {v:Value} (h:v = .none) {M A E} {Q:Option (Array Value)->Shared->Prop} (q:Q none s):wpAny M A (seqItems? v) Q E s:=by subst h;exact wpAny_pure q
theorem dft_ref {s:Shared} {v:Value} {T:Addr} {o:Obj} {items:Array Value} {n:Nat} (h:v = .ref T) (ho:s.heap.get? T=some o) (hs:o.data = .seq items n) {M A E} {Q:Option (Array Value)->Shared->Prop} (q:Q (some items) s):wpAny M A (seqItems? v) Q E s:=by subst h;exact wpAny_seqItems ho hs q
theorem dft_skip:∀ {l acc:List (Str×Value)},(∀ x∈l,(acc.lookup x.1).isSome=true)->forIn l acc dftF=(pure acc:Sem _)
  | [],_,_=>rfl
  | a::r,acc,hm=>by have:dftF a acc=pure (ForInStep.yield acc):=if_neg fun q=>absurd (hm a (.head _)) (by rw [Option.isNone_iff_eq_none.mp q];exact Bool.false_ne_true);refine wl (List.forIn_cons ..) ?_;refine wl (this ..) ?_;exact wl (pure_bind ..) (dft_skip fun x hx=>hm x (.tail _ hx))
theorem bind_all {s:Shared} {fd:FuncData} {vals:List Value} (hp:fd.params.posonlyargs=[]/\fd.params.vararg=none/\fd.params.kwonlyargs=[]/\fd.params.kwarg=none) (nd:(fd.params.args.map (·.arg)).Nodup)
    (hd:fd.defaults = .none\/∃ T o items n,fd.defaults = .ref T/\s.heap.get? T=some o/\o.data = .seq items n) (hl:(fd.params.args.map (·.arg)).length=vals.length):BindsTo s fd ⟨vals,[]⟩ ((fd.params.args.map (·.arg)).zip vals):=by
  have some_of:∀ n∈fd.params.args.map (·.arg),(List.lookup n ((fd.params.args.map (·.arg)).zip vals)).isSome=true:=fun n hn=>lookup_zip_some hn (Nat.le_of_eq hl);have sk:∀ {k:Nat} {its:List Value},forIn (((fd.params.args.map (·.arg)).drop k).zip its) ((fd.params.args.map (·.arg)).zip vals) dftF=(pure ((fd.params.args.map (·.arg)).zip vals):Sem _):=dft_skip fun x hx=>some_of _ (List.mem_of_mem_drop (List.of_mem_zip hx).1);rcases hd with hd | ⟨T,o,items,n,hd,ho,hs⟩
  . exact Du none hp rfl (dft_none hd) (Nat.le_of_eq hl.symm) rfl (fun n hn=>some_of n (List.mem_of_mem_take hn)) sk (Bk nd hl)
  . exact Du (some items) hp rfl (dft_ref hd ho hs) (Nat.le_of_eq hl.symm) rfl (fun n hn=>some_of n (List.mem_of_mem_take hn)) sk (Bk nd hl)
noncomputable def fnD (p:Params) (f:Addr):Option FuncData:=match (KF p).lookup f with | some ⟨_,_,.func fd,_⟩=>some fd | _=>none
noncomputable def okTab (fd:FuncData):Bool := !tabSc fd.scope || (match fd.code with | .ref c=>tabL.any fun q=>q.1 == c | _=>false)
noncomputable def okFd (p:Params) (fd:FuncData):Bool :=
  fd.closure.isEmpty && (fd.globals == mainGlobals) && (fd.builtins == builtinsNs) && (fd.scope.kind == .function) && !fd.scope.isCoroutine && !fd.scope.isGenerator && codeIn (KF p) fd.code fd.qualname &&
  fd.params.posonlyargs.isEmpty && fd.params.vararg.isNone && fd.params.kwonlyargs.isEmpty && fd.params.kwarg.isNone && okTab fd
noncomputable def DN (sc:Scope) (ls:List Str) (ps:List Str):Bool :=
  decide ls.Nodup && decide ps.Nodup && (ps == ls.take ps.length) && ls.all (fun x=>sc.names.lookup x == some .local || sc.names.lookup x == some .cell) && sc.names.all fun (n,k)=>k != .free && (k != .cell || sc.names.lookup n == some .cell)
theorem lookup_acc {x:Str}:∀ (names:List (Str×NameKind)) (n:Nat) (acc:List (Str×Addr)),(acc.lookup x).isSome=true->((cellsFrom n names acc).lookup x).isSome=true:=by
  intro l
  induction l with
  | nil=>intro n acc h;exact h
  | cons Q r IH =>
    obtain ⟨y,k⟩:=Q;intro n acc h;unfold cellsFrom;split
    . refine IH _ _ ?_;rw [List.lookup_cons];split
      . rfl
      . exact h
    . exact IH _ _ h
theorem cells_some {x:Str}:∀ (names:List (Str×NameKind)) (n:Nat) (acc:List (Str×Addr)),(x,NameKind.cell)∈names->((cellsFrom n names acc).lookup x).isSome=true:=by
  intro l
  induction l with
  | nil=>intro n acc h;cases h
  | cons Q r IH =>
    obtain ⟨y,k⟩:=Q;intro n acc h;unfold cellsFrom;rcases List.mem_cons.mp h with h | h
    . cases h;exact wl (if_pos (by rfl) ..) (lookup_acc r _ _ (by rw [List.lookup_cons];simp))
    . split
      . exact IH _ _ h
      . exact IH _ _ h
theorem mem_of_lk {α:Type} {x:Str} {k:α}:∀ {l:List (Str×α)},l.lookup x=some k->(x,k)∈l:=by
  intro l
  induction l with
  | nil=>intro h;cases h
  | cons Q r IH =>
    obtain ⟨y,z⟩:=Q;intro h;rw [List.lookup_cons] at h;split at h
    . rename_i q;cases h;rw [beq_iff_eq.mp q];exact .head _
    . exact .tail _ (IH h)
structure FnAt (p:Params) (f:Addr) (ls:List Str) (ps:List Str) (body:List Stmt) (fd:FuncData):Prop where
  at_:fnD p f=some fd
  ok:okFd p fd=true
  prm:fd.params.args.map (·.arg)=ps
  names:DN fd.scope ls ps=true
  body:fd.body = .stmts body
set_option tactic.hygienic true in
theorem fn_get {p:Params} {f:Addr} {fd:FuncData} (h:fnD p f=some fd):∃ o,(KF p).lookup f=some o/\o.data = .func fd:=by
  unfold fnD at h;split at h
  . rename_i c d fd' sl q;cases h;exact ⟨_,q,rfl⟩
  . cases h
noncomputable def okTop (p:Params):Bool:=nsOkIn (KF p) cStatics && isNN (nsIn (KF p) cStatics "sys.recursionlimit")
theorem okTop_all (p:Params):okTop p=true:=by kernel_rfl
theorem bindL_not {kd:Str->Option NameKind} {x:Str}:∀ {bs:List (Str×Value)} {m:Str->Option Value},x∉bs.map (·.1)->bindL kd bs m x=m x
  | [],m,_=>rfl
  | (n,v)::r,m,h=>by
    simp only [List.map_cons,List.mem_cons,not_or] at h;unfold bindL;refine wl (bindL_not h.2 ..) ?_;split
    . exact if_neg h.1
    . rfl
theorem bindC_not {kd:Str->Option NameKind} {x:Str}:∀ {bs:List (Str×Value)} {m:Str->Option Value},x∉bs.map (·.1)->bindC kd bs m x=m x:=by
  intro l
  induction l with
  | nil=>intro m _;exact rfl
  | cons Q r IH =>
    obtain ⟨n,v⟩:=Q;intro m h;simp only [List.map_cons,List.mem_cons,not_or] at h;unfold bindC;refine wl (IH h.2 ..) ?_;split
    . rfl
    . exact if_neg h.1
theorem zip_fst:∀ {ps:List Str} {xs:List Value},ps.length=xs.length->(ps.zip xs).map (·.1)=ps
  | [],[],_=>rfl
  | a::ps,x::xs,h=>by simp only [List.zip_cons_cons,List.map_cons];rw [zip_fst (by simpa using h)]
  | [],_::_,h=>by simp at h
  | _::_,[],h=>by simp at h
theorem bindL_at {kd:Str->Option NameKind} {x:Str} {y:Value} {ps:List Str}:∀ {xs:List Value} {m:Str->Option Value} {i:Nat},ps.Nodup->ps.length=xs.length->ps[i]?=some x->xs[i]?=some y->kd x=some .local->bindL kd (ps.zip xs) m x=some y:=by
  induction ps with
  | nil=>intro xs m i nd hl h1;exact nomatch h1
  | cons a ps IH =>
    intro xs m i nd hl h1 h2 hk;cases xs with
    | nil=>exact nomatch hl
    | cons z xs =>
      have nd':=List.nodup_cons.mp nd;rw [List.zip_cons_cons];unfold bindL;cases i with
      | zero=>simp at h1 h2;subst h1;subst h2;rw [bindL_not (by rw [zip_fst (by simpa using hl)];exact nd'.1),if_pos hk,if_pos rfl]
      | succ i=>exact IH nd'.2 (Nat.succ.inj hl) h1 h2 hk
theorem bindC_at {kd:Str->Option NameKind} {x:Str} {y:Value} {ps:List Str}:∀ {xs:List Value} {m:Str->Option Value} {i:Nat},ps.Nodup->ps.length=xs.length->ps[i]?=some x->xs[i]?=some y->kd x≠some .local->bindC kd (ps.zip xs) m x=some y:=by
  induction ps with
  | nil=>intro xs m i nd hl h1;exact nomatch h1
  | cons a ps IH =>
    intro xs m i nd hl h1 h2 hk;cases xs with
    | nil=>exact nomatch hl
    | cons z xs =>
      have nd':=List.nodup_cons.mp nd;rw [List.zip_cons_cons];unfold bindC;cases i with
      | zero=>simp at h1 h2;subst h1;subst h2;rw [bindC_not (by rw [zip_fst (by simpa using hl)];exact nd'.1),if_neg hk,if_pos rfl]
      | succ i=>exact IH nd'.2 (Nat.succ.inj hl) h1 h2 hk
noncomputable abbrev padM (ls:List Str) (vs:List V):Lm:=vs.map some++List.replicate (ls.length - vs.length) none
theorem padM_at {ls:List Str} {vs:List V} {i:Nat} {v:V} (h:(padM ls vs)[i]?=some (some v)):vs[i]?=some v:=by
  unfold padM at h;rw [List.getElem?_append] at h;split at h
  . simpa using h
  . rw [List.getElem?_replicate] at h;split at h<;>simp at h
section
variable {w:World} {B:Heap} {os:OsState} {A:Around} {d:Nat} {H:Hp} {G:Gh} {s:Shared} {f:Addr} {fd:FuncData} {ls ps:List Str} {body:List Stmt} {vs:List V} {xs xs0:List Value} {R:Result->Shared->Prop}
theorem Sat.nolim (S:Sat w B os G s):s.heap.NoLimit:=by have:=okTop_all w.params;unfold okTop at this;obtain ⟨h1,h2⟩:=Bool.and_eq_true_iff.mp this;exact ⟨_,.of_isNs (isNs_of_in S.kf h1),nsMap_none_of_in S.kf h1 (isNN_eq h2)⟩
noncomputable def DV (G:Gh) (env:Env) (hh:Heap):Gh:=fun a=>if a=env.locals then some .lc else if a∈env.cells.map (·.2) then (hh.get? a).map .rw else G a
variable {env:Env} {hh:Heap} {n:Nat}
theorem entG_lc:DV G env hh env.locals=some .lc:=if_pos rfl
theorem entG_cell {x:Str} {a:Addr} {o:Obj} (cge:∀ x a,(x,a)∈env.cells->n<=a/\a≠env.locals) (h:(x,a)∈env.cells) (ho:hh.get? a=some o):DV G env hh a=some (.rw o):=by unfold DV;rw [if_neg (cge x a h).2,if_pos (List.mem_map.mpr ⟨_,h,rfl⟩),ho];rfl
theorem entG_old (hl:env.locals=n) (cge:∀ x a,(x,a)∈env.cells->n<=a/\a≠env.locals) {a:Addr} (hlt:a<n):DV G env hh a=G a:=by unfold DV;rw [if_neg (fun q=>by rw [q,hl] at hlt;exact Nat.lt_irrefl _ hlt),if_neg fun q=>?_];obtain ⟨⟨n,a'⟩,hm,rfl⟩:=List.mem_map.mp q;exact absurd hlt (Nat.not_lt.mpr (cge n _ hm).1)
theorem ent_sat {mm:Str->Option Value} (SK:Sat w B os G s) (hB:∀ a,n<=a->B.get? a=none) (hl:env.locals=n) (cge:∀ x a,(x,a)∈env.cells->n<=a/\a≠env.locals) (eG:Ext G (DV G env s.heap)) (hns:s.heap.Ns env.locals mm):Sat w B os (DV G env s.heap) s:=by
  refine ⟨SK.top,SK.base,fun a c h=>?_,SK.gens,SK.os,eG.tb SK.tbs⟩;have h':(if a=env.locals then some .lc else if a∈env.cells.map (·.2) then (s.heap.get? a).map .rw else G a)=some c:=h;split at h'
  . rename_i q;cases h';subst q;exact ⟨hB _ (Nat.le_of_eq hl.symm),Ns.alive hns⟩
  . split at h'
    . rename_i q;obtain ⟨⟨n,a'⟩,hm,rfl⟩:=List.mem_map.mp q;obtain ⟨o',ho',rfl⟩:=Option.map_eq_some_iff.mp h';exact ⟨hB _ (cge n _ hm).1,ho'⟩
    . exact ⟨(SK.cells a c h').1,(SK.cells a c h').2.ext eG⟩
theorem ent_env {sc:Scope} (hkd:∀ x,env.kindOf x=sc.names.lookup x) (cel:∀ {x},sc.names.lookup x=some .cell->∃ a,env.cells.lookup x=some a):EnvOk ⟨sc,ls,gl⟩ env:=by
  refine ⟨fun x hx=>?_,fun x hx=>by rw [hkd];exact hx,fun x hx=>by rw [hkd];unfold Sc.glob at hx;exact beq_iff_eq.mp hx,rfl,fun x hx=>⟨by rw [hkd];exact hx,cel hx⟩⟩;refine wl (hkd ..) ?_;unfold Sc.own at hx;split at hx
  . rename_i q;exact .inl q
  . rename_i q;exact .inr (.inl q)
  . rename_i q;exact .inr (.inr q)
  . cases hx
theorem ent_cx (cx:Cx A (d+1) G) (hk:env.scope.kind = .function) (hfr:env.frame=some env.locals) (eG:Ext G (DV G env hh)):Cx (A.deeper env) d (DV G env hh):=by
  obtain ⟨c1,c2,c3,l,c4,c5⟩:=cx;refine ⟨fun h=>c1 (Nat.succ_pos _),?_,?_,env::l,by show A.frames.map (env :: ·)=_;rw [c4];rfl,fun e he=>?_⟩
  . exact r_cx c2 rfl
  . exact r_cx c3 rfl
  . rcases List.mem_cons.mp he with rfl | he
    . exact ⟨by rw [hk];decide,e.locals,hfr,.inl entG_lc⟩
    . obtain ⟨b1,L,b2,b3⟩:=c5 e he;exact ⟨b1,L,b2,b3.imp eG.lc fun ⟨dd,q,n⟩=>⟨dd,eG.fr q,n⟩⟩
set_option tactic.hygienic true in
theorem enter_ok (F:FnAt w.params f ls ps body fd) (S:Sat w B os G s) (cx:Cx A (d+1) G) (le:Le H G) (r:VRs G vs xs) (hl:vs.length=ps.length) (hbind:BindsTo s fd ⟨xs0,[]⟩ (ps.zip xs))
    (k:∀ env G1 s1,SOk ⟨fd.scope,ls,gl⟩ env (A.deeper env)->env.frame=some env.locals->Ext G G1->LKeep G s.heap s1.heap->(∀ b o,s.heap.get? b=some o->s1.heap.get? b=some o)->G env.locals=none->(∀ a,a<s.heap.objs.size->G1 a=G a)->At w B os (A.deeper env) d env ls (padM ls vs) H G1 s1 ->
      wpAny (Mo w) (A.deeper env) (execs body env) (fun f s'=>R (.ok (.ret (match f with | .ret v=>v | _=>.none))) s')
        (fun e s'=>wpAny (Mo w) (A.deeper env) («leaving» env e) (fun Y s''=>R (.error e) s'') (fun e' s''=>R (.error e') s'') s') s1):codeAny (Mo w) A (.call (.ref f) ⟨xs0,[]⟩) R s:=by
  obtain ⟨h1,h2,h3,h4,h5⟩:=F;obtain ⟨o,ho,hod⟩:=fn_get h1;have X:=S.kf;have ho':=X _ _ ho;unfold okFd at h2;simp only [Bool.and_eq_true,Bool.not_eq_true',beq_iff_eq,List.isEmpty_iff,Option.isNone_iff_eq_none] at h2;obtain ⟨⟨⟨⟨⟨⟨⟨⟨⟨⟨⟨q1,q2⟩,q3⟩,q4⟩,q5⟩,q6⟩,q7⟩,q8⟩,q9⟩,q10⟩,q11⟩,q12⟩:=h2;unfold DN at h4;simp only [Bool.and_eq_true,decide_eq_true_eq,beq_iff_eq] at h4;obtain ⟨⟨⟨⟨n1,n2⟩,n3⟩,n4⟩,n5⟩:=h4;have n4':∀ x∈ls,fd.scope.names.lookup x=some .local\/fd.scope.names.lookup x=some .cell:=fun x hx=>by have:=List.all_eq_true.mp n4 x hx;simpa using this
  have hk:fd.scope.kind = .function:=q4;have hlx:ps.length=xs.length:=by rw [<- hl,r.length]
  have hpl:∀ x∈ps,x∈ls:=fun x hx=>by rw [n3] at hx;exact List.mem_of_mem_take hx
  have cel:∀ {x n},fd.scope.names.lookup x=some .cell->((cellsFrom n fd.scope.names []).lookup x).isSome=true:=fun h=>cells_some _ _ _ (mem_of_lk h);refine codeAny_call_function (Bq (n:=990) (r_al cx.depth rfl) rfl) ho' hod q5 q6 h5 (codeRec_of X q7) (hbind _ _ _ _ ?_);refine wl (q1 ..) ?_;refine wpAny_newFunctionEnv_cells hk (fun x hx=>?_) fun env he s1 I=>?_
  . have hx':x.1∈ps:=(List.of_mem_zip hx).1;exact (n4' x.1 (hpl _ hx')).imp id fun h=>⟨h,cel h⟩
  have hsz:env.locals=s.heap.objs.size:=by rw [he];rfl
  have hkd:∀ x,env.kindOf x=fd.scope.names.lookup x:=fun x=>by rw [he];rfl
  have hlc:env.cells=cellsFrom (s.heap.objs.size+1) fd.scope.names []:=by rw [he];rfl
  have hfr:env.frame=some env.locals:=by rw [he];rfl
  have hkind:env.scope.kind = .function:=by rw [he];exact hk
  have hgl:env.globals=mainGlobals:=by rw [he];exact q2
  have hbl:env.builtins=builtinsNs:=by rw [he];exact q3
  have hsc:env.scope=fd.scope:=by rw [he];rfl
  obtain ⟨⟨⟨hh,tk,rfl⟩,hns,hkeep,hfresh⟩,hcell,hapart,habove⟩:=I;have G0:G env.locals=none:=by rw [hsz];exact S.fresh
  have fresh:∀ a,s.heap.objs.size<=a->G a=none:=fun a ha=>by
    cases q:G a with
    | none=>rfl
    | some c=>exact absurd (S.lt q) (Nat.not_lt.mpr ha)
  have cge:∀ n a,(n,a)∈env.cells->s.heap.objs.size<=a/\a≠env.locals:=fun n a h=>by have:=habove n a h;rw [hsz] at this ⊢;exact ⟨Nat.le_of_lt this,Nat.ne_of_gt this⟩
  have same:∀ a,a<s.heap.objs.size->DV G env hh a=G a:=fun a hlt=>entG_old hsz cge hlt;have eG:Ext G (DV G env hh):=fun a c h Y=>(same a (S.lt h)).trans h;have SK:Sat w B os G {s with heap:=hh,toks:=tk}:=S.keeps hkeep rfl rfl;have hB:∀ a,s.heap.objs.size<=a->B.get? a=none:=fun a ha=>by
    cases q:B.get? a with
    | none=>rfl
    | some o=>exact absurd (Heap.lt_size (S.base _ _ q)) (Nat.not_lt.mpr ha)
  have S1:Sat w B os (DV G env hh) {s with heap:=hh,toks:=tk}:=ent_sat SK hB hsz cge eG hns;have lk:LKeep G s.heap hh:=.keeps hkeep;have ok:EnvOk ⟨fd.scope,ls,gl⟩ env:=ent_env hkd fun hx=>by rw [hlc];exact Option.isSome_iff_exists.mp (cel hx)
  have loc:Loc env ls (padM ls vs) (DV G env hh) hh:=by
    refine ⟨hkind,hgl,hbl,entG_lc,⟨_,hns,fun i x v a1 a2 a3=>?_⟩,fun i x v a1 a2 a3=>?_⟩
    . have hv:=padM_at a2;obtain ⟨y,hy,ry⟩:=r.get hv;have hi:i<ps.length:=by rw [<- hl];exact (List.getElem?_eq_some_iff.mp hv).1
      have hp:ps[i]?=some x:=by rw [n3,List.getElem?_take_of_lt hi];exact a1
      exact ⟨y,bindL_at n2 hlx hp hy a3,ry.ext eG⟩
    . have hv:=padM_at a2;obtain ⟨y,hy,ry⟩:=r.get hv;have hi:i<ps.length:=by rw [<- hl];exact (List.getElem?_eq_some_iff.mp hv).1
      have hp:ps[i]?=some x:=by rw [n3,List.getElem?_take_of_lt hi];exact a1
      have hxl:x∈ls:=List.mem_of_getElem? a1;have hnl:env.kindOf x≠some .local:=by rcases a3 with a3 | a3<;>(rw [a3];simp)
      have hcl:fd.scope.names.lookup x=some .cell:=by
        rcases n4' x hxl with q | q
        . exact absurd (hkd x▸q) hnl
        . exact q
      obtain ⟨ca,hca⟩:=Option.isSome_iff_exists.mp (cel (n:=s.heap.objs.size+1) hcl);have hca':env.cells.lookup x=some ca:=by rw [hlc];exact hca
      have hmem:=mem_of_lk hca';obtain ⟨oc,hoc,hod⟩:=hcell x ca hca';replace hod:=bindC_at n2 hlx hp hy hnl▸hod;exact ⟨ca,oc,y,hca',entG_cell cge hmem hoc,hod,ry.ext eG⟩
  have le1:Le H (DV G env hh):=fun a v h=>(same a (S.lt (le a v h))).trans (le a v h);have cx1:=ent_cx cx hkind hfr eG;obtain ⟨c1,c2,c3,l,c4,c5⟩:=cx;refine ⟨S.nolim.keeps hkeep,codeAny_func (k env _ _ ⟨ok,n1,⟨l,env.locals,?_,hfr⟩,fun ht=>?_⟩ hfr eG lk hkeep G0 same ⟨S1,cx1,loc,le1⟩)⟩
  . show A.frames.map (env :: ·)=_;rw [c4];rfl
  . have hcd:env.code=fd.code:=by rw [he];rfl
    refine wl (hcd ..) ?_;unfold okTab at q12;replace q12:=(show tabSc fd.scope=true from ht)▸q12;replace q12:=Bool.not_true▸q12;rw [Bool.false_or] at q12;split at q12
    . rename_i c0 hc;obtain ⟨q,hq,hqc⟩:=List.any_eq_true.mp q12;exact ⟨q,hq,by rw [hc,beq_iff_eq.mp hqc]⟩
    . simp at q12
end
section
variable {prog:Program} {w:World} {A:Around} {E:Value->Shared->Prop} {h:Heap} {g:Array GenState} {d:Drawn} {t:Nat} {os:OsState}
variable {nm q:Str} {C N:Addr} {bs bm bmB:List Value} {hdct:Bool} {sn:List Str} {sub:List Value} {ab:Bool} {col:Option Bool} {dd:Option Addr} {k0 k1 k2 k3 k5:Option Value} {newId initId Bn:String}
theorem tcall_exc (F:ExcBaseFacts Bn newId initId bmB) (T:OwnTail h bmB bm) {mN:Str->Option Value} {rest:List Value} {fI:Addr} {oI:Obj} {Q:Fin->Shared->Prop}
    (hC:h.get? C=some (excClassObj nm q C N bs bm hdct sn sub ab col dd k0 k1 k2 k3 k5 newId)) (hn:h.Ns N mN) (hi:mN "__init__" = some (.ref fI))
    (hfI:h.get? fI=some oI) (hfc:oI.cls = .type "function")
    (hq:∀ h' e,h.objs.size<=e->Heap.MadeExcOf h h' e (.ref C) rest ->
      wpAny (model prog w) A (call (.ref fI) (.ref e::rest)) (fun r s'=>r = .none/\Q (.done (.ret (.ref e))) s') E ⟨h',g,d,t,os⟩) (hrest:rest.length<=sizeLine:=by size_fits) :
    wpAny (model prog w) A (Builtin.«type.__call__» ⟨.ref C::rest,[]⟩) Q E ⟨h,g,d,t,os⟩:=by
  repeat (first | with_reducible refine wpAny_loadPart_at hC ?_ | with_reducible refine wpAny_madeBy_exc hC ?_ | wp_step)
  refine codeAny_call_builtin_code (Code.quiet_builtin _ F.quiet) (wpAny_check_new_subT F T hC ?_);refine codeAny_exc_new_subT F T hC ?_ hrest;show wpAny _ _ _ _ _ _;have hC₁:=Heap.get?_push_of_some {cls:=.ref C,data:=.fields #[.ref h.objs.size,.none,.none,.none,.bool false,.none]}
    (Heap.get?_push_of_some {cls:=.type "tuple",data:=.seq rest.toArray} hC)
  have hfI₁:=Heap.get?_push_of_some {cls:=.ref C,data:=.fields #[.ref h.objs.size,.none,.none,.none,.bool false,.none]}
    (Heap.get?_push_of_some {cls:=.type "tuple",data:=.seq rest.toArray} hfI)
  have hn₁:((h.push {cls:=.type "tuple",data:=.seq rest.toArray}).push {cls:=.ref C,data:=.fields #[.ref h.objs.size,.none,.none,.none,.bool false,.none]}).Ns N mN :=
    let ⟨o,es,ep,e,r⟩:=hn;⟨o,es,ep,Heap.get?_push_of_some _ (Heap.get?_push_of_some _ e),r⟩
  have T₁:=T.keeps (h':=(h.push {cls:=.type "tuple",data:=.seq rest.toArray}).push {cls:=.ref C,data:=.fields #[.ref h.objs.size,.none,.none,.none,.bool false,.none]})
    fun b o e=>Heap.get?_push_of_some _ (Heap.get?_push_of_some _ e)
  have hget:((h.push {cls:=.type "tuple",data:=.seq rest.toArray}).push
      {cls:=.ref C,data:=.fields #[.ref h.objs.size,.none,.none,.none,.bool false,.none]}).get? (h.objs.size+1)=some
      {cls:=.ref C,data:=.fields #[.ref h.objs.size,.none,.none,.none,.bool false,.none]}:=by heap_get
  have hcC:(Value.ref C::bm).contains (.ref C)=true:=by simp
  unfold isInstance
  repeat (first | with_reducible refine wpAny_loadPart_at hget ?_ | (with_reducible refine wpAny_isSubtype_exc hC₁ ?_;rw [hcC]) | wp_step)
  show wpAny _ _ (typeLookup (.ref C) _) _ _ _;refine wpAny_typeLookup_tail hC₁ hn₁ T₁ F.mroIs F.init.lookup ?_;refine wl (hi ..) ?_;refine wpAny_holding (wpAny_bind ?_);unfold bindSpecial;refine wpAny_bind (wpAny_typeOf (T := "function") ⟨_,hfI₁,hfc⟩ ?_);refine wl (if_pos (by decide) ..) ?_;refine wpAny_pure (wpAny_bind (wpAny_mono (hq _ (h.objs.size+1) (Nat.le_succ _) ⟨fun b o hb=>Heap.get?_push_of_some _ (Heap.get?_push_of_some _ hb),Heap.get?_none_of_le (Nat.le_succ _),h.objs.size,hget,Heap.get?_none_of_le (Nat.le_refl _),?_⟩) (fun r s' hr=>?_) fun Y Y x=>x))
  . exact Heap.get?_push_of_some _ (Heap.get?_push_at rfl rfl)
  . obtain ⟨rfl,hQ⟩:=hr
    wp_walk
    exact hQ
theorem call_exc (F:ExcBaseFacts Bn newId initId bmB) (T:OwnTail h bmB bm) {mN:Str->Option Value} {rest:List Value} {fI:Addr} {oI:Obj} {Q:Value->Shared->Prop}
    (hC:h.get? C=some (excClassObj nm q C N bs bm hdct sn sub ab col dd k0 k1 k2 k3 k5 newId)) (hn:h.Ns N mN) (hi:mN "__init__" = some (.ref fI))
    (hfI:h.get? fI=some oI) (hfc:oI.cls = .type "function")
    (hq:∀ h' e,h.objs.size<=e->Heap.MadeExcOf h h' e (.ref C) rest ->
      wpAny (model prog w) (A.under (.builtin "type.__call__" ⟨.ref C::rest,[]⟩)) (call (.ref fI) (.ref e::rest)) (fun r s'=>r = .none/\Q (.ref e) s') E ⟨h',g,d,t,os⟩) (hrest:rest.length<=sizeLine:=by size_fits) :
    wpAny (model prog w) A (call (.ref C) rest) Q E ⟨h,g,d,t,os⟩:=by
  have f1:=tc_lookup;have f2:=tc_bind (.ref C);have hT:(⟨h,g,d,t,os⟩:Shared).TypeIs (.ref C) "type" := ⟨_,hC,rfl⟩;refine wpAny_call (codeAny_of_tree ?_);show wpAny _ _ (callAny (.ref C) _) _ _ _
  repeat (any_goals (first | assumption | with_reducible refine wpAny_loadPart_at hC ?_ | wp_step))
  refine ⟨rfl,?_⟩;refine codeAny_call_builtin_at (Code.quiet_builtin _ (by decide +kernel)) entry_typeCall (wpAny_check_type_call_sub hC (tcall_exc (hrest:=hrest) F T hC hn hi hfI hfc fun h' e he hm=>?_));exact hq h' e he hm
end
noncomputable def msgFd (p:Params):FuncData:=match fnD p 114 with | some fd=>fd | none=>default
noncomputable def msgBody (p:Params):List Stmt:=match (msgFd p).body with | .stmts b=>b | _=>[]
structure MsgFn (p:Params) (fd:FuncData) (body:List Stmt):Prop where
  fn:FnAt p 114 ["self","message"] ["self","message"] body fd
  is:∃ p1 p2 p3 p4,body=[.Assign [.Attribute (.Name ("self" : Str) p1) (fld 20) p2] (.Name ("message" : Str) p3) p4]
  own:fd.scope.names.lookup ("self" : Str)=some .local/\fd.scope.names.lookup ("message" : Str)=some .local
  par:(fd.params.posonlyargs=[]/\fd.params.vararg=none/\fd.params.kwonlyargs=[]/\fd.params.kwarg=none)
  dft:fd.defaults = .none
theorem msg_fn (p:Params):∃ fd body,MsgFn p fd body :=
  ⟨msgFd p,msgBody p,⟨by kernel_rfl,by kernel_rfl,by kernel_rfl,by kernel_rfl,by kernel_rfl⟩,⟨⟨81,8,81,12⟩,⟨81,8,81,20⟩,⟨81,23,81,30⟩,⟨81,8,81,30⟩,by kernel_rfl⟩,⟨by kernel_rfl,by kernel_rfl⟩,⟨by kernel_rfl,by kernel_rfl,by kernel_rfl,by kernel_rfl⟩,by kernel_rfl⟩
theorem msg_cls (p:Params):((KF p).lookup 114).map (·.cls)=some (.type "function"):=by kernel_rfl
section
variable {w:World} {B:Heap} {os:OsState} {A:Around} {d:Nat} {H:Hp} {G:Gh} {s:Shared}
theorem make_code {C:Addr} {rest:List Value} {kw:List (Str×Value)}:(Code.builtin "type.__call__" ⟨.ref C::rest,kw⟩).weight=1/\(Code.builtin "type.__call__" ⟨.ref C::rest,kw⟩).cUnits=1/\(Code.builtin "type.__call__" ⟨.ref C::rest,kw⟩).envs=[] :=
  ⟨by kernel_rfl,by kernel_rfl,by kernel_rfl⟩
theorem Cx.make {C:Addr} {rest:List Value} {kw:List (Str×Value)} (cx:Cx A (d+1) G):Cx (A.under (.builtin "type.__call__" ⟨.ref C::rest,kw⟩)) d G:=by
  obtain ⟨c1,c2,c3,l,c4,c5⟩:=cx;obtain ⟨w1,u1,v1⟩:=make_code (C:=C) (rest:=rest) (kw:=kw);generalize (Code.builtin "type.__call__" ⟨.ref C::rest,kw⟩)=c at w1 u1 v1;refine ⟨fun h=>c1 (Nat.succ_pos _),?_,?_,l,?_,c5⟩
  . show A.depth+c.weight+8 * d<=990;rw [w1];exact r_cx c2 rfl
  . show A.units+c.cUnits+100 * d<=9700;rw [u1];exact r_cx c3 rfl
  . show pushEnvs c.envs A.frames=some l;rw [v1];exact c4
theorem bind_ps {fd:FuncData} {ps:List Str} {vals:List Value} (hp:fd.params.posonlyargs=[]/\fd.params.vararg=none/\fd.params.kwonlyargs=[]/\fd.params.kwarg=none) (nd:ps.Nodup) (prm:fd.params.args.map (·.arg)=ps)
    (hd:fd.defaults = .none\/∃ T o items n,fd.defaults = .ref T/\s.heap.get? T=some o/\o.data = .seq items n) (hl:ps.length=vals.length):BindsTo s fd ⟨vals,[]⟩ (ps.zip vals):=by
  subst prm;exact bind_all hp nd hd hl
theorem msg_nd:(["self","message"]:List Str).Nodup:=by decide +kernel
theorem msg_ix (sc:Scope):(⟨sc,["self","message"],gl⟩:Sc).ix ("self" : Str)=some 0/\(⟨sc,["self","message"],gl⟩:Sc).ix ("message" : Str)=some 1:=by unfold Sc.ix;dsimp only;exact ⟨by decide +kernel,by decide +kernel⟩
theorem msg_run {e:Addr} {vs:Array Value} {msg:Str} {y:Value} {Q:Value->Shared->Prop} {E:Value->Shared->Prop} (S:Sat w B os G s) (cx:Cx A (d+1) G) (le:Le H G) (r:VR G (.str msg) y)
    (he:s.heap.get? e=some {cls:=.ref CR,data:=.fields vs}) (hG:G e=none) (hB:B.get? e=none) (h1:vs[1]?=some .none) (h2:2<vs.size)
    (q:∀ G' s',Ext G G'->Sat w B os G' s'->LKeep G s.heap s'.heap->Le H G'->Raised w B G' (.ref e) msg s'.heap->s'.heap.get? e≠none->(∃ dx,s'.heap.get? e=some {cls:=.ref CR,dict:=some dx,data:=.fields vs})->Q .none s') :
    wpAny (Mo w) A (call (.ref 114) [.ref e,y]) Q E s:=by
  obtain ⟨t,rfl⟩:=r;obtain ⟨fd,body,M⟩:=msg_fn w.params;refine wpAny_call (enter_ok (vs:=[.ref e,.str msg]) (xs:=[.ref e,.str msg t]) M.fn S cx le (.cons rfl (.cons ⟨_,rfl⟩ .nil)) rfl ?_ fun env G1 s1 sok hfr e1 l1 k1 g1 same a=>?_)
  . exact bind_ps M.par msg_nd M.fn.prm (.inl M.dft) rfl
  . obtain ⟨p1,p2,p3,p4,hb⟩:=M.is;refine wl (hb ..) ?_;refine wpAny_execs_cons ?_;have own:=M.own;have o1:Sc.own ⟨fd.scope,["self","message"],gl⟩ ("self" : Str)=true:=by unfold Sc.own;rw [own.1]
    have o2:Sc.own ⟨fd.scope,["self","message"],gl⟩ ("message" : Str)=true:=by unfold Sc.own;rw [own.2]
    refine wpAny_Assign_stores ?_ (by unfold swapsWithSole;exact BP rfl) (by unfold swappedStores;rfl);refine loc_ok (c:=⟨fd.scope,["self","message"],gl⟩) a sok.ok (by decide +kernel) (by decide +kernel) o2 (i:=1) (msg_ix _).2 (v:=.str msg) rfl fun z rz=>?_;obtain ⟨u,rfl⟩:=rz;show wpAny (Mo w) (A.deeper env) (assign (.Attribute (.Name ("self" : Str) p1) (fld 20) p2) env (.str msg u)) _ _ s1;refine wl (arm_assign_Attribute ..) ?_;refine wpAny_bind (wpAny_holding (loc_ok (c:=⟨fd.scope,["self","message"],gl⟩) a sok.ok (by decide +kernel) (by decide +kernel) o1 (i:=0) (msg_ix _).1 (v:=.ref e) rfl fun z rz=>?_));cases (show z = .ref e from rz);refine wpAny_bind (wpAny_standAt (wpAny_bind (wpAny_holding ?_)));have he1:s1.heap.get? e=some {cls:=.ref CR,data:=.fields vs}:=k1 _ _ he;have hG1:G1 e=none:=(same e (Heap.lt_size he)).trans hG;refine set_exc a.sat he1 fun h' tk dx d1 d2 d3 d4 d5=>wpAny_release ?_;refine wpAny_execs_nil ?_;have hne:dx≠e:=fun z=>by rw [z,he1] at d1;cases d1
    have gdx:G1 dx=none:=by
      cases z:G1 dx with
      | none=>rfl
      | some c=>exact absurd (a.sat.lt z) (Nat.not_lt.mpr d2)
    have bdx:B.get? dx=none:=by
      cases z:B.get? dx with
      | none=>rfl
      | some o=>exact absurd (Heap.lt_size (a.sat.base _ _ z)) (Nat.not_lt.mpr d2)
    have xs:XStep B G1 s1.heap h':=DD (S:=[e]) (fun b hb=>by simp at hb;subst hb;exact ⟨hG1,hB⟩) fun b o hb ho=>by simp at hb;exact ⟨o.slots,d3 b o hb ho,fun Y=>d3 b o hb ho⟩
    have S2:Sat w B os G1 {s1 with heap:=h',toks:=tk}:=a.sat.xstep xs rfl rfl;refine q G1 _ e1 S2 (l1.trans e1 xs.lkeep) a.le ?_ (by show h'.get? e≠none;rw [d4];simp) ⟨dx,d4⟩;exact ⟨e,dx,_,vs,u,rfl,hG1,hB,d4,rfl,rfl,rfl,h2,gdx,bdx,hne,d5,.no trivial h1⟩
set_option tactic.hygienic true in
theorem ns_at {K:Frag} {h:Heap} {N:Addr} {mg:Str->Option Value} {n:Str} {v:Value} (X:K.In h) (G:h.Ns N mg) (e:nsIn K N n=some (some v)):mg n=some v:=by
  obtain ⟨o,es,ep,ho,hd,_,hf⟩:=G;unfold nsIn at e;split at e
  . rename_i c d es' n' sl q;have:=X _ _ q;replace this:=ho▸this;cases this;cases hd;split at e
    . rename_i en he;refine wr (hf ..) ?_;unfold nsFind findBy;refine wr (Array.find?_toList ..) ?_;refine wl (he ..) ?_;simpa using e
    . split at e<;>cases e
  . cases e
theorem exc_call {msg:Str} {y:Value} {Q:Value->Shared->Prop} {E:Value->Shared->Prop} (S:Sat w B os G s) (cx:Cx A (d+2) G) (le:Le H G) (r:VR G (.str msg) y)
    (q:∀ G' s' e dx t0,Ext G G'->Sat w B os G' s'->LKeep G s.heap s'.heap->Le H G'->Raised w B G' (.ref e) msg s'.heap->s'.heap.get? e=some {cls:=.ref CR,dict:=some dx,data:=.fields #[.ref t0,.none,.none,.none,.bool false,.none]}->Q (.ref e) s') :
    wpAny (Mo w) A (call (.ref CR) [y]) Q E s:=by
  have Z:=excOk w.params;have X:=S.kf;obtain ⟨cd',c1,c2,c3⟩:=Z.cd;obtain ⟨dd,cd,k0,k1,k2,k3,k5,h1,h2,h3,h4⟩:=Z.obj;have hcd:cd'=cd:=by unfold clsIn at c1;rw [h1] at c1;exact (Option.some.inj c1).symm
  subst hcd;obtain ⟨nm,bs,mro,ns,qn,hd,sn,sub,ab,col,del⟩:=cd';dsimp only at c2 c3 h2 h3 h4;subst c3 h2;have hC:=X _ _ h1;have T:=tail_of_in X Z.tail;have Nn:s.heap.Ns ns (s.heap.nsMap ns):=.of_isNs (isNs_of_in X h3);have hi:=ns_at X Nn h4;obtain ⟨oI,hoI,hcI⟩:=Option.map_eq_some_iff.mp (msg_cls w.params);obtain ⟨hh,g,dr,t,os'⟩:=s;refine call_exc (C:=CR) PySem.F.excBase_Exception T hC Nn hi (X _ _ hoI) hcI (fun h' e he hm=>?_) (by show 1<=sizeLine;rw [sizeLine_eq];decide);obtain ⟨t0,ht,_,_⟩:=hm.there;have S1:Sat w B os G ⟨h',g,dr,t,os'⟩:=S.keeps hm.keeps rfl rfl;have G0:G e=none:=by
    cases z:G e with
    | none=>rfl
    | some c=>exact absurd (S.lt z) (Nat.not_lt.mpr he)
  have B0:B.get? e=none:=by
    cases z:B.get? e with
    | none=>rfl
    | some o=>exact absurd (Heap.lt_size (S.base _ _ z)) (Nat.not_lt.mpr he)
  refine msg_run (d:=d) S1 cx.make le r ht G0 B0 rfl (Nat.le_of_ble_eq_true rfl) fun G' s' e1 S' l' le' ra Y ⟨dx,hx⟩=>⟨rfl,?_⟩
  exact q G' s' e dx t0 e1 S' ((LKeep.keeps hm.keeps).trans (.refl G) l') le' ra hx
end
inductive ExcO (p:Params):Prop
  | mk (nm qn:Str) (ns:Addr) (bs:List Value) (hd:Bool) (sn:List Str) (sub:List Value) (ab:Bool) (col:Option Bool) (dd:Option Addr) (k0 k1 k2 k3 k5:Option Value) (h:(KF p).lookup CR=some (excClassObj nm qn CR ns bs (.ref 97::bmE) hd sn sub ab col dd k0 k1 k2 k3 k5 "Exception.__new__"))
theorem exc_obj (p:Params):ExcO p:=by
  have Z:=excOk p;obtain ⟨cd',c1,c2,c3⟩:=Z.cd;obtain ⟨dd,cd,k0,k1,k2,k3,k5,h1,h2,h3,h4⟩:=Z.obj;have hcd:cd'=cd:=by unfold clsIn at c1;rw [h1] at c1;exact (Option.some.inj c1).symm
  subst hcd;obtain ⟨nm,bs,mro,ns,qn,hd,sn,sub,ab,col,del⟩:=cd';dsimp only at c2 c3 h2 h3 h4;subst c3 h2;exact ⟨_,_,_,_,_,_,_,_,_,_,_,_,_,_,_,h1⟩
section
variable {M:Model} {A:Around} {E:Value->Shared->Prop} {env:Env}
variable {nm q:Str} {C N:Addr} {bs bm:List Value} {hdct:Bool} {sn:List Str} {sub:List Value} {ab:Bool} {col:Option Bool} {dd:Option Addr} {k0 k1 k2 k3 k5:Option Value} {newId:String}
theorem raise_made {s:Shared} {x:Sem Value} {Q:Flow->Shared->Prop} (hbase:bm.contains (.type "BaseException")=true) (hh:A.handled=none)
    (h:wpAny M A x (fun v s₁=>∃ e t dx,v = .ref e/\s₁.heap.get? C=some (excClassObj nm q C N bs bm hdct sn sub ab col dd k0 k1 k2 k3 k5 newId) /\
      s₁.heap.get? e=some {cls:=.ref C,dict:=some dx,data:=.fields #[.ref t,.none,.none,.none,.bool false,.none]}/\E (.ref e) s₁) E s) :
    wpAny M A (raiseStmt env (some x) none) Q E s:=by
  have hcB:(Value.ref C::bm).contains (.type "BaseException")=true:=by rw [List.contains_cons,hbase,Bool.or_true]
  unfold raiseStmt;refine wpAny_bind (wpAny_mono h (fun v s₁ h₁=>?_) fun Y Y x=>x);obtain ⟨e,t,dx,rfl,hC,he,hE⟩:=h₁;obtain ⟨hp,g,d,tk,os⟩:=s₁
  repeat (first | with_reducible refine wpAny_loadPart_at he ?_ | with_reducible refine wpAny_loadPart_at hC ?_ | (with_reducible refine wpAny_isSubtype_exc hC ?_;rw [hcB]) | wp_step)
  exact wpAny_raiseNew_none hh hE
end
section
variable {w:World} {B:Heap} {os:OsState} {A:Around} {d:Nat} {env:Env} {c:Sc} {cur:Option Str} {ex:List Addr} {N:Lm->Hp->Prop} {R:KV} {E:KS} {m:Lm} {H:Hp} {G:Gh} {s:Shared}
theorem evalOpt_some {e:PySem.Expr}:evalOpt (some e) env=some (eval e env):=rfl
theorem DU:evalOpt none env=none:=rfl
theorem rse_core {r:Str} {np cpos p:Pos} {e:PySem.Expr} (ih:PE e) (ok:SOk c env A) (hf:c.fn r = .glb (.ref CR)) (h:vcS d cur (.rse (comp c e)) N R E m H):SW w B os A d env c.ls ex cur (exec (.Raise (some (.Call (.Name r np) [e] [] cpos)) none p) env) N R E m H:=by
  intro G s a hl;dsimp only [S_rse] at h;obtain ⟨hd2,h⟩:=h;have hns:AP [e]=true:=by cases e<;>first | rfl | exact False.elim h
  have hfn:vcE d (c.fn r) (fun v Y=>v = .ref CR) (fun Y Y=>False) m H:=by rw [hf];dsimp only [E_glb]
  obtain ⟨v,hd,hg,hv,rfl⟩:=fn_glob hfn;obtain ⟨nm,qn,ns,bs,hdc,sn,sub,ab,col,dd,k0,k1,k2,k3,k5,hC⟩:=exc_obj w.params;have he:starEach [e] env=[(false,eval e env)]:=(BB hns).1;have hv':gl r=some (.ref CR):=ok.ok.gl▸hv
  . obtain ⟨d',rfl⟩:∃ d',d=d'+2:=⟨d - 2,(Nat.sub_add_cancel ‹1<d›).symm⟩
    refine wl (arm_exec_Raise ..) ?_;refine wl (evalOpt_some ..) ?_;refine wl (DU ..) ?_;dsimp only [Option.map];refine wpAny_bind (wpAny_standAt (raise_made (C:=CR) (nm:=nm) (q:=qn) (N:=ns) (bs:=bs) (bm:=.ref 97::bmE) (hdct:=hdc) (sn:=sn) (sub:=sub) (ab:=ab) (col:=col) (dd:=dd) (k0:=k0) (k1:=k1) (k2:=k2) (k3:=k3) (k5:=k5) (newId := "Exception.__new__") (by decide) (a.cx.handled (Nat.succ_pos _)) ?_));refine wpAny_bind (wpAny_mono (wpAny_Call_ofName (glob_ok a.sat a.loc.globs a.loc.kind (BO ok.ok hg) hd hv' fun y ry=>?_)) (fun v s₃ h₃=>wpAny_bind (wpAny_standAt (wpAny_pure h₃))) fun Y Y x=>x);cases (show y = .ref CR from ry);unfold callWith;refine wpAny_bind (wpAny_holding (AW hns ?_));refine wl (he ..) ?_;refine Calls.spliced_cons (SW.expr a (ih ok.ok h G s a) fun G' b H' z s' e' l' a' r' k'=>Calls.spliced_nil ?_);refine wpAny_bind (wpAny_standAt ?_);obtain ⟨x,rfl,k9⟩:=CU k'
    . have hk:∀ {Q:Keeper->Shared->Prop} {E':Value->Shared->Prop},Q .machine s'->wpAny (Mo w) A (keeperOf (.ref CR)) Q E' s':=fun {Q E'} hq=>by obtain ⟨hh,g,dr,t,os'⟩:=s';exact wpAny_keeperOf_exc (a'.sat.kf _ _ hC) hq
      have hpl:(backTo cpos [(false,eval e env)]).any (·.1)=false:=rfl;simp only [hpl];refine wpAny_bind (hk ?_);refine wpAny_bind (exc_call (d:=d') a'.sat a'.cx a'.le r' fun G2 s2 ea dx t0 e2 S2 l2 le2 ra hx=>wpAny_bind (wpAny_holding (wpAny_point (wpAny_pure ?_))));refine ⟨ea,t0,dx,rfl,S2.kf _ _ hC,hx,?_⟩;refine SPostX.of a ⟨G2,x,H',e'.trans e2,S2,l'.trans e' l2,le2,ra,k9⟩
end
section
variable {w:World} {B:Heap} {os:OsState} {A A':Around} {d:Nat} {env:Env} {c:Sc} {cur:Option Str} {ex:List Addr} {N:Lm->Hp->Prop} {R:KV} {E:KS} {m:Lm} {H:Hp} {G:Gh} {s s':Shared} {h:Heap}
theorem mns3 {ea dx T:Addr} (G:Gh):mns G [ea,dx,T]=Mine.del (Mine.del (Mine.del G ea) dx) T:=by
  funext a
  unfold Mine.mns Mine.del;simp only [List.mem_cons,List.not_mem_nil,or_false];by_cases h1:a=T
  . simp [h1]
  . by_cases h2:a=dx
    . simp [h2]
    . simp [h1,h2]
theorem ps_rer {p:Pos}:PS (.Raise none none p):=by
  intro w B os A d env c cur ex N R E m H ok h G s a hl;rw [compS_rer] at h;dsimp only [S_rer] at h;cases cur with
  | none=>exact h.elim
  | some msg =>
    have h:E msg m H:=h;obtain ⟨ea,dx,T,oe,od,oT,vs,ts,t,f,rfl,hh,g1,g2,g3,n1,n2,n3,o1,o2,o3,o4,o5,o6,⟨oes,oep,o7⟩,o8,o9⟩:=hl;have he:=(a.sat.cells _ _ g1).2;have hdx:=(a.sat.cells _ _ g2).2;have hT:=(a.sat.cells _ _ g3).2;have kk:∀ (D:Addr) b o,b≠D->s.heap.get? b=some o->s.heap.get? b=some o:=fun Y Y Y Y e=>e;have none_of:∀ {G:Gh} {D:Addr} {c:Cell},Mine.del G D D=some c->OC w (Mine.del G D) s.heap D c:=fun h=>by simp [Mine.del] at h
    have a1:=(EqB.del G ea).at (s':=s) g1 (fun v q=>by rw [o3] at q;cases q) a (kk ea) (fun cc hc=>none_of hc) rfl rfl;have g2':Mine.del G ea dx=some (.rw od):=by simp [Mine.del,n1];exact g2
    have a2:=(EqB.del (Mine.del G ea) dx).at (s':=s) g2' (fun v q=>by rw [o7] at q;cases q) a1 (kk dx) (fun cc hc=>none_of hc) rfl rfl;have g3':Mine.del (Mine.del G ea) dx T=some (.rw oT):=by simp [Mine.del,n2,n3];exact g3
    have a3:=(EqB.del (Mine.del (Mine.del G ea) dx) T).at (s':=s) g3' (fun v q=>by rw [o8] at q;cases q) a2 (kk T) (fun cc hc=>none_of hc) rfl rfl;rw [<- mns3] at a3;have none_at:∀ {b},b∈[ea,dx,T]->mns G [ea,dx,T] b=none:=fun hb=>by unfold Mine.mns;rw [if_pos hb]
    have ra:RaisedX False (fun Y=>True) w B (mns G [ea,dx,T]) (.ref ea) msg s.heap :=
      ⟨ea,dx,oe,vs,t,rfl,none_at (.head _),a.sat.alone g1,he,o1,o2,o3,o4,none_at (.tail _ (.head _)),a.sat.alone g2,n1,o6 _ hdx,.one T oT ts f o5 n2 n3 (none_at (.tail _ (.tail _ (.head _)))) (a.sat.alone g3) hT o8 o9 trivial⟩
    refine wl (arm_exec_Raise ..) ?_;refine wpAny_bind (wpAny_standAt ?_);unfold raiseStmt;refine wl (DU ..) ?_;dsimp only [Option.map];refine wpAny_bind (wpAny_handled ?_);refine wl (hh ..) ?_;refine wpAny_bind (wpAny_rule (wpAny_bind (wpAny_field he o3 o5 ?_)));refine wl (if_neg (by simp) ..) ?_;refine wpAny_bind (Dq (fr:=env.frame) a3.sat ra fun h' k r=>wpAny_throw ?_);have S':Sat w B os (mns G [ea,dx,T]) {s with heap:=h'}:=a3.sat.xstep k rfl rfl;obtain ⟨outer,L,hfr,hf⟩:=ok.fr;refine ⟨mns G [ea,dx,T],msg,m,H,.refl _,S',k.lkeep.b,a3.loc.step (.refl _) k.lkeep,a3.le,r.mono False.elim fun v hv=>.inr ⟨L,hf,by rw [hv,hf];rfl⟩,a3.cx.le (Nat.zero_le _),h⟩
theorem Sat.add {a:Addr} {cl:Cell} (S:Sat w B os G s) (h0:G a=none) (hB:B.get? a=none) (hc:OC w (Mine.upd G a cl) s.heap a cl):Sat w B os (Mine.upd G a cl) s/\Ext G (Mine.upd G a cl):=by
  have e:Ext G (Mine.upd G a cl):=.upd_fresh h0;refine ⟨⟨S.top,S.base,fun b c hb=>?_,S.gens,S.os,e.tb S.tbs⟩,e⟩;by_cases q:b=a
  . subst q;rw [AA] at hb;cases hb;exact ⟨hB,hc⟩
  . rw [AC q] at hb;exact ⟨S.alone hb,(S.cells b c hb).2.ext e⟩
theorem SPostX.noted2 {x:Value} (ok:SOk c env A') (hA:∀ G,Cx A' 0 G->Cx A 0 G) (p:SPostX w B os A' env c.ls ex G h E x s'):notedBy (Mo w) A' env (fun e s''=>cameBackBy (Mo w) A env (SPostX w B os A env c.ls ex G h E) e s'') x s':=by
  obtain ⟨G',msg,m',H',e,S,l,lo,le,r,cx,k⟩:=p;obtain ⟨outer,L,hfr,hf⟩:=ok.fr;refine note_ok hfr hf cx S (r.mono id fun v hv=>?_) fun h1 k1 r1=>?_
  . rcases hv with hv | ⟨L',hL,hv⟩
    . exact .inl hv
    . rw [hf] at hL;cases hL;exact .inr hv
  have S1:Sat w B os G' {s' with heap:=h1}:=S.xstep k1 rfl rfl;refine back_ok (msg:=msg) hf S1 r1 fun h2 k2 r2=>?_;have S2:Sat w B os G' {s' with heap:=h2}:=S1.xstep (s':={s' with heap:=h2}) k2 rfl rfl;have lk:=(k1.trans k2).lkeep;exact ⟨G',msg,m',H',e,S2,l.trans e lk.b,lo.step (.refl G') lk,le,r2.mono False.elim fun v hv=>.inr ⟨L,hf,hv⟩,hA _ cx,k⟩
theorem goes_ok {x:Str} {i:Nat} {p:Pos} {Q:Unit->Shared->Prop} {E':Value->Shared->Prop} (ok:SOk c env A) (hi:c.loc? x=some i) (S:Sat w B os G s) (lo:Loc env c.ls m G s.heap)
    (q:∀ s',Sat w B os G s'->LKb env.locals G s.heap s'.heap->Loc env c.ls (m.set i none) G s'.heap->Q () s'):wpAny (Mo w) A (do bindName env x .none;unbindBehindTheSuite env x p) Q E' s:=by
  obtain ⟨h1,h2⟩:=loc_at hi;have hl:=ok.ok.loc x h1;obtain ⟨b1,b2,b3,b4,⟨mm,hn,hv⟩,hc⟩:=lo;have hp:(env.scope.kind == .class || (env.scope.kind == .module && env.locals != env.globals))=false:=by rw [b1];rfl
  refine wpAny_bind (wpAny_bindName (wpAny_storeName_local hl hn (fun h' hn' hs'=>?_) hp));unfold unbindBehindTheSuite;refine wpAny_onRaise (wpAny_unbindName_local hl hn' (if_pos rfl) hp fun h'' u hn'' hs''=>?_);have hs:=hs'.trans hs'';refine q _ (S.setLc (s':={s with heap:=h'',toks:=s.toks+1}) b4 hs (Ns.alive hn'') rfl rfl) (.own hs fun v z=>by rw [b4] at z;cases z) ⟨b1,b2,b3,b4,⟨_,hn'',fun j z v e1 e2 e3=>?_⟩,fun j z v e1 e2 e3=>?_⟩
  . have hji:j≠i:=fun z=>by
      subst z;replace e2:=(List.getElem?_set)▸e2;split at e2
      . split at e2<;>cases e2
      . rename_i n;exact absurd rfl n
    replace e2:=(List.getElem?_set_ne (Ne.symm hji))▸e2;obtain ⟨y,q1,q2⟩:=hv j z v e1 e2 e3;have hzx:z≠x:=fun z'=>by subst z';exact nd_set ok.nd h2 m j v hji e1 e2
    exact ⟨y,by simp [hzx];exact q1,q2⟩
  . have hji:j≠i:=fun z=>by
      subst z;replace e2:=(List.getElem?_set)▸e2;split at e2
      . split at e2<;>cases e2
      . rename_i n;exact absurd rfl n
    replace e2:=(List.getElem?_set_ne (Ne.symm hji))▸e2;exact hc j z v e1 e2 e3
end
theorem bmod_all (p:Params):nsFind (CM p) ("__builtins__" : Str)=some (.ref 4)/\(H1 p).get? 4=some (boot_o_4 p)/\(boot_o_4 p).cls = .type "module" /\ (boot_o_4 p).dict=some builtinsNs/\(boot_o_4 p).data = .plain :=
  ⟨by kernel_rfl,by kernel_rfl,by kernel_rfl,by kernel_rfl,by kernel_rfl⟩
noncomputable def cdF (p:Params) (c:Addr):Array Value:=match (A p c).data with | .fields vs=>vs | _=>#[]
noncomputable def vStr:Value->Str×Tok
  | .str x t=>(x,t)
  | _=>(⟨#[]⟩,0)
noncomputable def vInt:Value->Int×Tok
  | .int x t=>(x,t)
  | _=>(0,0)
structure HdOk (p:Params) (c P:Addr):Prop where
  at_:(KF p).lookup c=some (A p c)
  cls:(A p c).cls = .type "code"
  dat:(A p c).data = .fields (cdF p c)
  f11:(cdF p c)[11]?=some (.ref P)
  g11:(cdF p c).getD 11 .none = .ref P
  g18:(cdF p c).getD 18 .none = .str (vStr ((cdF p c).getD 18 .none)).1 (vStr ((cdF p c).getD 18 .none)).2
  g7:(cdF p c).getD 7 .none = .int (vInt ((cdF p c).getD 7 .none)).1 (vInt ((cdF p c).getD 7 .none)).2
  g9:(cdF p c).getD 9 .none = .bool true
  g10:(cdF p c).getD 10 .none = .int (vInt ((cdF p c).getD 10 .none)).1 (vInt ((cdF p c).getD 10 .none)).2
theorem hd_a (p:Params):HdOk p 433 429:=⟨by kernel_rfl,by kernel_rfl,by kernel_rfl,by kernel_rfl,by kernel_rfl,by kernel_rfl,by kernel_rfl,by kernel_rfl,by kernel_rfl⟩
theorem hd_b (p:Params):HdOk p 1081 1077:=⟨by kernel_rfl,by kernel_rfl,by kernel_rfl,by kernel_rfl,by kernel_rfl,by kernel_rfl,by kernel_rfl,by kernel_rfl,by kernel_rfl⟩
theorem among_snoc {pos pos':Pos} {c x:Value} (l:List Value) (h:TriplesOk l) (hx:codeAmong pos' (l++[rawInt pos.line,rawInt pos.col,c])=some x):codeAmong pos' l=some x\/x=c:=by
  fun_induction TriplesOk l with
  | case1 =>
    simp only [List.nil_append,codeAmong,rawInt] at hx;split at hx
    . cases hx;exact .inr rfl
    . cases hx
  | case2 a t b u y rest ih =>
    simp only [List.cons_append,codeAmong] at hx ⊢;split at hx
    . rename_i q;rw [if_pos q];exact .inl hx
    . rename_i q;rw [if_neg q];exact ih h hx
  | case3=>exact h.elim
section
variable {w:World} {B:Heap} {os:OsState} {A:Around} {env:Env} {c:Sc} {G:Gh} {s:Shared} {E:Value->Shared->Prop} {q:Addr×Addr} {pos:Pos} {fl:Nat} {name qual:Str} {params:Arguments} {scope:Scope} {body:FuncBody} {clos:List (Str×Addr)} {Q:Value->Shared->Prop}
inductive Bmod (w:World) (h:Heap):Prop
  | mk (bm:Addr) (o:Obj) (h1:nsFind (CM w.params) ("__builtins__" : Str)=some (.ref bm)) (h2:bm≠builtinsNs) (h3:h.get? bm=some o) (h4:o.cls = .type "module") (h5:o.dict=some builtinsNs) (h6:o.data = .plain)
theorem Sat.bmod (S:Sat w B os G s):Bmod w s.heap :=
  have ⟨h1,h2,h3,h4,h5⟩:=bmod_all w.params
  ⟨4,_,h1,by decide,S.keepTop h2,h3,h4,h5⟩
theorem HdOk.hd {c P:Addr} (S:Sat w B os G s) (h:HdOk w.params c P) (n:c≠P) (i:Ap P=true):CodeHd s.heap c P/\G P=some .tb :=
  ⟨⟨_,_,_,_,_,_,_,_,_,S.kf _ _ h.at_,h.cls,h.dat,h.f11,h.g11,h.g18,h.g7,h.g9,h.g10,n⟩,S.tbs _ i⟩
theorem Sat.hd (S:Sat w B os G s) (hq:q∈tabL):CodeHd s.heap q.1 q.2/\G q.2=some .tb:=by
  rcases List.mem_cons.mp hq with rfl | hq
  . exact (hd_a w.params).hd S (by decide) rfl
  . rw [List.mem_singleton.mp hq];exact (hd_b w.params).hd S (by decide) rfl
theorem code_ok (S:Sat w B os G s) (hq:q∈tabL) (hc:env.code = .ref q.1)
    (k:∀ G' c' vs n t s',Ext G G'->Sat w B os G' s'->(∀ b o,b≠q.2->s.heap.get? b=some o->s'.heap.get? b=some o)->(∀ a v,G a=some (.mu v)->G' a=some (.mu v))->G' c'=some (.fr (.fields vs))->vs[1]?=some (.str n t)->Q (.ref c') s') :
    wpAny (Mo w) A (functionCode env pos fl name qual params scope body) Q E s:=by
  obtain ⟨C,gP⟩:=S.hd hq;obtain ⟨ps,p1,p2,p3⟩:=(S.cells _ _ gP).2;have aP:=S.alone gP;cases hf:codeAmong pos ps.toList with
  | some cv=>obtain ⟨ca,vs,n,t,rfl,g,hv⟩:=p3 _ _ hf;exact wpAny_functionCode_hit hc (C.code p1 p2) hf (k G ca vs n t s (.refl G) S (fun Y Y Y e=>e) (fun Y Y e=>e) g hv)
  | none =>
    refine wpAny_functionCodeX hc (C.code p1 p2) (C.tab p1) hf fun c' h' tk hx hge hlt Y hrec htb Y=>?_;obtain ⟨c2,oc,vs,t,e2,hoc,hd,hv⟩:=hrec;cases e2;have gn:G c'=none:=by
      cases z:G c' with
      | none=>rfl
      | some cc=>exact absurd (S.lt z) (Nat.not_lt.mpr hge)
    have bn:B.get? c'=none:=by
      cases z:B.get? c' with
      | none=>rfl
      | some o=>exact absurd (Heap.lt_size (S.base _ _ z)) (Nat.not_lt.mpr hge)
    have e:Ext G (Mine.upd G c' (.fr (.fields vs))):=.upd_fresh gn;refine k (Mine.upd G c' (.fr (.fields vs))) c' vs _ t _ e ⟨S.top,fun b o z=>?_,fun b cc z=>?_,S.gens,S.os,e.tb S.tbs⟩ (fun b o n z=>hx b o n z) (fun a v z=>?_) (AA _ _ _) hv
    . exact hx b o (fun y=>by rw [y,aP] at z;cases z) (S.base b o z)
    . by_cases y:b=c'
      . subst y;rw [AA] at z;cases z;exact ⟨bn,oc,hoc,hd⟩
      . rw [AC y] at z;refine ⟨S.alone z,?_⟩;by_cases y2:b=q.2
        . subst y2;rw [gP] at z;cases z;refine ⟨_,htb.2,by rw [show (ps++#[rawInt pos.line,rawInt pos.col,Value.ref c']).toList=ps.toList++[rawInt pos.line,rawInt pos.col,.ref c'] by simp];exact TriplesOk_snoc _ _ _ _ p2,fun pos' x hx'=>?_⟩;rw [show (ps++#[rawInt pos.line,rawInt pos.col,Value.ref c']).toList=ps.toList++[rawInt pos.line,rawInt pos.col,.ref c'] by simp] at hx';rcases among_snoc _ p2 hx' with z | rfl
          . obtain ⟨ca,vs',n,t',r1,r2,r3⟩:=p3 _ _ z;exact ⟨ca,vs',n,t',r1,e.fr r2,r3⟩
          . exact ⟨c',vs,_,t,rfl,AA _ _ _,hv⟩
        . exact ((S.cells b cc z).2.keep (fun o z=>hx b o y2 z) fun dx o hd' z=>hx dx o (fun y=>by rw [y,gP] at hd';cases hd') z).ext e
    . rw [AC fun y=>by rw [y,gn] at z;cases z];exact z
inductive MadeFn (G:Gh) (f:Addr) (params:Arguments) (body:FuncBody) (scope:Scope) (clos:List (Str×Addr)):Prop
  | mk (fd:FuncData) (c':Addr) (vs:Array Value) (n:Str) (t:Tok) (g1:G f=some (.fr (.func fd))) (p1:fd.params=params) (p2:fd.body=body) (p3:fd.scope=scope) (p4:fd.globals=mainGlobals) (p5:fd.closure=clos) (p6:fd.builtins=builtinsNs) (p7:fd.defaults = .none) (p8:fd.kwdefaults = .none) (p9:fd.code = .ref c') (g2:G c'=some (.fr (.fields vs))) (hv:vs[1]?=some (.str n t))
theorem mkfn_ok (S:Sat w B os G s) (hq:q∈tabL) (hc:env.code = .ref q.1) (hg:env.globals=mainGlobals) (hcl:closureFor scope env=pure clos)
    (k:∀ G' f s',Ext G G'->Sat w B os G' s'->(∀ b o,b≠q.2->s.heap.get? b=some o->s'.heap.get? b=some o)->(∀ a v,G a=some (.mu v)->G' a=some (.mu v))->MadeFn G' f params body scope clos->Q (.ref f) s') :
    wpAny (Mo w) A (makeFunction name qual params body scope env [] [] [] pos fl) Q E s:=by
  refine wl (makeFunction_eq ..) ?_;simp only [List.zip_nil_right,List.filterMap_nil,List.isEmpty_nil,if_true,pure_bind];unfold makeTail;refine wl (hcl ..) ?_;refine wl (hg ..) ?_;refine wpAny_bind (wpAny_pure ?_);have ct:∀ {J:Value->Sem Value},(∀ v h',(∀ b o,s.heap.get? b=some o->h'.get? b=some o)->wpAny (Mo w) A (J v) Q E {s with heap:=h'})->wpAny (Mo w) A (if clos.isEmpty=true then (pure .none >>= J) else (newTextTuple ((clos.mergeSort fun a b=>a.1.cps.toList<=b.1.cps.toList).map (.ref ·.2)) >>= J)) Q E s:=by
    intro J h;split
    . exact wpAny_bind (wpAny_pure (h .none s.heap fun Y Y e=>e))
    . exact wpAny_bind (wpAny_newTextTuple (h _ _ fun b o e=>Heap.get?_push_of_some _ e))
  refine ct fun v h1 k1=>?_;have S1:Sat w B os G {s with heap:=h1}:=S.keeps k1 rfl rfl;refine wpAny_bind (code_ok S1 hq hc fun G2 c' vs n t s2 e2 S2 k2 m2 g2 v2=>?_);obtain ⟨bm,o,b1,b2,b3,b4,b5,b6⟩:=S2.bmod;refine wpAny_bind (wpAny_builtinsFor S2.mainNs b1 b2 b3 b4 b5 b6 ?_);refine wpAny_bind (wpAny_nsGet S2.mainNs ?_);have fin:∀ (fd:FuncData) (tk:Nat),fd.params=params->fd.body=body->fd.scope=scope->fd.globals=mainGlobals->fd.closure=clos->fd.builtins=builtinsNs->fd.defaults = .none->fd.kwdefaults = .none->fd.code = .ref c' ->
      wpAny (Mo w) A (newObj (.type "function") (.func fd)) Q E {s2 with toks:=tk}:=fun fd tk f1 f2 f3 f4 f5 f6 f7 f8 f9=>by
    refine wpAny_newObj_type ?_ (by size_fits);have S3:=S2.push (c:=.fr (.func fd)) (o:={cls:=.type "function",data:=.func fd}) (s':={s2 with heap:=s2.heap.push {cls:=.type "function",data:=.func fd},toks:=tk}) rfl (fun G' Y=>⟨_,Heap.get?_push_size _ rfl,rfl⟩) rfl rfl rfl;have e3:Ext G2 (Mine.upd G2 s2.heap.objs.size (.fr (.func fd))):=.upd_fresh S2.fresh;refine k _ _ _ (e2.trans e3) S3 (fun b o' nb z=>Heap.get?_push_of_some _ (k2 b o' nb (k1 b o' z))) (fun a v' z=>?_) ⟨fd,c',vs,n,t,AA _ _ _,f1,f2,f3,f4,f5,f6,f7,f8,f9,e3.fr g2,v2⟩;have z2:=m2 a v' z;rw [AC fun y=>by rw [y,S2.fresh] at z2;cases z2];exact z2
  cases body with
  | stmts b =>
    dsimp only;cases docOf b with
    | none=>exact wpAny_bind (wpAny_pure (fin _ s2.toks rfl rfl rfl rfl rfl rfl rfl rfl rfl))
    | some t=>exact wpAny_bind (wpAny_mkText (fin _ _ rfl rfl rfl rfl rfl rfl rfl rfl rfl))
  | expr b=>exact wpAny_bind (wpAny_pure (fin _ s2.toks rfl rfl rfl rfl rfl rfl rfl rfl rfl))
end
section
variable {w:World} {B:Heap} {os:OsState} {A:Around} {env:Env} {c:Sc} {G:Gh} {s:Shared} {la:Arguments} {lb:PySem.Expr} {sc:Scope} {f:Addr}
theorem callE {o:Obj} {fd:FuncData} {e:PySem.Expr} {q:Str} {args:Args} {binds:List (Str×Value)} {R:Result->Shared->Prop} (hroom:A.depth<1000) (ho:s.heap.get? f=some o) (hd:o.data = .func fd) (h1:fd.scope.isCoroutine=false) (h2:fd.scope.isGenerator=false) (hb:fd.body = .expr e) (hcd:s.heap.CodeRec fd.code q) (hbind:BindsTo s fd args binds)
    (h:wpAny (Mo w) A.in1 (newFunctionEnv fd.scope fd.globals fd.closure binds (q ++ ".<locals>.") (some f) fd.code none fd.builtins)
      (fun env s₂=>s₂.heap.NoLimit/\wpAny (Mo w) (A.deeper env) (eval e env) (fun v s'=>R (.ok (.ret v)) s') (fun Y Y=>False) s₂) (fun Y Y=>False) s):codeAny (Mo w) A (.call (.ref f) args) R s:=by
  obtain ⟨c,oc,vs,tq,hc,hoc,hdc,hq⟩:=hcd;refine codeAny_of_tree ?_;show wpAny _ A.in1 (callAny (.ref f) args) _ _ s;refine wpAny_bind (wpAny_load ho ?_);simp only [hd,callFunction,h1,h2,hb,hc];rw [hc] at h;refine wpAny_bind (m:=field (.ref c) 1) (wpAny_field hoc hdc hq (wpAny_bind (wpAny_pure ?_)));refine wpAny_bind (hbind _ _ _ _ (wpAny_bind (wpAny_mono h (fun env s₂ h₂=>wpAny_bind (wpAny_enterFrame h₂.1 hroom (wpAny_pure ⟨rfl,?_⟩))) fun Y Y x=>x.elim)));exact kla_codeExpr (wpAny_mono h₂.2 (fun Y Y x=>x) fun Y Y x=>x.elim)
inductive LamO (s:Shared) (k:Int):Value->Shared->Prop
  | mk (t:Tok) (h':Heap) (tk:Nat) (kp:∀ b o,s.heap.get? b=some o->h'.get? b=some o):LamO s k (.int k t) {s with heap:=h',toks:=tk}
set_option tactic.hygienic true in
theorem lam_ok (S:Sat w B os G s) (hA:A.depth<=980) (hm:MadeFn G f la (.expr lb) sc []) (hk:Cw la lb sc=true) {v0:V} {k:Int} {x:Value} (r:VR G (.tup [v0,.int k]) x) :
    wpAny (Mo w) A (call (.ref f) [x]) (LamO s k) (fun Y Y=>False) s:=by
  obtain ⟨fd,c',vs,n,t,g1,p1,p2,p3,p4,p5,p6,p7,p8,p9,g2,hv⟩:=hm;obtain ⟨o,ho,hod⟩:=(S.cells _ _ g1).2;obtain ⟨oc,hoc,hocd⟩:=(S.cells _ _ g2).2;obtain ⟨k1,k2,k3,k4,k5,k6⟩:=key1_inv hk;rename_i rn ps q1 q2 q3 n1;have hfun:fd.scope.kind = .function:=by rw [p3];exact k3
  refine wpAny_call (callE (Bq ‹_› (by decide)) ho hod (by rw [p3];simpa using k4) (by rw [p3];simpa using k5) p2 ⟨c',oc,vs,t,p9,hoc,hocd,hv⟩
    (bind_ps (ps:=[rn]) (vals:=[x]) ⟨by rw [p1],by rw [p1],by rw [p1],by rw [p1]⟩ (by simp) (by rw [p1];rfl) (.inl p7) rfl) ?_)
  refine wl (p5 ..) ?_;refine wpAny_newFunctionEnv_cells hfun (fun y hy=>.inl ?_) fun env he s1 I=>?_
  . simp only [List.zip_cons_cons,List.zip_nil_right,List.mem_singleton] at hy;subst hy;rw [p3];exact k2
  obtain ⟨⟨⟨hh,tk,rfl⟩,hns,hkeep,-⟩,-⟩:=I;have hkd:env.kindOf rn=some .local:=by rw [he];show fd.scope.names.lookup rn=_;rw [p3];exact k2
  have hkind:env.scope.kind = .function:=by rw [he];exact hfun
  refine ⟨S.nolim.keeps hkeep,?_⟩;have S1:Sat w B os G {s with heap:=hh,toks:=tk}:=S.keeps hkeep rfl rfl;refine wl (arm_eval_Subscript ..) ?_;have hx:(bindL env.kindOf ([rn].zip [x]) fun Y=>none) rn=some x:=by show (if env.kindOf rn=some .local then _ else _:Str->Option Value) rn=some x;rw [if_pos hkd,if_pos rfl]
  refine wpAny_bind (wpAny_Name (wpAny_loadName_local hkind hkd hns hx ?_) k1);refine wpAny_bind (wpAny_holding (wpAny_Constant_int ?_));refine wpAny_bind (wpAny_standAt ?_);have S2:Sat w B os G {s with heap:=hh,toks:=tk+1}:=S.keeps hkeep rfl rfl;obtain ⟨T,id,hl,hT,hg⟩:=sub_ok (A:=A.deeper env) (K:=fun v Y=>v = .int k) (H:=fun Y=>none) (a:=.tup [v0,.int k]) (b:=.int 1) (E:=fun Y Y=>False) (Q:=LamO s k)
    S2 (fun Y Y h=>by cases h) r ⟨_,rfl⟩ ⟨by decide,rfl⟩ (fun y tk2 p=>by
      obtain ⟨G',b,H',e,S',l,le,r',rfl⟩:=p;obtain ⟨t,rfl⟩:=r';exact ⟨t,hh,tk2,hkeep⟩)
  refine wpAny_bind ?_;refine wl (getitemInPython_of_ne hT.not_modules ..) ?_;refine wpAny_bind (wpAny_specialOf hT hl ?_);have fin:wpAny (Mo w) (A.deeper env) (operate [x,.int 1 tk] (getItem x (.int 1 tk))) (fun r s₃=>wpAny (Mo w) (A.deeper env) (letTemporaryGo (.Name rn q1) x r >>= fun Y=>pure r) (LamO s k) (fun Y Y=>False) s₃) (fun Y Y=>False) {s with heap:=hh,toks:=tk+1} :=
    wpAny_operating (wpAny_mono hg (fun r s₃ h₃=>wpAny_bind (wpAny_letTemporaryGo (wpAny_pure h₃))) fun Y Y x=>x)
  exact wpAny_pure (wpAny_bind fin)
end
theorem sortedB_pw:∀ {ks:List Int},Bu ks=true->ks.Pairwise (· < ·)
  | [],_=>.nil
  | [a],_=>by simp
  | a::b::r,h=>by
    have h':(decide (a<b) && Bu (b::r))=true:=h;obtain ⟨h1,h2⟩:=Bool.and_eq_true_iff.mp h';have ih:=sortedB_pw h2;refine List.pairwise_cons.mpr ⟨fun c hc=>?_,ih⟩;have h1:=of_decide_eq_true h1;rcases List.mem_cons.mp hc with rfl | hc
    . exact h1
    . exact Int.lt_trans h1 ((List.pairwise_cons.mp ih).1 c hc)
theorem key_eq {α:Type} {l:List (Int×α)} (h:l.Pairwise (fun p q=>p.1<q.1)) {a b:Int×α} (ha:a∈l) (hb:b∈l) (e:a.1=b.1):a=b:=by
  induction h with
  | nil=>cases ha
  | cons h _ ih =>
    rcases List.mem_cons.mp ha with rfl | ha'<;>rcases List.mem_cons.mp hb with rfl | hb'
    . rfl
    . exact absurd (h _ hb') (by rw [e];exact Int.lt_irrefl _)
    . exact absurd (h _ ha') (by rw [e];exact Int.lt_irrefl _)
    . exact ih ha' hb'
theorem out_same {ks:List Int} {vs out:List Value} (hl:ks.length=vs.length) (hs:ks.Pairwise (· < ·)) (h:KskOut false ks vs out):out=vs:=by
  obtain ⟨ps,hp,rfl,ho⟩:=h;have hz:(ks.zip vs).Pairwise (fun p q=>p.1<q.1):=by
    have:((ks.zip vs).map Prod.fst).Pairwise (· < ·):=by rw [List.map_fst_zip (r_eq ‹_›)];exact hs
    exact List.pairwise_map.mp this
  have:ps=ks.zip vs:=hp.eq_of_pairwise (le:=fun p q=>p.1<=q.1) (fun a b ha hb h1 h2=>key_eq hz (hp.mem_iff.mp ha) hb (Int.le_antisymm h1 h2)) (ho.imp fun h=>by simpa using h) (hz.imp Int.le_of_lt);refine wl (this ..) ?_;exact wl (List.map_snd_zip (r_eq' ‹_›) ..) rfl
theorem srt_at {xs:List V}:∀ {ks:List Int},BD xs=some ks->ks.length=xs.length/\∀ (j:Nat) (x:V) (k:Int),xs[j]?=some x->ks[j]?=some k->∃ v0,x = .tup [v0,.int k]:=by
  induction xs with
  | nil=>intro _ h;cases h;exact ⟨rfl,fun j x k h=>by cases h⟩
  | cons x r ih =>
    intro ks h;obtain ⟨k,hk,h⟩:=Option.bind_eq_some_iff.mp h;obtain ⟨v0,rfl⟩:=sk_inv hk;obtain ⟨ks',h',rfl⟩:=Option.map_eq_some_iff.mp h;obtain ⟨i1,i2⟩:=ih h';refine ⟨congrArg (· + 1) i1,fun j x k' h1 h2=>?_⟩;cases j with
    | zero=>cases h1;cases h2;exact ⟨v0,rfl⟩
    | succ j=>exact i2 j x k' h1 h2
section
variable {w:World} {B:Heap} {os:OsState} {A:Around} {env:Env} {c:Sc} {G:Gh} {s:Shared} {la:Arguments} {lb:PySem.Expr} {sc:Scope} {f:Addr} {E:Value->Shared->Prop}
theorem MadeFn.ext {G':Gh} {b:FuncBody} {cl:List (Str×Addr)} (e:Ext G G') (h:MadeFn G f la b sc cl):MadeFn G' f la b sc cl:=by obtain ⟨fd,c',vs,n,t,g1,p1,p2,p3,p4,p5,p6,p7,p8,p9,g2,hv⟩:=h;exact ⟨fd,c',vs,n,t,e.fr g1,p1,p2,p3,p4,p5,p6,p7,p8,p9,e.fr g2,hv⟩
theorem sort_tail {a kS:Addr} {xs:List V} {items:List Value} {e1 e:Nat} {tk:Nat} {kA:Array Value} {st:SortSt} {P:PySem.Fin->Shared->Prop} (S:Sat w B os G s) (ha:G a=some (.mu (.lst xs))) (vr:VRs G xs items) (kp:∀ b o,b≠a->s.heap.get? b=some o->h.get? b=some o)
    (fr:∀ b o,s.heap.get? b=some o->b≠kS) (ha':h.get? a=some (seqObj "list" #[] e1)) (hkA:h.get? kS=some (seqObj "list" kA e)) (hka:kS≠a) (z1:kA.size<=sizeLine) (z2:items.length<=sizeLine) (hout:(arrOf st).map (·.2)=items.toArray) (hf:failedOf st=none)
    (q:∀ s',Sat w B os G s'->LKeep G s.heap s'.heap->P (.done (.ret .none)) s'):wpAny (Mo w) A (ksk_tail a false e1 (.ref kS) st) P E {s with heap:=h,toks:=tk}:=by
  have s3:=Heap.SameBut.update h kS (Obj.mapSeq fun Y=>(#[]:Array Value));unfold ksk_tail;refine wpAny_bind (listUpdate_at hkA rfl ?_ z1 (Nat.zero_le _));generalize h.update kS (Obj.mapSeq fun Y=>(#[]:Array Value))=h3 at *;have na:h3.get? a=some (seqObj "list" #[] e1):=(s3.2 a hka.symm).trans ha';have s4:=Heap.SameBut.update h3 a (Obj.mapSeq fun Y=>items.toArray);obtain ⟨c4,hc4⟩:∃ c4,(h3.update a (Obj.mapSeq fun Y=>items.toArray)).get? a=some (seqObj "list" items.toArray c4):=⟨_,get?_update_seq na fun Y=>items.toArray⟩
  refine wpAny_bind (wpAny_letGo ?_);refine wpAny_bind (seqEpoch_at na rfl ?_);refine wl (hout ..) ?_;refine wpAny_bind (listUpdate_at na rfl ?_ (Nat.zero_le _) (Nat.le_succ_of_le z2));refine wl (hf ..) ?_;simp only [bne_self_eq_false,Bool.false_eq_true,if_false];generalize h3.update a (Obj.mapSeq fun Y=>items.toArray)=h4 at *;have kpF:∀ b o,b≠a->s.heap.get? b=some o->h4.get? b=some o:=fun b o nb z=>(s4.2 b nb).trans ((s3.2 b (fr b o z)).trans (kp b o nb z));obtain ⟨S4,-⟩:=S.setK (v':=.lst xs) (s':={s with heap:=h4,toks:=tk}) ha kpF ⟨items,c4,hc4,vr⟩ rfl rfl;replace S4:=upd_id ha▸S4;exact wpAny_pure (q _ S4 fun b=>⟨fun l o z=>⟨o,kpF b o (fun y=>by rw [y,ha] at l;cases l) z,rfl⟩,fun v l o z=>kpF b o (fun y=>by rw [y,ha] at l;cases l) z⟩)
inductive KsI (s:Shared) (h1:Heap) (kS:Addr) (ks:List Int) (i:Nat):Shared->Prop
  | mk (h':Heap) (tk:Nat) (kA:Array Value) (e:Nat) (kp:∀ b o,h1.get? b=some o->h'.get? b=some o) (hkA:h'.get? kS=some (seqObj "list" kA e)) (hki:IntsAre kA.toList (ks.take i)):KsI s h1 kS ks i {s with heap:=h',toks:=tk}
theorem sort_key {j n:Nat} {h1:Heap} {kS:Addr} {ks:List Int} {s':Shared} {x:Value} {v0:V} {k:Int} (S:Sat w B os G {s with heap:=h1}) (hA:A.depth<=980) (hm:MadeFn G f la (.expr lb) sc []) (hk:Cw la lb sc=true) (r:VR G (.tup [v0,.int k]) x) (hkj:ks[j]?=some k) (hn:ks.length<=n) (hz:n<=1000000) (f0:h1.get? kS=none)
    (I:KsI s h1 kS ks j s'):wpAny (Mo w) A (call (.ref f) [x]) (fun y s2=>wpAny (Mo w) A (Builtin.List.listUpdate (.ref kS) (·.push y)) (fun Y s3=>KsI s h1 kS ks (j+1) s3) E s2) (fun Y Y=>False) s':=by
  obtain ⟨h',tk,kA,e,kp,hkA,hki⟩:=I;have hsz:kA.size<=1000000:=by have h1:=hki.length;rw [Array.length_toList,List.length_take] at h1;exact h1▸Nat.le_trans (Nat.min_le_right _ _) (Nat.le_trans hn hz)
  have hsz:kA.size<=sizeLine:=by rw [sizeLine_eq];exact AN hsz (by decide)
  have S':Sat w B os G {s with heap:=h',toks:=tk}:=S.keeps (s':={s with heap:=h',toks:=tk}) kp rfl rfl;refine wpAny_mono (lam_ok S' hA hm hk r) (fun y s2 hv=>?_) fun Y Y z=>z;obtain ⟨t,h2,tk2,k2⟩:=hv;have s2:=Heap.SameBut.update h2 kS (Obj.mapSeq (·.push (.int k t)));obtain ⟨c2,hc2⟩:∃ c2,(h2.update kS (Obj.mapSeq (·.push (.int k t)))).get? kS=some (seqObj "list" (kA.push (.int k t)) c2):=⟨_,get?_update_seq (k2 _ _ hkA) (·.push (.int k t))⟩
  refine listUpdate_at (k2 _ _ hkA) rfl ?_ hsz (Nat.le_trans (Nat.le_of_eq (Array.size_push ..)) (Nat.succ_le_succ hsz));refine ⟨_,tk2,kA.push (.int k t),c2,fun b o z=>?_,hc2,?_⟩
  . exact (s2.2 b fun y=>by rw [y,f0] at z;cases z).trans (k2 b o (kp b o z))
  . rw [Array.toList_push,List.take_add_one,hkj];exact ksk_snoc hki
theorem sort_ok {a:Addr} {xs:List V} {ks:List Int} {P:PySem.Fin->Shared->Prop} (S:Sat w B os G s) (hA:A.depth<=980) (hm:MadeFn G f la (.expr lb) sc []) (hk:Cw la lb sc=true) (ha:G a=some (.mu (.lst xs))) (h64:xs.length<64) (hks:BD xs=some ks) (hso:Bu ks=true)
    (q:∀ s',Sat w B os G s'->LKeep G s.heap s'.heap->P (.done (.ret .none)) s'):wpAny (Mo w) A (ksk_tree a (.ref f) false) P E s:=by
  obtain ⟨items,n,ho,vr⟩:=(S.cells _ _ ha).2;have hlen:=vr.length;obtain ⟨kl,kat⟩:=srt_at hks;have hz:items.length<=1000000:=Nat.le_trans (Nat.le_of_lt (hlen▸h64)) (by decide);have hkl:=kl.trans hlen;have sz:∀ k:Nat,k<=1000000->k<=sizeLine:=fun k h=>by rw [sizeLine_eq];exact AN ‹_› (by decide)
  obtain ⟨e1,ho1⟩:∃ e1,(s.heap.update a (Obj.mapSeq fun Y=>(#[]:Array Value))).get? a=some (seqObj "list" #[] e1):=⟨_,get?_update_seq ho fun Y=>#[]⟩
  have sb:=Heap.SameBut.update s.heap a (Obj.mapSeq fun Y=>(#[]:Array Value));obtain ⟨S1,x1⟩:=S.setK (v':=.lst []) (s':={s with heap:=s.heap.update a (Obj.mapSeq fun Y=>(#[]:Array Value))}) ha (fun b Y n z=>(sb.2 b n).trans z) ⟨[],e1,ho1,.nil⟩ rfl rfl;have m1:=hm.ext x1;have v1:=vr.ext x1;unfold ksk_tree;refine wpAny_bind (listItems_at ho rfl ?_);refine wpAny_bind (listUpdate_at ho rfl ?_ (by rw [List.size_toArray];exact sz _ hz) (Nat.zero_le _));generalize hh1:s.heap.update a (Obj.mapSeq fun Y=>(#[]:Array Value))=h1 at *;refine wpAny_bind (seqEpoch_at ho1 rfl ?_);refine wpAny_bind (wpAny_newTuple ?_ (by show items.length<=_;exact sz _ hz));refine wpAny_bind (wpAny_newList ?_ (Nat.zero_le _));refine wpAny_holding ?_;generalize hkS:(h1.push {cls:=.type "tuple",data:=.seq items.toArray.toList.toArray}).objs.size=kS;have f0:h1.get? kS=none:=Heap.get?_none_of_le (by rw [<- hkS,Heap.size_push];exact Nat.le_succ _);have keep0:∀ b o,h1.get? b=some o->((h1.push {cls:=.type "tuple",data:=.seq items.toArray.toList.toArray}).push {cls:=.type "list",data:=.seq ([]:List Value).toArray}).get? b=some o:=fun b o e=>Heap.get?_push_of_some _ (Heap.get?_push_of_some _ e);have kS0:((h1.push {cls:=.type "tuple",data:=.seq items.toArray.toList.toArray}).push {cls:=.type "list",data:=.seq ([]:List Value).toArray}).get? kS=some (seqObj "list" #[] 0):=by rw [<- hkS];exact Heap.get?_push_size _ rfl
  generalize (h1.push {cls:=.type "tuple",data:=.seq items.toArray.toList.toArray}).push {cls:=.type "list",data:=.seq ([]:List Value).toArray}=h0 at keep0 kS0 ⊢;unfold ksk_rest;refine wpAny_bind (wpAny_rule ?_);refine wr (Array.forIn_toList ..) ?_;refine wpAny_bind (ksk_fold (KsI s h1 kS ks) _ 0 _ ⟨_,s.toks,#[],0,keep0,kS0,by simpa using IntsAre.nil⟩ ?step ?done)
  case step =>
    intro j x s' hx I;rw [Nat.zero_add] at I ⊢;have hj:j<items.length:=(List.getElem?_eq_some_iff.mp hx).1;obtain ⟨k,hkj⟩:∃ k,ks[j]?=some k:=⟨_,List.getElem?_eq_getElem (hkl.symm▸hj)⟩
    obtain ⟨y,hyj⟩:∃ y,xs[j]?=some y:=⟨_,List.getElem?_eq_getElem (r_es ‹_› ‹_›)⟩
    obtain ⟨x2,q1,q2⟩:=v1.get hyj;cases (show items[j]?=some x from hx).symm.trans q1;obtain ⟨v0,rfl⟩:=kat j y k hyj hkj;refine wpAny_bind (wpAny_attempt (wpAny_mono (sort_key (E:=E) S1 hA m1 hk q2 hkj (Nat.le_of_eq hkl) hz f0 I) (fun v s2 hv=>?_) fun Y Y z=>z.elim));exact wpAny_bind (wpAny_mono hv (fun Y s3 h3=>wpAny_pure ⟨rfl,h3⟩) fun Y Y e=>e)
  case done =>
    rintro s' ⟨h',tk,kA,e,kp,hkA,hki⟩;have hki:IntsAre kA.toList ks:=by have e3:ks.take (0+items.toArray.toList.length)=ks:=List.take_of_length_le (Nat.le_of_eq (hkl.trans (Nat.zero_add _).symm));rw [e3] at hki;exact hki
    have ksz:kA.size=items.length:=hki.length.trans hkl;have zsz:(kA.zip items.toArray).size=items.length:=by rw [Array.size_zip,ksz,List.size_toArray,Nat.min_self]
    refine wpAny_bind (listItems_at hkA rfl ?_);have hka:kS≠a:=fun y=>by rw [y,ho1] at f0;cases f0
    have tail:∀ st:SortSt,(arrOf st).Perm (kA.zip items.toArray)->SortedTo (arrOf st) (arrOf st).size->failedOf st=none->wpAny (Mo w) A (ksk_tail a false e1 (.ref kS) st) P E {s with heap:=h',toks:=tk}:=fun st hp hs hf=>by
      have hout:(arrOf st).map (·.2)=items.toArray:=by have:=out_same hkl (sortedB_pw hso) (ksk_out (b:=false) hki hp hs);rw [if_neg (by decide)] at this;refine wr (this ..) ?_;exact wl (Array.toArray_toList ..) rfl
      refine sort_tail S ha vr (fun b o nb z=>kp b o ((sb.2 b nb).trans z)) (fun b o z y=>?_) (kp _ _ ho1) hkA hka (sz _ (r_el ‹_› ‹_› (by decide))) (sz _ hz) hout hf q;rw [y] at z;rw [sb.2 kS hka,z] at f0;cases f0
    unfold ksk_end;dsimp only;simp only [Bool.false_eq_true,if_false];by_cases h2:items.toArray.size<2
    . refine wl (if_pos h2 ..) ?_;refine wl (if_pos h2 ..) ?_;refine wpAny_bind (wpAny_pure ?_);refine wl (StateT.run_pure ..) ?_;refine wpAny_bind (wpAny_pure ?_);refine tail (SortSt.mk' general' (kA.zip items.toArray) #[] 7 none) (Array.Perm.refl _) (fun i j hij hj=>?_) rfl;have hj2:j<(kA.zip items.toArray).size:=hj;replace hj2:=zsz▸hj2;replace h2:=List.size_toArray▸h2;rw [Nat.le_antisymm hij (Nat.le_trans (Nat.le_of_lt_succ (Nat.lt_of_lt_of_le hj2 (Nat.le_of_lt_succ h2))) (Nat.zero_le i))];exact Int.le_refl _
    . refine wl (if_neg h2 ..) ?_;refine wl (if_neg h2 ..) ?_;replace h2:=List.size_toArray▸h2;refine wl (ksk_kind hki (by omega) ..) ?_;refine wpAny_bind (wpAny_pure ?_);refine wpAny_bind (wpAny_mono (wpS_sortRuns (a₀:=kA.zip items.toArray) (st:=SortSt.mk' oneType' (kA.zip items.toArray) #[] 7 none)
        (Q:=fun Y st'=>(arrOf st').Perm (kA.zip items.toArray)/\failedOf st'=none/\SortedTo (arrOf st') (kA.zip items.toArray).size)
        (ksk_intKeys hki) ⟨Array.Perm.refl _,rfl,rfl,rfl⟩ (by omega) (by omega) fun st' a1 a2 a3=>⟨a1,a2,a3⟩) ?_ fun Y Y e=>e)
      rintro ⟨⟨⟩,st'⟩ s' ⟨rfl,hp,hf,hs⟩;exact tail st' hp (by rw [hp.size_eq];exact hs) hf
end
theorem AU {st:Stmt} (hb:∀ c,Al c st = .bad):PS st:=by intro w B os A d env c cur ex N R E m H ok h;replace h:=hb c▸h;exact h.elim
section
variable {w:World} {B:Heap} {os:OsState} {A:Around} {env:Env} {c:Sc} {G G':Gh} {s s':Shared} {E:Value->Shared->Prop} {P:Addr}
theorem lkeepT (hP:G P=some .tb) {h h':Heap} (k:∀ b o,b≠P->h.get? b=some o->h'.get? b=some o):LKeep G h h':=fun a =>
  ⟨fun l o e=>⟨o,k a o (fun q=>by rw [q,hP] at l;cases l) e,rfl⟩,fun v l o e=>k a o (fun q=>by rw [q,hP] at l;cases l) e⟩
theorem make_in {d:Nat} {m:Lm} {H:Hp} {scope:Scope} {name qual:Str} {params:Arguments} {body:FuncBody} {pos:Pos} {fl:Nat} {Q:Value->Shared->Prop} (ok:SOk c env A) (ht:tabSc c.sc=true) (hf:freesIn c.sc scope=true) (a:At w B os A d env c.ls m H G s)
    (k:∀ G' f s',Ext G G'->LKeep G s.heap s'.heap->At w B os A d env c.ls m H G' s'->(∀ a v,G a=some (.mu v)->G' a=some (.mu v))->(∃ cl,MadeFn G' f params body scope cl/\((∀ q∈scope.names,q.2 = .local)->cl=[]))->Q (.ref f) s') :
    wpAny (Mo w) A (makeFunction name qual params body scope env [] [] [] pos fl) Q E s:=by
  obtain ⟨q,hq,hc⟩:=ok.cd ht;have hcl:closureFor scope env=pure (clo env scope.names []):=closure_is fun y hy hyf=>by
    have:=List.all_eq_true.mp hf y hy;obtain ⟨n,k⟩:=y;cases (show k=NameKind.free from hyf);have h2:(c.sc.names.lookup n == some .cell)=true:=by simpa using this
    exact (ok.ok.cell n (beq_iff_eq.mp h2)).2
  have gP:=(a.sat.hd hq).2;refine mkfn_ok a.sat hq hc a.loc.globs hcl fun G' f s' e S' kp mu md=>?_;have lk:=lkeepT gP kp;refine k G' f s' e lk (a.step e S' lk fun b v z=>mu b v (a.le b v z)) mu ⟨_,md,fun hloc=>?_⟩;have:∀ (l:List (Str×NameKind)),(∀ q∈l,q.2 = .local)->clo env l []=[]:=fun l hl=>by
    induction l with
    | nil=>rfl
    | cons y r ih=>obtain ⟨n,k⟩:=y;cases (show k=NameKind.local from hl _ (.head _));exact ih fun q hq=>hl q (.tail _ hq)
  exact this _ hloc
end
theorem compS_def {c:Sc} {n bn:Str} {as:Arguments} {b:List Stmt} {sc:Scope} {p:Pos}:Al c (.FunctionDef n as b [] none [] sc none bn p)=if (bn == n) && isPlainArgs as && freesIn c.sc sc && tabSc c.sc then (match c.loc? n with | some i=>.dfn i | none=>.bad) else .bad:=rfl
theorem ann_nil {env:Env}:∀ {l:List Arg},(l.all fun a=>a.annotation.isNone)=true->annotationsOf l env=[]
  | [],_=>rfl
  | ⟨n,none,t⟩::r,h=>show annotationsOf r env=[] from ann_nil (by simpa using h)
  | ⟨n,some e,t⟩::r,h=>by simp at h
set_option tactic.hygienic true in
theorem ps_def {n:Str} {as:Arguments} {b:List Stmt} {ds:List PySem.Expr} {r:Option PySem.Expr} {tp:List TypeParam} {sc:Scope} {ts:Option Scope} {bn:Str} {p:Pos}:PS (.FunctionDef n as b ds r tp sc ts bn p):=by
  match ds,r,tp,ts with
  | _::_,_,_,_=>exact AU fun c=>rfl
  | [],some _,_,_=>exact AU fun c=>rfl
  | [],none,_::_,_=>exact AU fun c=>rfl
  | [],none,[],some _=>exact AU fun c=>rfl
  | [],none,[],none =>
    intro w B os A d env c cur ex N R E m H ok h G s a hl;replace h:=compS_def▸h;split at h
    . rename_i hq;simp only [Bool.and_eq_true] at hq;obtain ⟨⟨⟨h1,h2⟩,h3⟩,h4⟩:=hq;split at h
      . rename_i i hi;cases (beq_iff_eq.mp h1);have h:N (m.set i (some .any)) H:=h;obtain ⟨h2,hall⟩:=Bool.and_eq_true_iff.mp h2;refine wl (bare_inv h2 ..) ?_;generalize as.args=l at hall;refine wl (exec_def ..) ?_;have h0:annTrees ⟨[],l,none,[],[],none,[]⟩ none env=[]:=by show annotationsOf (l++[]++[]++[]++[]) env++[]=[];simp only [List.append_nil];exact ann_nil hall
        refine wl (h0 ..) ?_;refine wpAny_bind (wpAny_standAt (wpAny_bind (wpAny_holding ?_)));refine wpAny_bind (m:=evalAll []) (wpAny_pure ?_);refine wpAny_bind (wpAny_holding (m:=evalAllOpt []) (wpAny_pure ?_));refine wpAny_holding ?_;refine wpAny_bind (m:=evalNamed []) (wpAny_pure ?_);refine make_in ok h4 h3 a fun G' f s' e lk a' mu md=>?_;refine wpAny_bind (wpAny_standAt (wpAny_bind (wpAny_bindName ?_)));exact SW.store ok hi a' (v:=.any) trivial fun s2 l2 a2=>wpAny_pure (a2.post e (lk.b.trans e l2) h)
      . exact h.elim
    . exact h.elim
section
variable {w:World} {B:Heap} {os:OsState} {A:Around} {d:Nat} {env:Env} {c:Sc} {G G':Gh} {s s':Shared} {E:Value->Shared->Prop}
theorem meth_openK {o:PySem.Expr} {name k:Str} {apos pos kp:Pos} {v:PySem.Expr} (h0:Ad o=true) (hline:(apos.endLine == pos.line)=true) {Q:Value->Shared->Prop}
    (h:∀ pl,wpAny (Mo w) A (eval o env) (fun ov s₁=>wpAny (Mo w) A (getMethod ov name pl) (fun fx s₂=>wpAny (Mo w) A (callWith pos fx.1 fx.2 [] (backToKw pos (keywordEach [⟨some k,v,kp⟩] env))) Q E s₂) E s₁) E s) :
    wpAny (Mo w) A (eval (.Call (.Attribute o name apos) [] [⟨some k,v,kp⟩] pos) env) Q E s:=by
  refine wl (arm_eval_Call ..) ?_;refine wl (base_ok h0 ..) ?_;refine wpAny_bind (wpAny_mono (h (do return (<- importBound o env).getD true)) (fun ov s₁ h₁=>wpAny_bind (wpAny_standAt ?_)) fun Y Y e=>e);have hform:methodCallForm (([]:List PySem.Expr).length+[(⟨some k,v,kp⟩:Keyword)].length) (backTo pos (starEach [] env)) (backToKw pos (keywordEach [⟨some k,v,kp⟩] env))=true:=rfl;have hpos:methodCallPos true o env apos pos=pure pos:=by unfold methodCallPos;simp [hline]
  unfold methodCall;refine wl (hform ..) ?_;refine wpAny_bind (wpAny_holding (wpAny_mono h₁ (fun fx s₂ h₂=>?_) fun Y Y e=>e));exact wpAny_bind (wpAny_of_eq hpos h₂)
theorem key1_free {la:Arguments} {lb:PySem.Expr} {sc sc':Scope} (h:Cw la lb sc=true):defaultsOf la env=([],[])/\freesIn sc' sc=true/\∀ q∈sc.names,q.2 = .local:=by obtain ⟨k1,k2,k3,k4,k5,k6⟩:=key1_inv h;have hl:=fun (q:Str×NameKind) hq=>(beq_iff_eq (a:=q.2)).mp (List.all_eq_true.mp k6 q hq);refine ⟨rfl,List.all_eq_true.mpr fun q hq=>?_,hl⟩;obtain ⟨n,k⟩:=q;cases (show k=NameKind.local from hl _ hq);rfl
end
theorem compS_srt {c:Sc} {x n k:Str} {xp ap lp kp cp p:Pos} {la:Arguments} {lb:PySem.Expr} {sc:Scope}:Al c (.Expr (.Call (.Attribute (.Name x xp) n ap) [] [⟨some k,.Lambda la lb sc lp,kp⟩] cp) p) =
    if (n == ("sort" : Str)) && (k == ("key" : Str)) && Cw la lb sc && (ap.endLine == cp.line) && tabSc c.sc then .srt (comp c (.Name x xp)) else .bad:=rfl
theorem ps_srt {x:Str} {xp ap lp kp cp p:Pos} {n k:Str} {la:Arguments} {lb:PySem.Expr} {sc:Scope}:PS (.Expr (.Call (.Attribute (.Name x xp) n ap) [] [⟨some k,.Lambda la lb sc lp,kp⟩] cp) p):=by
  intro w B os A d env c cur ex N R E m H ok h G s a hl;rw [compS_srt] at h;split at h
  . rename_i hq;simp only [Bool.and_eq_true] at hq;obtain ⟨⟨⟨⟨h1,h2⟩,h3⟩,h4⟩,h5⟩:=hq;cases beq_iff_eq.mp h1;cases beq_iff_eq.mp h2;obtain ⟨hd,h⟩:=h;obtain ⟨k1,k2,k3⟩:=key1_free (env:=env) (sc':=c.sc) h3;refine wpAny_Expr_any ?_ a.int (BP rfl);refine meth_openK rfl h4 fun pl=>?_;refine WG.on (pe_name x xp ok.ok h G s a) (fun G1 b1 H1 z s1 e1 S1 l1 le1 r1 q1=>?_) fun Y Y p=>SPostX.of a p;have a1:=a.step e1 S1 l1 le1;obtain ⟨ra,rfl,q2⟩:=Dx q1;obtain ⟨c0,hx,q3⟩:=AK q2;obtain ⟨xs,rfl,h64,q4⟩:=BZ q3;obtain ⟨ks,hks,hso,hN⟩:=AK q4
    . cases (show z = .ref ra from r1)
      . ·
          have hT:∀ {G' s'},Sat w B os G' s'->G' ra=some (.mu (.lst xs))->s'.TypeIs (.ref ra) "list" := fun S' z=>by obtain ⟨items,n,ho,_⟩:=(S'.cells _ _ z).2;exact ⟨_,ho,rfl⟩
          have g1:=le1 _ _ hx;refine getMethod_builtin (hT S1 g1) PySem.F.plainAttrs_list PySem.F.slot_list_sort PySem.F.type_list_sort (fun a e=>by
            cases e;obtain ⟨items,n,ho,_⟩:=(S1.cells _ _ g1).2;exact ⟨_,ho,rfl⟩) ?_
          refine callWith_builtin_kwB rfl rfl (evalArgs_kw_nil rfl ?_);refine kws_cons (kla_eval k1 (make_in ok h5 k2 a1 fun G2 f s2 e2 l2 a2 mu2 md=>?_));obtain ⟨cl,md,hcl⟩:=md;cases hcl k3;refine kws_nil ?_;have g2:=mu2 _ _ g1;refine wpAny_call_entry_kw PySem.F.slot_list_sort (hT a2.sat g2) PySem.F.entry_list_sort ?_ (ksk_l1 _ _);show wpAny (Mo w) A.in1 (Builtin.«list.sort» ⟨[.ref ra],[(Str.ofString "key",.ref f)]⟩) _ _ _;rw [ksk_t1];have dp:=a2.cx.depth;refine sort_ok a2.sat (by rw [Around.in1_depth];exact Nat.le_trans (Nat.le_sub_of_add_le (Nat.le_trans (Nat.add_le_add_left (Nat.mul_le_mul_left 8 (Nat.le_of_lt (by assumption:2<d))) _) dp)) (by decide)) md h3 g2 h64 hks hso fun s3 S3 l3=>⟨_,rfl,?_⟩
          have a3:At w B os A d env c.ls m H1 G2 s3:=⟨S3,a2.cx,a2.loc.step (.refl _) l3,a2.le⟩
          exact a3.post (e1.trans e2) ((l1.trans e1 l2).trans (e1.trans e2) l3).b hN
  . exact h.elim
section
variable {w:World} {B:Heap} {os:OsState} {A A':Around} {d:Nat} {env:Env} {c:Sc} {cur:Option Str} {ex:List Addr} {N:Lm->Hp->Prop} {R:KV} {E:KS} {m:Lm} {H:Hp} {G:Gh} {s s':Shared} {h:Heap}
inductive Own3 (w:World) (B:Heap) (os:OsState) (A:Around) (env:Env) (ls:List Str) (m:Lm) (H:Hp) (G:Gh) (ea:Addr) (msg:Str) (s:Shared):Prop
  | mk (G7:Gh) (ex:List Addr) (e:Ext G G7) (a:At w B os (A.mark (some (.ref ea))) 0 env ls m H G7 s) (hl:Hld w B (A.mark (some (.ref ea))) ex G7 (some msg)) (eG:∀ z cc,G z=some cc->mns G7 ex z=some cc)
theorem cx_mark {x:Option Value} (h:Cx A 0 G):Cx (A.mark x) 0 G:=⟨fun z=>absurd z (Nat.lt_irrefl _),h.depth,h.units,h.frames⟩
theorem le_upd {cc:Cell} {z:Addr} (l:Le H G) (h:G z=none):Le H (Mine.upd G z cc):=fun b v hb=>(AC fun q=>by rw [q] at hb;have:=l z v hb;rw [h] at this;cases this).trans (l b v hb)
theorem own3 {ls:List Str} {ea:Addr} {msg:Str} {fl:Value->Prop} (S:Sat w B os G s) (cx:Cx A 0 G) (lo:Loc env ls m G s.heap) (le:Le H G) (r:RaisedX False fl w B G (.ref ea) msg s.heap):Own3 w B os A env ls m H G ea msg s:=by
  obtain ⟨ea',dx,oe,vs,t,hea,f1,f2,f3,f4,f5,f6,f7,f8,f9,f10,f11,f12⟩:=r;cases hea;obtain ⟨fl,_⟩ | ⟨T,oT,ts,f,q1,q2,q3,q4,q5,q6,q7,q8,_⟩:=f12
  . exact fl.elim
  obtain ⟨od,oes,oep,hod,hodd,hkk,hzz,hmm⟩:=id f11;obtain ⟨S5,e5⟩:=S.add (cl:=.rw oe) f1 f2 f3;have n2:Mine.upd G ea (.rw oe) dx=none:=(AC f10).trans f8;have c1:Mine.upd G ea (.rw oe) ea=some (.rw oe):=AA _ _ _;have n3:Mine.upd G ea (.rw oe) T=none:=(AC q2).trans q4;have le5:=le_upd (cc:=.rw oe) le f1;have x5:∀ z cc,G z=some cc->z≠ea/\Mine.upd G ea (.rw oe) z=some cc:=fun z cc h=>by
    have z1:z≠ea:=fun q=>by rw [q,f1] at h;cases h
    exact ⟨z1,(AC z1).trans h⟩
  generalize Mine.upd G ea (.rw oe)=G5 at *;obtain ⟨S6,e6⟩:=S5.add (cl:=.rw od) n2 f9 hod;have n4:Mine.upd G5 dx (.rw od) T=none:=(AC q3).trans n3;have c2:Mine.upd G5 dx (.rw od) dx=some (.rw od):=AA _ _ _;have c1':Mine.upd G5 dx (.rw od) ea=some (.rw oe):=(AC (Ne.symm f10)).trans c1;have le6:=le_upd (cc:=.rw od) le5 n2;have x6:∀ z cc,G z=some cc->z≠ea/\z≠dx/\Mine.upd G5 dx (.rw od) z=some cc:=fun z cc h=>by
    have z1:z≠dx:=fun q=>by rw [q,f8] at h;cases h
    exact ⟨(x5 z cc h).1,z1,(AC z1).trans (x5 z cc h).2⟩
  generalize Mine.upd G5 dx (.rw od)=G6 at *;obtain ⟨S7,e7⟩:=S6.add (cl:=.rw oT) n4 q5 q6;have e57:=(e5.trans e6).trans e7;refine ⟨_,[ea,dx,T],e57,⟨S7,(cx_mark cx).ext e57,lo.step e57 (.refl _ _),le_upd le6 n4⟩,
    ⟨ea,dx,T,oe,od,oT,vs,ts,t,f,rfl,rfl,(AC (Ne.symm q2)).trans c1',(AC (Ne.symm q3)).trans c2,AA _ _ _,f10,q2,q3,f4,f5,f6,f7,q1,fun hh hx=>⟨od,oes,oep,hx,hodd,hkk,hzz,hmm⟩,⟨oes,oep,hodd⟩,q7,q8⟩,fun z cc h=>?_⟩
  obtain ⟨z1,z2,z4⟩:=x6 z cc h;have z3:z≠T:=fun q=>by rw [q,q4] at h;cases h
  unfold Mine.mns;rw [if_neg (by simp [z1,z2,z3]),AC z3];exact z4
inductive Own2 (w:World) (B:Heap) (os:OsState) (A:Around) (env:Env) (ls:List Str) (m:Lm) (H:Hp) (G:Gh) (ea:Addr) (v:V) (s:Shared):Prop
  | mk (G6:Gh) (e:Ext G G6) (a:At w B os (A.mark (some (.ref ea))) 0 env ls m H G6 s) (r:VR G6 v (.ref ea))
theorem own2 {ls:List Str} {ea:Addr} {msg:Str} {nt:Prop} {fl:Value->Prop} (S:Sat w B os G s) (cx:Cx A 0 G) (lo:Loc env ls m G s.heap) (le:Le H G) (r:RaisedX nt fl w B G (.ref ea) msg s.heap):Own2 w B os A env ls m H G ea (.obj CR [(20,.str msg)]) s:=by
  obtain ⟨ea',dx,oe,vs,t,hea,f1,f2,f3,f4,f5,f6,f7,f8,f9,f10,f11,-⟩:=r;cases hea;obtain ⟨od,oes,oep,hod,hodd,hkk,hzz,hmm⟩:=id f11;obtain ⟨S5,e5⟩:=S.add (cl:=.hid ea) f8 f9 (by show (s.heap.get? dx).isSome=true;rw [hod];rfl);have n2:Mine.upd G dx (.hid ea) ea=none:=(AC (Ne.symm f10)).trans f1;have c2:Mine.upd G dx (.hid ea) dx=some (.hid ea):=AA _ _ _;have le5:=le_upd (cc:=.hid ea) le f8;generalize Mine.upd G dx (.hid ea)=G5 at *;have hor:∀ G',Ext G5 G'->OR w G' s.heap ea (.obj CR [(20,.str msg)]):=fun G' eG'=>by
    refine ⟨dx,⟨by decide,oe,f3,f4,f5,by unfold notCls;rw [f6]⟩,_,eG'.hid c2,f11,⟨(by decide:1<=900),fun k v hk=>?_⟩,fun k v hk=>?_,fun x hx=>?_⟩
    . simp only [at?,List.find?_cons,List.find?_nil] at hk;split at hk
      . rename_i q;have:20=k:=by simpa using q
        subst this;decide
      . cases hk
    . simp only [at?,List.find?_cons,List.find?_nil] at hk;split at hk
      . rename_i q;have:20=k:=by simpa using q
        subst this;cases hk;exact ⟨_,if_pos rfl,_,rfl⟩
      . cases hk
    . have:=hx 20 (.str msg) (by simp [at?]);exact if_neg fun z=>this z.symm
  obtain ⟨S6,e6⟩:=S5.add (cl:=.fz (.obj CR [(20,.str msg)])) n2 f2 (hor _ (.upd_fresh n2));have e56:=e5.trans e6;exact ⟨_,e56,⟨S6,(cx_mark cx).ext e56,lo.step e56 (.refl _ _),le_upd le5 n2⟩,⟨ea,rfl,AA _ _ _⟩⟩
theorem try_core {r:Str} {np hp p:Pos} {n:Option Str} {b:List Stmt} {b0:Stmt} {hb:List Stmt} {ni:Option Nat} (ihb:PB b) (ihh:PB (b0::hb)) (ok:SOk c env A) (hf:c.fn r = .glb (.ref CR)) (hn:match n,ni with | none,none=>True | some y,some i=>c.loc? y=some i | _,_=>False)
    (h:vcS d cur (.tri (Ac c b) ni (Ac c (b0::hb))) N R E m H):SW w B os A d env c.ls ex cur (exec (.Try b [.ExceptHandler (some (.Name r np)) n (b0::hb) hp] [] [] p) env) N R E m H:=by
  intro G s a hl;dsimp only [S_tri] at h;obtain ⟨hd,rfl,h⟩:=h;have hex:ex=[]:=hl;subst hex;have ab:At w B os A (d - 1) env c.ls m H G s:=⟨a.sat,a.cx.le (Nat.sub_le _ _),a.loc,a.le⟩
  refine wpAny_Try_except (wpAny_mono (ihb ok h G s ab hl) (fun f s1 p1=>?_) fun x s1 p1=>?_)
  . cases f with
    | next=>refine wpAny_execs_nil ?_;exact p1
    | ret v=>exact p1
    | _=>exact p1.elim
  . obtain ⟨G1,msg,m1,H1,e1,S1,l1,lo1,le1,r1,cx1,k1⟩:=p1;rw [mns_nil] at e1 l1;obtain ⟨outer,L,hfr,hfm⟩:=ok.fr;refine note_ok hfr hfm cx1 S1 (r1.mono id fun v hv=>?_) fun h2 x2 r2=>?_
    . rcases hv with hv | ⟨L',hL,hv⟩
      . exact .inl hv
      . rw [hfm] at hL;cases hL;exact .inr hv
    have S2:Sat w B os G1 {s1 with heap:=h2}:=S1.xstep x2 rfl rfl;refine Dq (fr:=none) S2 r2 fun h3 x3 r3=>?_;have S3:Sat w B os G1 {s1 with heap:=h3}:=S2.xstep (s':={s1 with heap:=h3}) x3 rfl rfl;have lk3:=(x2.trans x3).lkeep;have lo3:Loc env c.ls m1 G1 h3:=lo1.step (.refl G1) lk3;have l3:LKb env.locals G s.heap h3:=l1.trans e1 lk3.b;obtain ⟨ea,dx,oe,vs,t,rfl,g1,g2,g3,g4,-⟩:=id r3;have hfn:vcE d (c.fn r) (fun v Y=>v = .ref CR) (fun Y Y=>False) m H:=by rw [hf];dsimp only [E_glb]
    obtain ⟨v,hd0,hg,hv,rfl⟩:=fn_glob hfn;have hv':gl r=some (.ref CR):=ok.ok.gl▸hv;obtain ⟨nm,qn,ns,bs,hdc,sn,sub,abs,col,dd,k0,k1',k2,k3,k5,hC⟩:=exc_obj w.params;have okM:SOk c env (A.mark (some (.ref ea))):=⟨ok.ok,ok.nd,⟨outer,L,hfr,hfm⟩,ok.cd⟩
    have cxB:∀ G,Cx (A.mark (some (.ref ea))) 0 G->Cx A 0 G:=fun G h=>⟨fun z=>absurd z (Nat.lt_irrefl _),h.depth,h.units,h.frames⟩
    refine wpAny_handleBy_cons (codeAny_handlers_test (glob_ok S3 lo3.globs lo3.kind (BO ok.ok hg) hd0 hv' fun y ry=>?_)) (by intro q;cases q);cases (show y = .ref CR from ry);refine wpAny_excMatches_sub_self (S3.kf _ _ hC) g3 g4 (by decide) ?_;dsimp only;refine wl (if_pos rfl ..) ?_
    match n,ni,hn with
    | none,none,_ =>
      dsimp only at k1;refine codeAny_handlers_suite (Dq (fr:=none) S3 r3 fun h4 x4 r4=>?_);have S4:Sat w B os G1 {s1 with heap:=h4}:=S3.xstep (s':={s1 with heap:=h4}) x4 rfl rfl;have lk4:=(x2.trans (x3.trans x4)).lkeep;have lo4:Loc env c.ls m1 G1 h4:=lo1.step (.refl G1) lk4;have l4:LKb env.locals G s.heap h4:=l1.trans e1 lk4.b;obtain ⟨G7,ex,e57,a7,hl7,eX⟩:=own3 (A:=A) S4 cx1 lo4 le1 r4;have eG:Ext G (mns G7 ex):=fun z cc hz nz=>eX z cc (e1 z cc hz nz);refine wpAny_mono (ihh okM k1 _ _ a7 hl7) (fun f s8 p8=>?_) fun x s8 p8=>?_
      . have:=p8.pre (e1.trans e57) l4;cases f with
        | next=>exact this
        | ret v=>exact this
        | _=>exact this.elim
      . refine SPostX.noted2 okM cxB ?_;obtain ⟨G8,msg8,m8,H8,e8,S8,l8,lo8,le8,r8,cx8,k8⟩:=p8;exact ⟨G8,msg8,m8,H8,by rw [mns_nil];exact eG.trans e8,S8,by rw [mns_nil];exact l4.trans eG l8,lo8,le8,r8,cx8,k8⟩
    | some y,some i,hn =>
      dsimp only at k1;refine codeAny_handlers_suite_as (Dq (fr:=none) S3 r3 fun h4 x4 r4=>?_);have S4:Sat w B os G1 {s1 with heap:=h4}:=S3.xstep (s':={s1 with heap:=h4}) x4 rfl rfl;have lk4:=(x2.trans (x3.trans x4)).lkeep;have lo4:Loc env c.ls m1 G1 h4:=lo1.step (.refl G1) lk4;have l4:LKb env.locals G s.heap h4:=l1.trans e1 lk4.b;obtain ⟨G6,e56,a6,rv⟩:=own2 (A:=A) S4 cx1 lo4 le1 r4;refine SW.store okM hn a6 (v:=.obj CR [(20,.str msg)]) rv fun s7 l7 a7=>?_;have l47:=l4.trans (e1.trans e56) l7;refine wpAny_mono (ihh (cur:=none) (ex:=[]) okM k1 _ s7 a7 rfl) (fun f s8 p8=>?_) fun x s8 p8=>?_
      . have p8':=p8.pre (e1.trans e56) l47;dsimp only;cases f with
        | next=>obtain ⟨G8,m8,H8,e8,S8,l8,lo8,le8,n8⟩:=p8';exact goes_ok ok hn S8 lo8 fun s9 S9 l9 lo9=>⟨G8,_,H8,e8,S9,l8.trans e8 l9,lo9,le8,n8⟩
        | ret v=>obtain ⟨G8,b8,H8,e8,S8,l8,le8,r8,n8⟩:=p8;exact n8.elim
        | _=>exact p8.elim
      . obtain ⟨_,_,_,_,_,_,_,_,_,_,_,k8⟩:=p8;exact k8.elim
end
set_option tactic.hygienic true in
theorem ps_try {b:List Stmt} {r:Str} {np hp p:Pos} {n:Option Str} {hb:List Stmt} (ihb:PB b) (ihh:PB hb):PS (.Try b [.ExceptHandler (some (.Name r np)) n hb hp] [] [] p):=by
  intro w B os A d env c cur ex N R E m H ok h;replace h:=compS_try▸h;split at h
  . exact h.elim
  . rename_i hne;cases hb with
    | nil=>simp at hne
    | cons b0 hb =>
      split at h
      . rename_i x hx;split at h
        . rename_i hxc;have hx':c.fn r = .glb (.ref CR):=by rw [hx,beq_iff_eq.mp hxc]
          split at h
          . exact try_core ihb ihh ok hx' trivial h
          . rename_i y;split at h
            . rename_i i hi;exact try_core (n:=some y) (ni:=some i) ihb ihh ok hx' hi h
            . exact h.elim
        . exact h.elim
      . exact h.elim
set_option tactic.hygienic true in
theorem ps_rse {r:Str} {np cpos p:Pos} {e:PySem.Expr} (ih:PE e):PS (.Raise (some (.Call (.Name r np) [e] [] cpos)) none p):=by
  intro w B os A d env c cur ex N R E m H ok h;rw [compS_rse] at h;split at h
  . rename_i x hx;split at h
    . rename_i hxc;exact rse_core ih ok (by rw [hx,beq_iff_eq.mp hxc]) h
    . exact h.elim
  . exact h.elim
theorem Aa (e:PySem.Expr):PE e:=(pe_all (sizeOf e+1) e (Nat.lt_succ_self _)).1
theorem pt_any (e:PySem.Expr):PT e:=(pe_all (sizeOf e+1) e (Nat.lt_succ_self _)).2
theorem pb_of:∀ {b:List Stmt},(∀ s∈b,PS s)->PB b
  | [],_=>pb_nil
  | s::r,h=>pb_cons (h s (.head _)) (pb_of fun t ht=>h t (.tail _ ht))
theorem ps_e {e:PySem.Expr} {p:Pos} (h:∀ c,Al c (.Expr e p)=if Ax e then .bad else .exp (comp c e)):PS (.Expr e p):=ps_exp (Aa e) h
section
variable {x n k y:Str} {xp ap kp cp p q:Pos} {v o f e e1 e2:PySem.Expr} {as r:List PySem.Expr} {ks:List Keyword}
theorem ps_expr4:PS (.Expr (.Call (.Attribute (.Name x xp) n ap) [] [⟨some k,v,kp⟩] cp) p):=by
  cases v with
  | Lambda la lb sc lp=>exact ps_srt
  | _=>exact ps_e fun Y=>rfl
theorem ps_expr3:PS (.Expr (.Call (.Attribute (.Name x xp) n ap) as ks cp) p) :=
  match as,ks with
  | [],[⟨some k,v,kp⟩]=>ps_expr4
  | [],[⟨none,v,kp⟩]=>ps_e fun Y=>rfl
  | [],[]=>ps_e fun Y=>rfl
  | [],⟨none,v,kp⟩::_::_=>ps_e fun Y=>rfl
  | [],⟨some k,v,kp⟩::_::_=>ps_e fun Y=>by cases v<;>rfl
  | _::_,_=>ps_e fun Y=>rfl
theorem ps_expr2:PS (.Expr (.Call (.Attribute o n ap) as ks cp) p):=by
  cases o with
  | Name x xp=>exact ps_expr3
  | _=>exact ps_e fun Y=>rfl
theorem ps_expr1:PS (.Expr (.Call f as ks cp) p):=by
  cases f with
  | Attribute o n ap=>exact ps_expr2
  | _=>exact ps_e fun Y=>rfl
theorem ps_expr:PS (.Expr e p):=by
  cases e with
  | Call f as ks q=>exact ps_expr1
  | _=>exact ps_e fun Y=>rfl
theorem ps_asg2:PS (.Assign (e1::e2::r) e p):=AU fun c=>by cases e1<;>rfl
theorem ps_del2:PS (.Delete (e1::e2::r) p):=AU fun c=>by cases e1<;>rfl
theorem ps_lc {gens:List Comprehension} {sc:Scope}:PS (.Assign [.Name x xp] (.ListComp e gens sc q) p) :=
  match gens with
  | [⟨t,it,ifs,a0⟩]=>by
    cases t with
    | Name y px=>exact ps_asgc (Aa _) (fun Y Y=>pt_any _) (Aa _) fun Y a Y Y=>Aa a
    | _=>exact ps_asgn (Aa _) fun Y=>rfl
  | []=>ps_asgn (Aa _) fun Y=>rfl
  | ⟨t,_,_,_⟩::_::_=>ps_asgn (Aa _) fun Y=>by cases t<;>rfl
theorem ps_asg:PS (.Assign [.Name x xp] e p):=by
  cases e with
  | ListComp elt gens sc q=>exact ps_lc
  | _=>exact ps_asgn (Aa _) fun Y=>rfl
theorem ps_rs2 {y:Option PySem.Expr}:PS (.Raise (some (.Call (.Name x xp) as ks q)) y p) :=
  match as,ks,y with
  | [],_,_=>AU fun Y=>rfl
  | _::_::_,_,_=>AU fun Y=>rfl
  | [a],_::_,_=>AU fun Y=>rfl
  | [a],[],some _=>AU fun Y=>rfl
  | [a],[],none=>ps_rse (Aa a)
theorem ps_rs1 {y:Option PySem.Expr}:PS (.Raise (some (.Call f as ks q)) y p):=by
  cases f with
  | Name r np=>exact ps_rs2
  | _=>exact AU fun c=>rfl
theorem ps_rs {u y:Option PySem.Expr}:PS (.Raise u y p):=by
  cases u with
  | none=>cases y with
    | none=>exact ps_rer
    | some _=>exact AU fun c=>rfl
  | some e=>cases e with
    | Call f as ks q=>exact ps_rs1
    | _=>exact AU fun c=>rfl
theorem ps_tr1 {b h d f:List Stmt} {n:Option Str} {r:List ExceptHandler} (ihb:PB b) (ihh:PB h):PS (.Try b (.ExceptHandler (some (.Name x xp)) n h q::r) d f p) :=
  match r,d,f with
  | _::_,_,_=>AU fun Y=>rfl
  | [],_::_,_=>AU fun Y=>rfl
  | [],[],_::_=>AU fun Y=>rfl
  | [],[],[]=>ps_try ihb ihh
theorem ps_tr {b h d f:List Stmt} {u:Option PySem.Expr} {n:Option Str} {r:List ExceptHandler} (ihb:PB b) (ihh:PB h):PS (.Try b (.ExceptHandler u n h q::r) d f p):=by
  cases u with
  | none=>exact AU fun c=>rfl
  | some t=>cases t with
    | Name x np=>exact ps_tr1 ihb ihh
    | _=>exact AU fun c=>rfl
end
theorem sz_hd {u:Option PySem.Expr} {n:Option Str} {hb:List Stmt} {q:Pos} {r:List ExceptHandler}:sizeOf hb<sizeOf (ExceptHandler.ExceptHandler u n hb q::r):=by refine Nat.lt_trans ?_ (List.sizeOf_lt_of_mem (.head _));rw [ExceptHandler.ExceptHandler.sizeOf_spec];exact Nat.lt_add_right _ s5
theorem ps_all:∀ (n:Nat) (st:Stmt),sizeOf st<n->PS st
  | 0,_,h=>absurd h (Nat.not_lt_zero _)
  | n+1,st,h=>by
    have ih:=ps_all n;have ihb:∀ {b:List Stmt},sizeOf b<n->PB b:=fun hb=>pb_of fun s hs=>ih s (Nat.lt_trans (List.sizeOf_lt_of_mem hs) hb);cases st with
    | Return x p=>exact ps_ret (e:=.nil) fun e Y=>Aa e
    | Expr e p=>exact ps_expr
    | FunctionDef n as b ds r tp sc ts bn p=>exact ps_def
    | If t a b p=>rw [Stmt.If.sizeOf_spec] at h;exact ps_if (pt_any t) (ihb (s1 (sw (sw h)))) (ihb (s2 (sw h)))
    | While t b e p =>
      cases e with
      | nil=>rw [Stmt.While.sizeOf_spec] at h;exact ps_whl (pt_any t) (ihb (s1 (sw (sw h))))
      | cons _ _=>exact AU fun c=>rfl
    | For t it b e p =>
      cases e with
      | nil=>rw [Stmt.For.sizeOf_spec] at h;exact ps_for (Aa it) (fun Y a Y Y=>Aa a) (ihb (s2 (sw (sw h))))
      | cons _ _=>exact AU fun c=>rfl
    | AugAssign t op e p =>
      cases t with
      | Name x q=>exact ps_auv (Aa e)
      | Attribute o n q=>exact ps_aua (Aa o) (Aa e)
      | _=>exact AU fun c=>rfl
    | Assign ts e p =>
      match ts with
      | []=>exact AU fun c=>rfl
      | _::_::_=>exact ps_asg2
      | [t]=>cases t with
        | Name x q=>exact ps_asg
        | Attribute o n q=>exact ps_sat (Aa o) (Aa e)
        | Subscript o i q=>exact ps_sit (Aa o) (Aa i) (Aa e)
        | Tuple ts k q=>exact ps_unp (Aa e)
        | _=>exact AU fun c=>rfl
    | Delete ts p =>
      match ts with
      | []=>exact AU fun c=>rfl
      | _::_::_=>exact ps_del2
      | [t]=>cases t with
        | Subscript o i q=>exact ps_del (Aa o) (Aa i)
        | _=>exact AU fun c=>rfl
    | Raise x y p=>exact ps_rs
    | Try b hs e f p =>
      match hs with
      | []=>exact AU fun c=>rfl
      | .ExceptHandler u n hb q::r=>rw [Stmt.Try.sizeOf_spec] at h;exact ps_tr (ihb (s0 (sw (sw (sw (sw h)))))) (ihb (Nat.lt_trans sz_hd (s1 (sw (sw (sw h))))))
    | _=>exact AU fun c=>rfl
theorem Bz {n:Str}:∀ {names:List Str} {vals:List Value},n∉names.take vals.length->(names.zip vals).lookup n=none
  | [],_,_=>rfl
  | _::_,[],_=>rfl
  | a::r,v::vs,h=>by
    simp only [List.length_cons,List.take_succ_cons,List.mem_cons,not_or] at h;refine wl (List.zip_cons_cons ..) ?_;refine wl (List.lookup_cons ..) ?_;have:(n == a)=false:=by simpa using h.1
    rw [this];exact Bz h.2
theorem Av {n:Str}:∀ {names:List Str} {vals:List Value},n∈names.take vals.length->((names.zip vals).lookup n).isSome=true
  | [],_,h=>by simp at h
  | _::_,[],h=>by simp at h
  | a::r,v::vs,h=>by
    refine wl (List.zip_cons_cons ..) ?_;refine wl (List.lookup_cons ..) ?_;by_cases e:n=a
    . subst e;simp
    . have:(n == a)=false:=by simpa using e
      refine wl (this ..) ?_;simp only [List.length_cons,List.take_succ_cons,List.mem_cons] at h;exact Av (h.resolve_left e)
theorem dft_add:∀ {l acc:List (Str×Value)},(∀ x∈l,acc.lookup x.1=none)->(l.map (·.1)).Nodup->forIn l acc dftF=(pure (acc++l):Sem _):=by
  intro l
  induction l with
  | nil=>intro acc _ _;rw [List.append_nil];rfl
  | cons a r IH =>
    intro acc hm hnd;have hnd':=List.nodup_cons.mp hnd;have:dftF a acc=pure (ForInStep.yield (acc++[a])):=if_pos (by rw [hm a (.head _)];rfl);refine wl (List.forIn_cons ..) ?_;refine wl (this ..) ?_;refine wl (pure_bind ..) ?_;show forIn r (acc++[a]) dftF=_;rw [IH (acc:=acc++[a]) (fun x hx=>?_) hnd'.2,List.append_assoc];· rfl
    have hne:¬ x.1=a.1:=fun z=>hnd'.1 (by show a.1∈_;rw [<- z];exact List.mem_map_of_mem hx);rw [List.lookup_append,hm x (.tail _ hx),Option.none_or,List.lookup_cons,beq_false_of_ne hne];rfl
theorem dft_both:∀ {l1 l2 acc:List (Str×Value)},(∀ x∈l1,(acc.lookup x.1).isSome=true)->(∀ x∈l2,acc.lookup x.1=none)->(l2.map (·.1)).Nodup->forIn (l1++l2) acc dftF=(pure (acc++l2):Sem _)
  | [],_,_,_,h1,h2=>dft_add h1 h2
  | a::r,l2,acc,hm,h1,h2=>by have:dftF a acc=pure (ForInStep.yield acc):=if_neg fun q=>absurd (hm a (.head _)) (by rw [Option.isNone_iff_eq_none.mp q];exact Bool.false_ne_true);refine wl (List.cons_append ..) ?_;refine wl (List.forIn_cons ..) ?_;refine wl (this ..) ?_;exact wl (pure_bind ..) (dft_both (fun x hx=>hm x (.tail _ hx)) h1 h2)
theorem bind_dft {s:Shared} {fd:FuncData} {ps:List Str} {vals pre tail:List Value} {T:Addr} {o:Obj} {items:Array Value} {n:Nat} (hp:fd.params.posonlyargs=[]/\fd.params.vararg=none/\fd.params.kwonlyargs=[]/\fd.params.kwarg=none) (nd:ps.Nodup) (prm:fd.params.args.map (·.arg)=ps)
    (hd:fd.defaults = .ref T) (ho:s.heap.get? T=some o) (hs:o.data = .seq items n) (hi:items.toList=pre++tail) (hl:ps.length=vals.length+tail.length) (hl2:pre.length<=vals.length):BindsTo s fd ⟨vals,[]⟩ (ps.zip (vals++tail)):=by
  have nc:vals.length<=ps.length:=hl▸Nat.le_add_right _ _;have hle:(pre++tail).length=pre.length+tail.length:=List.length_append;have hk:ps.length - (pre++tail).length=vals.length - pre.length:=by rw [hle,hl,Nat.add_sub_add_right]
  have ht:(ps.take vals.length).length=vals.length:=by rw [List.length_take];exact Nat.min_eq_left nc
  have hpre:((ps.take vals.length).drop (vals.length - pre.length)).length=pre.length:=by rw [List.length_drop,ht,Nat.sub_sub_self hl2]
  have hsp:(ps.drop (vals.length - pre.length)).zip (pre++tail)=((ps.take vals.length).drop (vals.length - pre.length)).zip pre++(ps.drop vals.length).zip tail:=by refine wr (List.zip_append hpre ..) ?_;refine congrArg (List.zip · _) ?_;rw [<- List.drop_append_of_le_length (by rw [ht];exact Nat.sub_le _ _),List.take_append_drop]
  have hall:ps.zip vals++(ps.drop vals.length).zip tail=ps.zip (vals++tail):=by have z1:=List.zip_append (l₁:=ps.take vals.length) (l₂:=vals) (r₁:=ps.drop vals.length) (r₂:=tail) ht;have z2:=List.zip_append (l₁:=ps.take vals.length) (l₂:=vals) (r₁:=ps.drop vals.length) (r₂:=[]) ht;rw [List.take_append_drop] at z1 z2;rw [List.append_nil] at z2;replace z2:=List.zip_nil_right▸z2;rw [List.append_nil] at z2;refine wl (z1 ..) ?_;exact wl (z2 ..) rfl
  refine Du (its':=pre++tail) (some items) hp prm (dft_ref hd ho hs) nc ?_ (fun x hx=>Av ?_) (slots:=ps.zip (vals++tail)) ?_ (Bk nd (by rw [List.length_append];exact hl))
  . show items.toList.drop (items.toList.length - ps.length)=_;rw [hi,hle,hl,Nat.sub_eq_zero_of_le (Nat.add_le_add_right hl2 _)];rfl
  . replace hx:=hk▸hx;exact List.take_subset_take_left _ (Nat.sub_le _ _) hx
  . refine wl (hk ..) ?_;refine wl (hsp ..) ?_;refine wr (hall ..) ?_;refine dft_both (fun x hx=>Av (List.mem_of_mem_drop (List.of_mem_zip hx).1)) (fun x hx=>Bz fun hm=>?_) ?_
    . have h1:=(List.of_mem_zip hx).1;replace nd:=(List.take_append_drop vals.length ps).symm▸nd;exact (List.nodup_append.mp nd).2.2 _ hm _ h1 rfl
    . have:((ps.drop vals.length).zip tail).map (·.1)=ps.drop vals.length:=zip_fst (by rw [List.length_drop,hl,Nat.add_sub_cancel_left]);exact wl (this ..) (nd.sublist (List.drop_sublist _ _))
def Sub (H H':Hp):Prop:=∀ a v,H a=some v->H' a=some v
theorem Sub.refl {H:Hp}:Sub H H:=fun Y Y h=>h
theorem Sub.trans {H H1 H2:Hp} (a:Sub H H1) (b:Sub H1 H2):Sub H H2:=fun Y Y h=>b _ _ (a _ _ h)
theorem Sub.upd {H H':Hp} {r:Addr} {v:V} (s:Sub H H') (h:H r=none):Sub H (Mine.upd H' r v):=fun a x e=>by
  have:a≠r:=fun q=>by rw [q,h] at e;cases e
  rw [AC this];exact s a x e
theorem Sub.del {H H':Hp} {r:Addr} (s:Sub H H') (h:H r=none):Sub H (Mine.del H' r):=fun a x e=>by
  have:a≠r:=fun q=>by rw [q,h] at e;cases e
  simp [Mine.del,this];exact s a x e
theorem Sub.no {H H':Hp} {r:Addr} (s:Sub H H') (h:H' r=none):H r=none:=by
  cases e:H r with
  | none=>rfl
  | some v=>rw [s r v e] at h;cases h
def drp (P:Hp->Prop) (H:Hp):Prop:=∃ H',Sub H' H/\P H'
theorem drp.keep {P:Hp->Prop} {H:Hp} (h:P H):drp P H:=⟨H,.refl,h⟩
theorem drp.to {P:Hp->Prop} {H H':Hp} (s:Sub H' H) (h:P H'):drp P H:=⟨H',s,h⟩
def CallC (d:Nat) (f:V) (args:List V) (K:KV) (X:KX) (H:Hp):Prop:=∀ w B os A G s x xs,Sat w B os G s->Cx A d G->Le H G->VR G f x->VRs G args xs ->
  codeAny (Mo w) A (.call x ⟨xs,[]⟩) (fun r s'=>match r with | .ok (.ret v)=>Post w B os G s.heap K v s' | .ok _=>False | .error e=>PostX w B os G s.heap X e s') s
theorem CallC.a {d:Nat} {f:V} {args:List V} {K:KV} {X:KX} {H:Hp} (h:CallC d f args K X H):AD d f args K X H:=fun w B os A G s x xs S cx le r rs =>
  wpAny_call (codeAny_mono (h w B os A G s x xs S cx le r rs) fun r s' q=>by rcases r with e | (v | _ | _ | _)<;>first | exact q | exact q.elim)
inductive FnGet (p:Params) (f:Addr) (ls ps:List Str) (C:Mine.C) (dv:List Value):Prop
  | mk (fd:FuncData) (body:List Stmt) (h:FnAt p f ls ps body fd) (c:Ac ⟨fd.scope,ls,gl⟩ body=C) (d:(fd.defaults = .none/\dv=[])\/∃ T o items n,fd.defaults = .ref T/\(KF p).lookup T=some o/\o.data = .seq items n/\items.toList=dv)
structure FnC (f:Addr) (ls ps:List Str) (C:Mine.C) (dv:List Value):Prop where
  get:∀ p,FnGet p f ls ps C dv
theorem okFd_par {p:Params} {fd:FuncData} (h:okFd p fd=true):fd.params.posonlyargs=[]/\fd.params.vararg=none/\fd.params.kwonlyargs=[]/\fd.params.kwarg=none:=by unfold okFd at h;simp only [Bool.and_eq_true,Bool.not_eq_true',beq_iff_eq,List.isEmpty_iff,Option.isNone_iff_eq_none] at h;exact ⟨h.1.1.1.1.2,h.1.1.1.2,h.1.1.2,h.1.2⟩
theorem okNames_nd {sc:Scope} {ls ps:List Str} (h:DN sc ls ps=true):ps.Nodup:=by unfold DN at h;simp only [Bool.and_eq_true,decide_eq_true_eq] at h;exact h.1.1.1.2
theorem Bv {L:Addr} {G G1:Gh} {h h1 h2:Heap} (g:G L=none) (k:LKeep G h h1) (e:Ext G G1) (l:LKb L G1 h1 h2):LKeep G h h2:=fun a =>
  ⟨fun z o ho=>by
    obtain ⟨o1,a1,b1⟩:=(k a).1 z o ho;have:a≠L:=fun q=>by rw [q,g] at z;cases z
    obtain ⟨o2,a2,b2⟩:=(l a).1 (e.lc z) this o1 a1;exact ⟨o2,a2,b2.trans b1⟩,fun v z o ho=>(l a).2 v (e.fz z) o ((k a).2 v z o ho)⟩
theorem pb_any (b:List Stmt):PB b:=pb_of fun s Y=>ps_all (sizeOf s+1) s (Nat.lt_succ_self _)
theorem r_c1 {a b p:Nat} (h1:p<=a+b) (h2:a<=p):a+(b - (a+b - p))=p :=
  (Nat.add_sub_assoc (Nat.sub_le_of_le_add (Nat.add_comm b p▸Nat.add_le_add_right h2 b)) a).symm.trans (Nat.sub_sub_self h1)
theorem call_rule {f:Addr} {ls ps:List Str} {C:Mine.C} {dv:List Value} {dV:List V} (F:FnC f ls ps C dv) (hdv:∀ G,VRs G dV dv) {d:Nat} {vs:List V} {K:KV} {X:KX} {H:Hp} (h1:ps.length<=vs.length+dV.length) (h2:vs.length<=ps.length) (h3:dV.length<=ps.length)
    (h:vcS d none C (fun Y H=>drp (K .none) H) (fun v H=>drp (K v) H) (fun x Y H=>drp (X x) H) (padM ls (vs++dV.drop (vs.length+dV.length - ps.length))) H):CallC (d+1) (.ref f) vs K X H:=by
  intro w B os A G s x xs S cx le rf rs;cases (show x = .ref f from rf);obtain ⟨fd,body,Fn0,hC,hd⟩:=F.get w.params;subst hC;have par:=okFd_par Fn0.ok;have nd:=okNames_nd Fn0.names;have hl:=rs.length;have hdl:=(hdv G).length;have hb:BindsTo s fd ⟨xs,[]⟩ (ps.zip (xs++dv.drop (vs.length+dV.length - ps.length))):=by
    rcases hd with ⟨hd,rfl⟩ | ⟨T,o,items,n,hd,ho,hs,hi⟩
    . simp only [List.length_nil] at hdl;simp only [List.drop_nil,List.append_nil];exact bind_ps par nd Fn0.prm (.inl hd) ((Nat.le_antisymm (by rw [hdl] at h1;exact h1) h2).trans hl)
    . refine bind_dft (pre:=dv.take (vs.length+dV.length - ps.length)) par nd Fn0.prm hd (S.kf _ _ ho) hs (by rw [List.take_append_drop,hi]) ?_ ?_
      . rw [List.length_drop,<- hl,<- hdl];exact (r_c1 h1 h2).symm
      . rw [List.length_take];exact Nat.le_trans (Nat.min_le_left _ _) (hl▸Nat.sub_le_of_le_add (Nat.add_le_add_left h3 _))
  refine enter_ok (vs:=vs++dV.drop (vs.length+dV.length - ps.length)) Fn0 S cx le (rs.append ((hdv G).drop _)) (by rw [List.length_append,List.length_drop];exact r_c1 h1 h2) hb fun env G1 s1 sok hfr e1 l1 k1 g1 same a=>?_;refine wpAny_mono (pb_any body sok h (ex:=[]) G1 s1 a rfl) (fun fl s2 p=>?_) fun x s2 p=>?_
  . cases fl with
    | next=>obtain ⟨G2,m2,H2',e2,S2,l2,lo2,le2,H2,sb,n2⟩:=p;have le2:=le2.mono sb;exact ⟨G2,.none,H2,e1.trans e2,S2,Bv g1 l1 e1 l2,le2,rfl,n2⟩
    | ret v=>obtain ⟨G2,b2,H2',e2,S2,l2,le2,r2,H2,sb,n2⟩:=p;have le2:=le2.mono sb;exact ⟨G2,b2,H2,e1.trans e2,S2,Bv g1 l1 e1 l2,le2,r2,n2⟩
    | _=>exact p.elim
  . obtain ⟨G2,msg,m2,H2',e2,S2,l2,lo2,le2,r2,cx2,H2,sb,n2⟩:=p;have le2:=le2.mono sb;rw [mns_nil] at e2 l2;obtain ⟨outer,L,hfr',hf⟩:=sok.fr;refine leaving_ok hfr' hf cx2 S2 (r2.mono id fun v hv=>?_) fun h3 k3 r3=>?_
    . rcases hv with hv | ⟨L',hL,hv⟩
      . exact .inl hv
      . rw [hf] at hL;cases hL;exact .inr hv
    . exact ⟨G2,msg,H2,e1.trans e2,S2.xstep k3 rfl rfl,(Bv g1 l1 e1 l2).trans (e1.trans e2) k3.lkeep,le2,r3,n2⟩
set_option tactic.hygienic true in
noncomputable def BG (p:Params) (C f:Addr):Bool:=makesIn (KF p) C && (match findIn (KF p) (.ref C) "__init__" with | some (some (.ref g))=>g == f | _=>false) && (typeIn (KF p) (.ref f) == some (.type "function"))
set_option tactic.hygienic true in
theorem make_rule {C f:Addr} (hC:C∈clsP) (F:∀ p,BG p C f=true) {d:Nat} {vs:List V} {K:KV} {X:KX} {H:Hp}
    (h:∀ r,H r=none->CallC d (.ref f) (.ref r::vs) (fun v H'=>v = .none/\K (.ref r) H') X (upd H r (.obj C []))):CallC (d+1) (.ref C) vs K X H:=by
  intro w B os A G s x xs S cx le rf rs;cases (show x = .ref C from rf);have X0:=S.kf;have ok:=F w.params;unfold BG at ok;simp only [Bool.and_eq_true] at ok;obtain ⟨⟨m1,m2⟩,m3⟩:=ok;have m2':findIn (KF w.params) (.ref C) "__init__" = some (some (.ref f)):=by
    split at m2
    . rename_i g q;rw [q,beq_iff_eq.mp m2]
    . cases m2
  have m3':typeIn (KF w.params) (.ref f)=some (.type "function"):=by simpa using m3
  obtain ⟨hh,g,dr,t,os'⟩:=s;have hx:((hh.push emptyDict).push (instObj C hh.objs.size)).get? (hh.objs.size+1)=some (instObj C hh.objs.size):=by have:=Heap.get?_push_size (hh.push emptyDict) (o:=instObj C hh.objs.size) rfl;rw [Heap.size_push] at this;exact this
  have hdx:((hh.push emptyDict).push (instObj C hh.objs.size)).get? hh.objs.size=some emptyDict:=Heap.get?_push_of_some _ (Heap.get?_push_size hh rfl);have k:∀ b o,hh.get? b=some o->((hh.push emptyDict).push (instObj C hh.objs.size)).get? b=some o:=fun b o e=>Heap.get?_push_of_some _ (Heap.get?_push_of_some _ e);have S1:Sat w B os G ⟨(hh.push emptyDict).push (instObj C hh.objs.size),g,dr,t,os'⟩:=S.keeps k rfl rfl;have fresh:∀ a,hh.objs.size<=a->G a=none/\B.get? a=none:=fun a ha=>by
    refine ⟨?_,?_⟩
    . cases q:G a with
      | none=>rfl
      | some c=>exact absurd (S.lt q) (Nat.not_lt.mpr ha)
    . cases q:B.get? a with
      | none=>rfl
      | some o=>exact absurd (Heap.lt_size (S.base _ _ q)) (Nat.not_lt.mpr ha)
  obtain ⟨S2,e2⟩:=S1.add (cl:=.hid (hh.objs.size+1)) (fresh _ (Nat.le_refl _)).1 (fresh _ (Nat.le_refl _)).2 (by show (Heap.get? _ _).isSome=true;rw [hdx];rfl);have n2:Mine.upd G hh.objs.size (.hid (hh.objs.size+1)) (hh.objs.size+1)=none:=by rw [AC (Nat.succ_ne_self _)];exact (fresh _ (Nat.le_succ _)).1
  have hsn:Sn ((hh.push emptyDict).push (instObj C hh.objs.size)) hh.objs.size 0 fun Y=>none:=⟨_,#[],0,hdx,rfl,fun Y he=>by simp at he,Nat.le_refl _,fun Y=>rfl⟩
  obtain ⟨S3,e3⟩:=S2.add (cl:=.mu (.obj C [])) n2 (fresh _ (Nat.le_succ _)).2 (show OR w _ _ _ (.obj C []) from ⟨hh.objs.size,⟨List.mem_of_mem_tail (by
      show C∈clsL.tail;exact hC),_,hx,rfl,rfl,rfl⟩,_,by rw [AC (Nat.succ_ne_self _).symm];exact AA _ _ _,hsn,⟨Nat.zero_le _,fun k v h=>by simp [at?] at h⟩,fun k v h=>by simp [at?] at h,fun Y Y=>rfl⟩)
  have e13:=e2.trans e3;have hH:H (hh.objs.size+1)=none:=by
    cases q:H (hh.objs.size+1) with
    | none=>rfl
    | some v=>have:=le _ _ q;rw [(fresh _ (Nat.le_succ _)).1] at this;cases this
  have hH0:H hh.objs.size=none:=by
    cases q:H hh.objs.size with
    | none=>rfl
    | some v=>have:=le _ _ q;rw [(fresh _ (Nat.le_refl _)).1] at this;cases this
  have le3:=(le.other (c:=.hid (hh.objs.size+1)) hH0).upd (hh.objs.size+1) (.obj C []);have lk:LKeep G hh ((hh.push emptyDict).push (instObj C hh.objs.size)):=.keeps k;refine make_core (makes_of X0 m1) (looks_findIn X0 m2') (fun self=>bind_fn X0 self m3') (.inl rfl) ?_;have:=h (hh.objs.size+1) hH w B os _ _ ⟨(hh.push emptyDict).push (instObj C hh.objs.size),g,dr,t,os'⟩ (.ref f) (.ref (hh.objs.size+1)::xs) S3 ((cx.make (C:=C) (rest:=xs) (kw:=[])).ext e13) le3 rfl (.cons rfl (rs.ext e13));refine codeAny_mono this fun r s' q=>?_;rcases r with e | (v | _ | _ | _)<;>first | exact q.pre e13 lk | exact q.elim | skip
  . obtain ⟨G',b,H',e',S',l',le',r',rfl,k'⟩:=q;exact ⟨r',G',.ref (hh.objs.size+1),H',e13.trans e',S',lk.trans e13 l',le',rfl,k'⟩
end Mine
namespace Mine
open PySem PySem.W PySem.Calls PyProof.Rows
noncomputable def scL:List String:=["language",
"",
"environment",
"names",
"dim",
"class",
"matrix",
"array",
"symbol",
"name",
"S4",
"closure",
"builtin",
"special",
"function",
"integer",
"double",
"numeric",
"...",
"argument ",
" matches multiple formal arguments",
"logical",
"character",
"list",
"expression",
"NULL",
"ANY",
"missing",
"vector",
"call",
"{",
"if",
"for",
"while",
"(",
"<-",
"=",
"formula",
"factor",
"data.frame",
"oldClass",
"pairlist",
"no definition was found for superclass “",
"” in the specification of class “",
"”",
"class “",
"” cannot be its own superclass",
".Data",
"repeated slot name “",
"” in class “",
"slot “",
"” clashes with superclass “",
"“",
"argument \"",
"\" is missing, with no default",
"invalid '",
"' argument: a single character string is needed",
"slots and superclasses must be told by character strings",
"slots",
"VIRTUAL",
"in constructing the prototype for class ",
": prototype has a slot that the class has not: ",
"in making the prototype for class ",
" elements of prototype failed to match the corresponding slot class: ",
"new:",
"Class",
"representation",
"prototype",
"contains",
"validity",
"access",
"where",
"version",
"sealed",
"package",
"S3methods",
"class1",
"class2",
"x",
"above",
"” in the specification of class ",
"in constructing the prototype for class “",
"”: prototype has a slot that the class has not: ",
"in making the prototype for class “",
"” elements of prototype failed to match ",
"the corresponding slot class: ",
"K",
"L",
"M",
"s",
"t",
"u",
"v",
"Gone",
"w",
"p",
"bare"]
noncomputable def sc (i:Nat):Str:=match scL[i]? with | some n=>Str.ofString n | none=>⟨#[]⟩
theorem sc_ne:((List.range scL.length).all fun i=>(List.range i).all fun j => !decide (sc i=sc j))=true:=by decide +kernel
theorem sc_inj {i j:Nat} (hi:i<97) (hj:j<97):(sc i=sc j)↔i=j:=by
  refine ⟨fun e=>?_,fun e=>e▸rfl⟩;have key:∀ i j,i<97->j<i->sc i≠sc j:=fun i j hi hj e=>by have:=List.all_eq_true.mp (List.all_eq_true.mp sc_ne i (List.mem_range.mpr hi)) j (List.mem_range.mpr hj);simp [e] at this
  rcases Nat.lt_trichotomy i j with h | h | h
  . exact absurd e.symm (key j i hj h)
  . exact h
  . exact absurd e (key i j hi h)
noncomputable def Cd (p:Params) (f:Addr):FuncData:=match fnD p f with | some fd=>fd | none=>default
noncomputable def bdOf (p:Params) (f:Addr):List Stmt:=match (Cd p f).body with | .stmts b=>b | _=>[]
noncomputable def dfO (p:Params) (f:Addr):Obj:=match (Cd p f).defaults with | .ref T=>((KF p).lookup T).getD default | _=>default
noncomputable def dfT (p:Params) (f:Addr):Addr:=match (Cd p f).defaults with | .ref T=>T | _=>0
noncomputable def dfI (p:Params) (f:Addr):Array Value:=match (dfO p f).data with | .seq a _=>a | _=>#[]
noncomputable def dfN (p:Params) (f:Addr):Nat:=match (dfO p f).data with | .seq _ n=>n | _=>0
theorem fn0 {f:Addr} {ls ps:List Str} {C:Mine.C} (h:∀ p,(fnD p f,okFd p (Cd p f),(Cd p f).params.args.map (·.arg),DN (Cd p f).scope ls ps,(Cd p f).body,Ac ⟨(Cd p f).scope,ls,gl⟩ (bdOf p f),(Cd p f).defaults)=(some (Cd p f),true,ps,true,.stmts (bdOf p f),C,.none)):FnC f ls ps C []:=⟨fun p=>by
  have h:=h p;simp only [Prod.mk.injEq] at h;exact ⟨Cd p f,bdOf p f,⟨h.1,h.2.1,h.2.2.1,h.2.2.2.1,h.2.2.2.2.1⟩,h.2.2.2.2.2.1,.inl ⟨h.2.2.2.2.2.2,rfl⟩⟩⟩
noncomputable def q28_1:Mine.C:=.seq (.ret (.cst .none)) .skip
noncomputable def q28_2:Mine.C:=.seq (.ret (.meth (.attr (.loc 0) 0) 2 (.cons (.loc 1) .nil))) .skip
noncomputable def q28_0:Mine.C:=.seq (.iff (.cmp .Is (.attr (.loc 0) 0) (.cst .none)) q28_1 .skip) q28_2
noncomputable def q33_3:Mine.C:=.seq (.ret (.comp [false,false,false,false,false] (.ite (.cmp .Is (.loc 0) (.cst .none)) (.cst (.str (sc 1))) (.loc 0)) (.itv (.attr (.loc 0) 2)) .nil)) .skip
noncomputable def q33_2:Mine.C:=.seq (.iff (.cmp .IsNot (.loc 1) (.cst .none)) q33_3 .skip) .skip
noncomputable def q33_4:Mine.C:=.seq (.ret (.cst .none)) .skip
noncomputable def q33_1:Mine.C:=.seq (.frs (.one 1) (.itv (.attr (.loc 0) 2)) q33_2) q33_4
noncomputable def q33_6:Mine.C:=.seq (.ret (.call .bad (.cons (.attr (.loc 0) 3) .nil))) .skip
noncomputable def q33_10:Mine.C:=.seq (.ret (.ite (.cmp .Is (.loc 3) (.cst .none)) (.cst .none) (.sub (.loc 3) (.cst (.int (0)))))) .skip
noncomputable def q33_9:Mine.C:=.seq (.asg 3 (.call .bad (.cons (.loc 0) .nil))) q33_10
noncomputable def q33_13:Mine.C:=.seq (.ret (.cst .none)) .skip
noncomputable def q33_14:Mine.C:=.seq (.ret (.mkl (.attr (.loc 4) 4))) .skip
noncomputable def q33_12:Mine.C:=.seq (.iff (.cmp .Is (.loc 4) (.cst .none)) q33_13 .skip) q33_14
noncomputable def q33_11:Mine.C:=.seq (.asg 4 (.call (.glb (.ref 28)) (.cons (.loc 0) (.cons (.cst (.str (sc 3))) .nil)))) q33_12
noncomputable def q33_8:Mine.C:=.seq (.iff (.bop .And (.cons (.cmp .IsNot (.loc 2) (.cst .none)) (.cons (.cmp .Eq (.len (.loc 2)) (.cst (.int (1)))) .nil))) q33_9 .skip) q33_11
noncomputable def q33_7:Mine.C:=.seq (.asg 2 (.call (.glb (.ref 40)) (.cons (.loc 0) .nil))) q33_8
noncomputable def q33_5:Mine.C:=.seq (.iff (.cmp .Eq (.attr (.loc 0) 1) (.cst (.str (sc 2)))) q33_6 .skip) q33_7
noncomputable def q33_0:Mine.C:=.seq (.iff (.cmp .Eq (.attr (.loc 0) 1) (.cst (.str (sc 0)))) q33_1 .skip) q33_5
noncomputable def q40_2:Mine.C:=.seq (.ret (.cst .none)) .skip
noncomputable def q40_3:Mine.C:=.seq (.ret (.mkl (.attr (.loc 1) 4))) .skip
noncomputable def q40_1:Mine.C:=.seq (.iff (.cmp .Is (.loc 1) (.cst .none)) q40_2 .skip) q40_3
noncomputable def q40_0:Mine.C:=.seq (.asg 1 (.call (.glb (.ref 28)) (.cons (.loc 0) (.cons (.cst (.str (sc 4))) .nil)))) q40_1
noncomputable def q52_2:Mine.C:=.seq (.ret (.list .nil)) .skip
noncomputable def q52_3:Mine.C:=.seq (.ret (.mkl (.attr (.loc 1) 4))) .skip
noncomputable def q52_1:Mine.C:=.seq (.iff (.cmp .Is (.loc 1) (.cst .none)) q52_2 .skip) q52_3
noncomputable def q52_0:Mine.C:=.seq (.asg 1 (.call (.glb (.ref 28)) (.cons (.loc 0) (.cons (.cst (.str (sc 5))) .nil)))) q52_1
noncomputable def q66_2:Mine.C:=.seq (.ret (.list .nil)) .skip
noncomputable def q66_3:Mine.C:=.seq (.ret (.ite (.cmp .Eq (.len (.loc 1)) (.cst (.int (2)))) (.list (.cons (.cst (.str (sc 6))) (.cons (.cst (.str (sc 7))) .nil))) (.list (.cons (.cst (.str (sc 7))) .nil)))) .skip
noncomputable def q66_1:Mine.C:=.seq (.iff (.cmp .Is (.loc 1) (.cst .none)) q66_2 .skip) q66_3
noncomputable def q66_0:Mine.C:=.seq (.asg 1 (.call (.glb (.ref 40)) (.cons (.loc 0) .nil))) q66_1
noncomputable def q73_2:Mine.C:=.seq (.ret (.call .bad (.cons (.loc 0) .nil))) .skip
noncomputable def q73_4:Mine.C:=.seq (.ret (.cst (.str (sc 9)))) .skip
noncomputable def q73_6:Mine.C:=.seq (.ret (.attr (.loc 0) 5)) .skip
noncomputable def q73_8:Mine.C:=.seq (.ret (.cst (.str (sc 14)))) .skip
noncomputable def q73_9:Mine.C:=.seq (.ret (.loc 1)) .skip
noncomputable def q73_7:Mine.C:=.seq (.iff (.bop .Or (.cons (.cmp .Eq (.loc 1) (.cst (.str (sc 11)))) (.cons (.cmp .Eq (.loc 1) (.cst (.str (sc 12)))) (.cons (.cmp .Eq (.loc 1) (.cst (.str (sc 13)))) .nil)))) q73_8 .skip) q73_9
noncomputable def q73_5:Mine.C:=.seq (.iff (.cmp .Eq (.loc 1) (.cst (.str (sc 10)))) q73_6 .skip) q73_7
noncomputable def q73_3:Mine.C:=.seq (.iff (.cmp .Eq (.loc 1) (.cst (.str (sc 8)))) q73_4 .skip) q73_5
noncomputable def q73_1:Mine.C:=.seq (.iff (.cmp .Eq (.loc 1) (.cst (.str (sc 0)))) q73_2 .skip) q73_3
noncomputable def q73_0:Mine.C:=.seq (.asg 1 (.attr (.loc 0) 1)) q73_1
noncomputable def q80_3:Mine.C:=.seq (.exp (.meth (.loc 2) 0 (.cons (.cst (.str (sc 17))) .nil))) .skip
noncomputable def q80_4:Mine.C:=.seq (.ret (.loc 2)) .skip
noncomputable def q80_2:Mine.C:=.seq (.iff (.bop .Or (.cons (.cmp .Eq (.attr (.loc 0) 1) (.cst (.str (sc 15)))) (.cons (.cmp .Eq (.attr (.loc 0) 1) (.cst (.str (sc 16)))) .nil))) q80_3 .skip) q80_4
noncomputable def q80_1:Mine.C:=.seq (.asg 2 (.bin .Add (.call (.glb (.ref 66)) (.cons (.loc 0) .nil)) (.list (.cons (.loc 1) .nil)))) q80_2
noncomputable def q80_0:Mine.C:=.seq (.asg 1 (.call (.glb (.ref 73)) (.cons (.loc 0) .nil))) q80_1
noncomputable def q87_2:Mine.C:=.seq (.ret (.loc 1)) .skip
noncomputable def q87_5:Mine.C:=.seq (.ret (.loc 1)) .skip
noncomputable def q87_6:Mine.C:=.seq (.ret (.ite (.cmp .Eq (.attr (.loc 0) 1) (.cst (.str (sc 16)))) (.list (.cons (.cst (.str (sc 17))) .nil)) (.list (.cons (.call (.glb (.ref 73)) (.cons (.loc 0) .nil)) .nil)))) .skip
noncomputable def q87_4:Mine.C:=.seq (.iff (.cmp .Gt (.len (.loc 1)) (.cst (.int (0)))) q87_5 .skip) q87_6
noncomputable def q87_3:Mine.C:=.seq (.asg 1 (.call (.glb (.ref 66)) (.cons (.loc 0) .nil))) q87_4
noncomputable def q87_1:Mine.C:=.seq (.iff (.cmp .Gt (.len (.loc 1)) (.cst (.int (0)))) q87_2 .skip) q87_3
noncomputable def q87_0:Mine.C:=.seq (.asg 1 (.call (.glb (.ref 52)) (.cons (.loc 0) .nil))) q87_1
noncomputable def q209_3:Mine.C:=.seq (.sat (.loc 0) 8 (.dict .nil .nil)) .skip
noncomputable def q209_2:Mine.C:=.seq (.sat (.loc 0) 7 (.bin .Mult (.list (.cons (.cst (.int (0))) .nil)) (.len (.loc 2)))) q209_3
noncomputable def q209_1:Mine.C:=.seq (.sat (.loc 0) 2 (.loc 2)) q209_2
noncomputable def q209_0:Mine.C:=.seq (.sat (.loc 0) 6 (.loc 1)) q209_1
noncomputable def q216_5:Mine.C:=.seq (.rse (.call .bad (.cons (.loc 1) .nil))) .skip
noncomputable def q216_7:Mine.C:=.seq (.sit (.attr (.loc 0) 7) (.loc 2) (.cst (.int (2)))) .skip
noncomputable def q216_6:Mine.C:=.seq (.sit (.attr (.loc 0) 8) (.loc 1) (.loc 2)) q216_7
noncomputable def q216_4:Mine.C:=.seq (.iff (.cmp .In (.loc 1) (.attr (.loc 0) 8)) q216_5 .skip) q216_6
noncomputable def q216_3:Mine.C:=.seq (.iff (.bop .And (.cons (.cmp .Eq (.sub (.attr (.loc 0) 2) (.loc 2)) (.loc 1)) (.cons (.cmp .Eq (.sub (.attr (.loc 0) 7) (.loc 2)) (.cst (.int (0)))) .nil))) q216_4 .skip) .skip
noncomputable def q216_2:Mine.C:=.seq (.frs (.one 2) (.rng (.len (.attr (.loc 0) 2))) q216_3) .skip
noncomputable def q216_1:Mine.C:=.seq (.iff (.cmp .NotEq (.loc 1) (.cst (.str (sc 18)))) q216_2 .skip) .skip
noncomputable def q216_0:Mine.C:=.seq (.frs (.one 1) (.itv (.attr (.loc 0) 6)) q216_1) .skip
noncomputable def q223_2:Mine.C:=.seq (.ret (.cst .none)) .skip
noncomputable def q223_4:Mine.C:=.seq (.exp (.meth (.loc 0) 4 (.cons (.loc 1) .nil))) .skip
noncomputable def q223_3:Mine.C:=.seq (.iff (.cmp .NotIn (.loc 1) (.attr (.loc 0) 8)) q223_4 .skip) .skip
noncomputable def q223_1:Mine.C:=.seq (.iff (.cmp .Eq (.loc 1) (.cst (.str (sc 18)))) q223_2 .skip) q223_3
noncomputable def q223_0:Mine.C:=.seq (.frs (.one 1) (.itv (.attr (.loc 0) 6)) q223_1) .skip
noncomputable def q230_4:Mine.C:=.seq (.rse (.fstr (.cons (.cst (.str (sc 19))) (.cons (.fval (.bin .Add (.loc 2) (.cst (.int (1))))) (.cons (.cst (.str (sc 20))) .nil))))) .skip
noncomputable def q230_6:Mine.C:=.seq (.rse (.call .bad (.cons (.loc 1) .nil))) .skip
noncomputable def q230_8:Mine.C:=.seq (.sit (.attr (.loc 0) 7) (.loc 2) (.cst (.int (1)))) .skip
noncomputable def q230_7:Mine.C:=.seq (.sit (.attr (.loc 0) 8) (.loc 1) (.loc 2)) q230_8
noncomputable def q230_5:Mine.C:=.seq (.iff (.cmp .In (.loc 1) (.attr (.loc 0) 8)) q230_6 .skip) q230_7
noncomputable def q230_3:Mine.C:=.seq (.iff (.cmp .Eq (.sub (.attr (.loc 0) 7) (.loc 2)) (.cst (.int (1)))) q230_4 .skip) q230_5
noncomputable def q230_2:Mine.C:=.seq (.iff (.bop .And (.cons (.cmp .NotEq (.sub (.attr (.loc 0) 7) (.loc 2)) (.cst (.int (2)))) (.cons (.cmp .IsNot (.loc 3) (.cst .none)) (.cons (.cmp .NotEq (.loc 3) (.cst (.str (sc 1)))) (.cons (.meth (.loc 1) 5 (.cons (.loc 3) .nil)) .nil))))) q230_3 .skip) .skip
noncomputable def q230_1:Mine.C:=.seq (.asg 3 (.sub (.attr (.loc 0) 2) (.loc 2))) q230_2
noncomputable def q230_0:Mine.C:=.seq (.frs (.one 2) (.rng (.len (.attr (.loc 0) 2))) q230_1) .skip
noncomputable def q237_3:Mine.C:=.seq (.ret (.cst .none)) .skip
noncomputable def q237_6:Mine.C:=.seq (.auv 1 .Add (.cst (.int (1)))) .skip
noncomputable def q237_9:Mine.C:=.seq (.sit (.attr (.loc 0) 7) (.loc 1) (.cst (.int (2)))) .skip
noncomputable def q237_8:Mine.C:=.seq (.sit (.attr (.loc 0) 8) (.loc 2) (.loc 1)) q237_9
noncomputable def q237_7:Mine.C:=.seq (.iff (.cmp .Lt (.loc 1) (.len (.attr (.loc 0) 2))) q237_8 .skip) .skip
noncomputable def q237_5:Mine.C:=.seq (.whl (.bop .And (.cons (.cmp .Lt (.loc 1) (.len (.attr (.loc 0) 2))) (.cons (.not (.meth (.loc 0) 6 (.cons (.loc 1) .nil))) .nil))) q237_6) q237_7
noncomputable def q237_4:Mine.C:=.seq (.iff (.cmp .NotIn (.loc 2) (.attr (.loc 0) 8)) q237_5 .skip) .skip
noncomputable def q237_2:Mine.C:=.seq (.iff (.cmp .Eq (.loc 2) (.cst (.str (sc 18)))) q237_3 .skip) q237_4
noncomputable def q237_1:Mine.C:=.seq (.frs (.one 2) (.itv (.attr (.loc 0) 6)) q237_2) .skip
noncomputable def q237_0:Mine.C:=.seq (.asg 1 (.cst (.int (0)))) q237_1
noncomputable def q244_0:Mine.C:=.seq (.ret (.bop .And (.cons (.cmp .Eq (.sub (.attr (.loc 0) 7) (.loc 1)) (.cst (.int (0)))) (.cons (.bop .Or (.cons (.cmp .Is (.sub (.attr (.loc 0) 2) (.loc 1)) (.cst .none)) (.cons (.cmp .Eq (.sub (.attr (.loc 0) 2) (.loc 1)) (.cst (.str (sc 1)))) .nil))) .nil)))) .skip
noncomputable def q249_0:Mine.C:=.seq (.ret (.comp [true] (.loc 0) (.rng (.len (.attr (.loc 0) 2))) (.cons (.cmp .Eq (.sub (.attr (.loc 1) 7) (.loc 0)) (.cst (.int (0)))) .nil))) .skip
noncomputable def q281_6:Mine.C:=.seq (.rse (.call .bad (.cons (.loc 1) (.cons (.loc 4) (.cons (.loc 2) .nil))))) .skip
noncomputable def q281_7:Mine.C:=.seq (.ret (.tup (.cons (.attr (.loc 3) 8) (.cons (.loc 4) .nil)))) .skip
noncomputable def q281_5:Mine.C:=.seq (.iff (.bop .And (.cons (.cmp .Gt (.len (.loc 4)) (.cst (.int (0)))) (.cons (.cmp .NotIn (.cst (.str (sc 18))) (.loc 0)) .nil))) q281_6 .skip) q281_7
noncomputable def q281_4:Mine.C:=.seq (.asg 4 (.meth (.loc 3) 10 .nil)) q281_5
noncomputable def q281_3:Mine.C:=.seq (.exp (.meth (.loc 3) 9 .nil)) q281_4
noncomputable def q281_2:Mine.C:=.seq (.exp (.meth (.loc 3) 8 .nil)) q281_3
noncomputable def q281_1:Mine.C:=.seq (.exp (.meth (.loc 3) 7 .nil)) q281_2
noncomputable def q281_0:Mine.C:=.seq (.asg 3 (.call (.glb (.ref 252)) (.cons (.loc 0) (.cons (.comp [false,false,false,false,false] (.sub (.loc 0) (.cst (.int (0)))) (.itv (.loc 1)) .nil) .nil)))) q281_1
noncomputable def q287_4:Mine.C:=.seq (.exp (.meth (.loc 5) 0 (.cons (.comp [true,false,false,false,false,false,false] (.sub (.loc 1) (.loc 0)) (.itv (.loc 4)) .nil) .nil))) .skip
noncomputable def q287_6:Mine.C:=.seq (.exp (.meth (.loc 5) 0 (.cons (.sub (.sub (.loc 0) (.sub (.loc 3) (.loc 6))) (.cst (.int (1)))) .nil))) .skip
noncomputable def q287_7:Mine.C:=.seq (.exp (.meth (.loc 5) 0 (.cons (.cst .none) .nil))) .skip
noncomputable def q287_5:Mine.C:=.seq (.iff (.cmp .In (.loc 6) (.loc 3)) q287_6 q287_7) .skip
noncomputable def q287_3:Mine.C:=.seq (.iff (.cmp .Eq (.loc 6) (.cst (.str (sc 18)))) q287_4 q287_5) .skip
noncomputable def q287_8:Mine.C:=.seq (.ret (.loc 5)) .skip
noncomputable def q287_2:Mine.C:=.seq (.frs (.one 6) (.itv (.loc 1)) q287_3) q287_8
noncomputable def q287_1:Mine.C:=.seq (.asg 5 (.list .nil)) q287_2
noncomputable def q287_0:Mine.C:=.seq (.unp (.two 3 4) (.call (.glb (.ref 281)) (.cons (.mkl (.loc 1)) (.cons (.loc 0) (.cons (.loc 2) .nil))))) q287_1
noncomputable def q301_5:Mine.C:=.seq (.sat (.loc 0) 14 (.loc 6)) .skip
noncomputable def q301_4:Mine.C:=.seq (.sat (.loc 0) 15 (.loc 5)) q301_5
noncomputable def q301_3:Mine.C:=.seq (.sat (.loc 0) 21 (.loc 4)) q301_4
noncomputable def q301_2:Mine.C:=.seq (.sat (.loc 0) 9 (.loc 3)) q301_3
noncomputable def q301_1:Mine.C:=.seq (.sat (.loc 0) 12 (.loc 2)) q301_2
noncomputable def q301_0:Mine.C:=.seq (.sat (.loc 0) 5 (.loc 1)) q301_1
noncomputable def q315_0:Mine.C:=.seq (.ret (.tup (.cons (.cst (.str (sc 21))) (.cons (.cst (.str (sc 15))) (.cons (.cst (.str (sc 16))) (.cons (.cst (.str (sc 17))) (.cons (.cst (.str (sc 22))) (.cons (.cst (.str (sc 23))) (.cons (.cst (.str (sc 24))) (.cons (.cst (.str (sc 14))) .nil)))))))))) .skip
noncomputable def q322_0:Mine.C:=.seq (.ret (.bin .Add (.call (.glb (.ref 315)) .nil) (.tup (.cons (.cst (.str (sc 25))) (.cons (.cst (.str (sc 26))) (.cons (.cst (.str (sc 27))) (.cons (.cst (.str (sc 28))) (.cons (.cst (.str (sc 6))) (.cons (.cst (.str (sc 7))) (.cons (.cst (.str (sc 2))) (.cons (.cst (.str (sc 0))) (.cons (.cst (.str (sc 9))) (.cons (.cst (.str (sc 29))) (.cons (.cst (.str (sc 30))) (.cons (.cst (.str (sc 31))) (.cons (.cst (.str (sc 32))) (.cons (.cst (.str (sc 33))) (.cons (.cst (.str (sc 34))) (.cons (.cst (.str (sc 35))) (.cons (.cst (.str (sc 36))) (.cons (.cst (.str (sc 37))) (.cons (.cst (.str (sc 38))) (.cons (.cst (.str (sc 39))) (.cons (.cst (.str (sc 40))) (.cons (.cst (.str (sc 41))) .nil))))))))))))))))))))))))) .skip
noncomputable def q329_1:Mine.C:=.seq (.ret (.list (.cons (.cst (.str (sc 17))) .nil))) .skip
noncomputable def q329_3:Mine.C:=.seq (.ret (.list (.cons (.cst (.str (sc 28))) .nil))) .skip
noncomputable def q329_5:Mine.C:=.seq (.ret (.list (.cons (.cst (.str (sc 7))) .nil))) .skip
noncomputable def q329_7:Mine.C:=.seq (.ret (.list (.cons (.cst (.str (sc 15))) (.cons (.cst (.str (sc 40))) .nil)))) .skip
noncomputable def q329_9:Mine.C:=.seq (.ret (.list (.cons (.cst (.str (sc 23))) (.cons (.cst (.str (sc 40))) .nil)))) .skip
noncomputable def q329_11:Mine.C:=.seq (.ret (.list (.cons (.cst (.str (sc 40))) .nil))) .skip
noncomputable def q329_13:Mine.C:=.seq (.ret (.list (.cons (.cst (.str (sc 0))) .nil))) .skip
noncomputable def q329_14:Mine.C:=.seq (.ret (.list .nil)) .skip
noncomputable def q329_12:Mine.C:=.seq (.iff (.cmp .In (.loc 0) (.tup (.cons (.cst (.str (sc 9))) (.cons (.cst (.str (sc 29))) (.cons (.cst (.str (sc 30))) (.cons (.cst (.str (sc 31))) (.cons (.cst (.str (sc 32))) (.cons (.cst (.str (sc 33))) (.cons (.cst (.str (sc 34))) (.cons (.cst (.str (sc 35))) (.cons (.cst (.str (sc 36))) .nil))))))))))) q329_13 .skip) q329_14
noncomputable def q329_10:Mine.C:=.seq (.iff (.cmp .Eq (.loc 0) (.cst (.str (sc 37)))) q329_11 .skip) q329_12
noncomputable def q329_8:Mine.C:=.seq (.iff (.cmp .Eq (.loc 0) (.cst (.str (sc 39)))) q329_9 .skip) q329_10
noncomputable def q329_6:Mine.C:=.seq (.iff (.cmp .Eq (.loc 0) (.cst (.str (sc 38)))) q329_7 .skip) q329_8
noncomputable def q329_4:Mine.C:=.seq (.iff (.cmp .Eq (.loc 0) (.cst (.str (sc 6)))) q329_5 .skip) q329_6
noncomputable def q329_2:Mine.C:=.seq (.iff (.cmp .In (.loc 0) (.tup (.cons (.cst (.str (sc 21))) (.cons (.cst (.str (sc 17))) (.cons (.cst (.str (sc 22))) (.cons (.cst (.str (sc 23))) (.cons (.cst (.str (sc 24))) (.cons (.cst (.str (sc 7))) .nil)))))))) q329_3 .skip) q329_4
noncomputable def q329_0:Mine.C:=.seq (.iff (.bop .Or (.cons (.cmp .Eq (.loc 0) (.cst (.str (sc 15)))) (.cons (.cmp .Eq (.loc 0) (.cst (.str (sc 16)))) .nil))) q329_1 .skip) q329_2
noncomputable def q343_1:Mine.C:=.seq (.sat (.loc 0) 11 (.dict .nil .nil)) .skip
noncomputable def q343_0:Mine.C:=.seq (.sat (.loc 0) 10 (.dict .nil .nil)) q343_1
noncomputable def q350_2:Mine.C:=.seq (.rse (.fstr (.cons (.cst (.str (sc 42))) (.cons (.fval (.loc 2)) (.cons (.cst (.str (sc 43))) (.cons (.fval (.attr (.loc 1) 5)) (.cons (.cst (.str (sc 44))) .nil))))))) .skip
noncomputable def q350_4:Mine.C:=.seq (.rse (.fstr (.cons (.cst (.str (sc 45))) (.cons (.fval (.attr (.loc 1) 5)) (.cons (.cst (.str (sc 46))) .nil))))) .skip
noncomputable def q350_3:Mine.C:=.seq (.iff (.bop .Or (.cons (.cmp .Eq (.loc 2) (.attr (.loc 1) 5)) (.cons (.cmp .IsNot (.meth (.loc 0) 12 (.cons (.loc 2) (.cons (.attr (.loc 1) 5) .nil))) (.cst .none)) .nil))) q350_4 .skip) .skip
noncomputable def q350_1:Mine.C:=.seq (.iff (.not (.meth (.loc 0) 11 (.cons (.loc 2) .nil))) q350_2 .skip) q350_3
noncomputable def q350_6:Mine.C:=.seq (.sit (.attr (.loc 0) 10) (.attr (.loc 1) 5) (.loc 1)) .skip
noncomputable def q350_5:Mine.C:=.seq (.exp (.call (.glb (.ref 420)) (.cons (.loc 0) (.cons (.loc 1) .nil)))) q350_6
noncomputable def q350_0:Mine.C:=.seq (.frs (.one 2) (.itv (.attr (.loc 1) 9)) q350_1) q350_5
noncomputable def q364_0:Mine.C:=.seq (.ret (.meth (.attr (.loc 0) 10) 2 (.cons (.loc 1) .nil))) .skip
noncomputable def q371_0:Mine.C:=.seq (.ret (.cmp .In (.loc 1) (.call (.glb (.ref 322)) .nil))) .skip
noncomputable def q378_0:Mine.C:=.seq (.ret (.bop .Or (.cons (.cmp .In (.loc 1) (.attr (.loc 0) 10)) (.cons (.meth (.loc 0) 13 (.cons (.loc 1) .nil)) .nil)))) .skip
noncomputable def q385_2:Mine.C:=.seq (.asg 2 (.mkl (.attr (.sub (.attr (.loc 0) 10) (.loc 1)) 9))) .skip
noncomputable def q385_4:Mine.C:=.seq (.asg 2 (.call (.glb (.ref 329)) (.cons (.loc 1) .nil))) .skip
noncomputable def q385_3:Mine.C:=.seq (.iff (.meth (.loc 0) 13 (.cons (.loc 1) .nil)) q385_4 .skip) .skip
noncomputable def q385_7:Mine.C:=.seq (.exp (.meth (.loc 2) 0 (.cons (.loc 3) .nil))) .skip
noncomputable def q385_6:Mine.C:=.seq (.iff (.bop .And (.cons (.cmp .In (.loc 1) (.sub (.attr (.loc 0) 11) (.loc 3))) (.cons (.cmp .NotIn (.loc 3) (.loc 2)) .nil))) q385_7 .skip) .skip
noncomputable def q385_8:Mine.C:=.seq (.ret (.loc 2)) .skip
noncomputable def q385_5:Mine.C:=.seq (.frs (.one 3) (.itv (.attr (.loc 0) 11)) q385_6) q385_8
noncomputable def q385_1:Mine.C:=.seq (.iff (.cmp .In (.loc 1) (.attr (.loc 0) 10)) q385_2 q385_3) q385_5
noncomputable def q385_0:Mine.C:=.seq (.asg 2 (.list .nil)) q385_1
noncomputable def q392_9:Mine.C:=.seq (.exp (.meth (.loc 2) 0 (.cons (.tup (.cons (.loc 7) (.cons (.bin .Add (.loc 6) (.cst (.int (1)))) .nil))) .nil))) .skip
noncomputable def q392_8:Mine.C:=.seq (.sit (.loc 3) (.loc 7) (.cst (.bool true))) q392_9
noncomputable def q392_7:Mine.C:=.seq (.iff (.cmp .NotIn (.loc 7) (.loc 3)) q392_8 .skip) .skip
noncomputable def q392_6:Mine.C:=.seq (.frs (.one 7) (.itv (.meth (.loc 0) 14 (.cons (.loc 5) .nil))) q392_7) .skip
noncomputable def q392_5:Mine.C:=.seq (.auv 4 .Add (.cst (.int (1)))) q392_6
noncomputable def q392_4:Mine.C:=.seq (.unp (.two 5 6) (.sub (.loc 2) (.loc 4))) q392_5
noncomputable def q392_11:Mine.C:=.seq (.exp (.meth (.loc 2) 0 (.cons (.tup (.cons (.cst (.str (sc 26))) (.cons (.bin .Add (.sub (.sub (.loc 2) (.bin .Sub (.len (.loc 2)) (.cst (.int (1))))) (.cst (.int (1)))) (.cst (.int (1)))) .nil))) .nil))) .skip
noncomputable def q392_12:Mine.C:=.seq (.ret (.slc (.loc 2) (.opt (.cst (.int (1)))) .omit)) .skip
noncomputable def q392_10:Mine.C:=.seq (.iff (.cmp .NotEq (.loc 1) (.cst (.str (sc 26)))) q392_11 .skip) q392_12
noncomputable def q392_3:Mine.C:=.seq (.whl (.cmp .Lt (.loc 4) (.len (.loc 2))) q392_4) q392_10
noncomputable def q392_2:Mine.C:=.seq (.asg 4 (.cst (.int (0)))) q392_3
noncomputable def q392_1:Mine.C:=.seq (.asg 3 (.dict (.cons (.opt (.loc 1)) (.cons (.opt (.cst (.str (sc 26)))) .nil)) (.cons (.cst (.bool true)) (.cons (.cst (.bool true)) .nil)))) q392_2
noncomputable def q392_0:Mine.C:=.seq (.asg 2 (.list (.cons (.tup (.cons (.loc 1) (.cons (.cst (.int (0))) .nil))) .nil))) q392_1
noncomputable def q399_1:Mine.C:=.seq (.ret (.cst (.int (0)))) .skip
noncomputable def q399_4:Mine.C:=.seq (.ret (.loc 4)) .skip
noncomputable def q399_3:Mine.C:=.seq (.iff (.cmp .Eq (.loc 3) (.loc 2)) q399_4 .skip) .skip
noncomputable def q399_5:Mine.C:=.seq (.ret (.cst .none)) .skip
noncomputable def q399_2:Mine.C:=.seq (.frs (.two 3 4) (.itv (.meth (.loc 0) 15 (.cons (.loc 1) .nil))) q399_3) q399_5
noncomputable def q399_0:Mine.C:=.seq (.iff (.cmp .Eq (.loc 1) (.loc 2)) q399_1 .skip) q399_2
noncomputable def q406_4:Mine.C:=.seq (.asg 6 (.attr (.sub (.attr (.loc 0) 10) (.loc 4)) 12)) .skip
noncomputable def q406_6:Mine.C:=.seq (.asg 6 (.list (.cons (.tup (.cons (.cst (.str (sc 47))) (.cons (.loc 4) .nil))) .nil))) .skip
noncomputable def q406_7:Mine.C:=.seq (.asg 6 (.list .nil)) .skip
noncomputable def q406_5:Mine.C:=.seq (.iff (.bop .And (.cons (.cmp .Gt (.loc 5) (.cst (.int (0)))) (.cons (.cmp .In (.loc 4) (.call (.glb (.ref 315)) .nil)) (.cons (.cmp .In (.loc 1) (.attr (.loc 0) 10)) .nil)))) q406_6 q406_7) .skip
noncomputable def q406_11:Mine.C:=.seq (.exp (.meth (.loc 2) 0 (.cons (.tup (.cons (.loc 7) (.cons (.loc 8) .nil))) .nil))) .skip
noncomputable def q406_10:Mine.C:=.seq (.sit (.loc 3) (.loc 7) (.cst (.bool true))) q406_11
noncomputable def q406_9:Mine.C:=.seq (.iff (.cmp .NotIn (.loc 7) (.loc 3)) q406_10 .skip) .skip
noncomputable def q406_8:Mine.C:=.seq (.frs (.two 7 8) (.itv (.loc 6)) q406_9) .skip
noncomputable def q406_3:Mine.C:=.seq (.iff (.cmp .In (.loc 4) (.attr (.loc 0) 10)) q406_4 q406_5) q406_8
noncomputable def q406_12:Mine.C:=.seq (.ret (.loc 2)) .skip
noncomputable def q406_2:Mine.C:=.seq (.frs (.two 4 5) (.itv (.bin .Add (.list (.cons (.tup (.cons (.loc 1) (.cons (.cst (.int (0))) .nil))) .nil)) (.meth (.loc 0) 15 (.cons (.loc 1) .nil)))) q406_3) q406_12
noncomputable def q406_1:Mine.C:=.seq (.asg 3 (.dict .nil .nil)) q406_2
noncomputable def q406_0:Mine.C:=.seq (.asg 2 (.list .nil)) q406_1
noncomputable def q420_3:Mine.C:=.seq (.rse (.fstr (.cons (.cst (.str (sc 48))) (.cons (.fval (.loc 3)) (.cons (.cst (.str (sc 49))) (.cons (.fval (.attr (.loc 1) 5)) (.cons (.cst (.str (sc 44))) .nil))))))) .skip
noncomputable def q420_4:Mine.C:=.seq (.sit (.loc 2) (.loc 3) (.loc 4)) .skip
noncomputable def q420_2:Mine.C:=.seq (.iff (.cmp .In (.loc 3) (.loc 2)) q420_3 .skip) q420_4
noncomputable def q420_8:Mine.C:=.seq (.rse (.fstr (.cons (.cst (.str (sc 50))) (.cons (.fval (.loc 3)) (.cons (.cst (.str (sc 49))) (.cons (.fval (.attr (.loc 1) 5)) (.cons (.cst (.str (sc 51))) (.cons (.fval (.loc 5)) (.cons (.cst (.str (sc 44))) .nil))))))))) .skip
noncomputable def q420_7:Mine.C:=.seq (.iff (.bop .And (.cons (.cmp .In (.loc 3) (.loc 2)) (.cons (.cmp .Is (.meth (.loc 0) 12 (.cons (.sub (.loc 2) (.loc 3)) (.cons (.loc 4) .nil))) (.cst .none)) .nil))) q420_8 .skip) .skip
noncomputable def q420_6:Mine.C:=.seq (.frs (.two 3 4) (.itv (.meth (.loc 0) 16 (.cons (.loc 5) .nil))) q420_7) .skip
noncomputable def q420_5:Mine.C:=.seq (.frs (.one 5) (.itv (.attr (.loc 1) 9)) q420_6) .skip
noncomputable def q420_1:Mine.C:=.seq (.frs (.two 3 4) (.itv (.attr (.loc 1) 12)) q420_2) q420_5
noncomputable def q420_0:Mine.C:=.seq (.asg 2 (.dict .nil .nil)) q420_1
noncomputable def q427_1:Mine.C:=.seq (.ret (.list (.cons (.attr (.loc 0) 5) .nil))) .skip
noncomputable def q427_5:Mine.C:=.seq (.exp (.meth (.loc 1) 0 (.cons (.loc 2) .nil))) .skip
noncomputable def q427_4:Mine.C:=.seq (.iff (.bop .And (.cons (.cmp .NotEq (.loc 2) (.cst (.str (sc 16)))) (.cons (.cmp .NotIn (.loc 2) (.loc 1)) .nil))) q427_5 .skip) .skip
noncomputable def q427_6:Mine.C:=.seq (.ret (.loc 1)) .skip
noncomputable def q427_3:Mine.C:=.seq (.frs (.one 2) (.itv (.call (.glb (.ref 80)) (.cons (.loc 0) .nil))) q427_4) q427_6
noncomputable def q427_2:Mine.C:=.seq (.asg 1 (.call (.glb (.ref 87)) (.cons (.loc 0) .nil))) q427_3
noncomputable def q427_0:Mine.C:=.seq (.iff (.cmp .Eq (.attr (.loc 0) 1) (.cst (.str (sc 10)))) q427_1 .skip) q427_2
noncomputable def q434_6:Mine.C:=.seq (.exp (.meth (.loc 2) 0 (.cons (.tup (.cons (.sub (.loc 4) (.loc 5)) (.cons (.loc 5) .nil))) .nil))) .skip
noncomputable def q434_5:Mine.C:=.seq (.sit (.loc 3) (.sub (.loc 4) (.loc 5)) (.cst (.bool true))) q434_6
noncomputable def q434_4:Mine.C:=.seq (.iff (.cmp .NotIn (.sub (.loc 4) (.loc 5)) (.loc 3)) q434_5 .skip) .skip
noncomputable def q434_11:Mine.C:=.seq (.exp (.meth (.loc 2) 0 (.cons (.tup (.cons (.loc 6) (.cons (.bin .Add (.loc 5) (.loc 7)) .nil))) .nil))) .skip
noncomputable def q434_10:Mine.C:=.seq (.sit (.loc 3) (.loc 6) (.cst (.bool true))) q434_11
noncomputable def q434_9:Mine.C:=.seq (.iff (.cmp .NotIn (.loc 6) (.loc 3)) q434_10 .skip) .skip
noncomputable def q434_8:Mine.C:=.seq (.frs (.two 6 7) (.itv (.meth (.loc 0) 15 (.cons (.sub (.loc 4) (.loc 5)) .nil))) q434_9) .skip
noncomputable def q434_14:Mine.C:=.seq (.ret (.loc 2)) .skip
noncomputable def q434_13:Mine.C:=.seq (.exp (.meth (.loc 2) 0 (.cons (.tup (.cons (.cst (.str (sc 26))) (.cons (.bin .Add (.sub (.sub (.loc 2) (.bin .Sub (.len (.loc 2)) (.cst (.int (1))))) (.cst (.int (1)))) (.cst (.int (1)))) .nil))) .nil))) q434_14
noncomputable def q434_12:Mine.C:=.seq (.srt (.loc 2)) q434_13
noncomputable def q434_7:Mine.C:=.seq (.frs (.one 5) (.rng (.len (.loc 4))) q434_8) q434_12
noncomputable def q434_3:Mine.C:=.seq (.frs (.one 5) (.rng (.len (.loc 4))) q434_4) q434_7
noncomputable def q434_2:Mine.C:=.seq (.asg 4 (.call (.glb (.ref 427)) (.cons (.loc 1) .nil))) q434_3
noncomputable def q434_1:Mine.C:=.seq (.asg 3 (.dict (.cons (.opt (.cst (.str (sc 26)))) .nil) (.cons (.cst (.bool true)) .nil))) q434_2
noncomputable def q434_0:Mine.C:=.seq (.asg 2 (.list .nil)) q434_1
noncomputable def q441_2:Mine.C:=.seq (.ret (.cst (.bool true))) .skip
noncomputable def q441_1:Mine.C:=.seq (.iff (.cmp .Eq (.loc 3) (.loc 2)) q441_2 .skip) .skip
noncomputable def q441_3:Mine.C:=.seq (.ret (.cst (.bool false))) .skip
noncomputable def q441_0:Mine.C:=.seq (.frs (.two 3 4) (.itv (.call (.glb (.ref 434)) (.cons (.loc 0) (.cons (.loc 1) .nil)))) q441_1) q441_3
noncomputable def q477_4:Mine.C:=.seq (.sat (.loc 0) 23 (.cst (.bool false))) .skip
noncomputable def q477_3:Mine.C:=.seq (.sat (.loc 0) 22 (.cst (.bool false))) q477_4
noncomputable def q477_2:Mine.C:=.seq (.sat (.loc 0) 0 (.loc 3)) q477_3
noncomputable def q477_1:Mine.C:=.seq (.sat (.loc 0) 4 (.loc 2)) q477_2
noncomputable def q477_0:Mine.C:=.seq (.sat (.loc 0) 1 (.loc 1)) q477_1
noncomputable def q570_5:Mine.C:=.seq (.sat (.loc 0) 0 (.cst .none)) .skip
noncomputable def q570_4:Mine.C:=.seq (.sat (.loc 0) 26 (.loc 4)) q570_5
noncomputable def q570_3:Mine.C:=.seq (.sat (.loc 0) 25 (.loc 3)) q570_4
noncomputable def q570_2:Mine.C:=.seq (.sat (.loc 0) 24 (.loc 2)) q570_3
noncomputable def q570_1:Mine.C:=.seq (.sat (.loc 0) 5 (.loc 1)) q570_2
noncomputable def q570_0:Mine.C:=.seq (.sat (.loc 0) 1 (.ite (.loc 2) (.cst (.str (sc 13))) (.cst (.str (sc 12))))) q570_1
noncomputable def q592_6:Mine.C:=.seq (.sat (.loc 0) 30 (.dict .nil .nil)) .skip
noncomputable def q592_5:Mine.C:=.seq (.sat (.loc 0) 29 (.cst (.bool false))) q592_6
noncomputable def q592_4:Mine.C:=.seq (.sat (.loc 0) 3 (.dict .nil .nil)) q592_5
noncomputable def q592_3:Mine.C:=.seq (.sat (.loc 0) 0 (.loc 3)) q592_4
noncomputable def q592_2:Mine.C:=.seq (.sat (.loc 0) 28 (.loc 2)) q592_3
noncomputable def q592_1:Mine.C:=.seq (.sat (.loc 0) 27 (.loc 1)) q592_2
noncomputable def q592_0:Mine.C:=.seq (.sat (.loc 0) 1 (.cst (.str (sc 2)))) q592_1
noncomputable def q683_0:Mine.C:=.seq (.ret (.call (.glb (.ref 487)) (.cons (.cst (.str (sc 22))) (.cons (.mkl (.loc 0)) .nil)))) .skip
noncomputable def q690_1:Mine.C:=.seq (.ret (.call (.glb (.ref 487)) (.cons (.cst (.str (sc 21))) (.cons (.list (.cons (.cst .none) .nil)) .nil)))) .skip
noncomputable def q690_2:Mine.C:=.seq (.ret (.call (.glb (.ref 487)) (.cons (.cst (.str (sc 21))) (.cons (.list (.cons (.ite (.loc 0) (.cst (.int (1))) (.cst (.int (0)))) .nil)) .nil)))) .skip
noncomputable def q690_0:Mine.C:=.seq (.iff (.cmp .Is (.loc 0) (.cst .none)) q690_1 .skip) q690_2
noncomputable def q725_1:Mine.C:=.seq (.sat (.loc 0) 22 (.cst (.bool true))) .skip
noncomputable def q725_2:Mine.C:=.seq (.ret (.loc 0)) .skip
noncomputable def q725_0:Mine.C:=.seq (.iff (.isi (.loc 0) 487) q725_1 .skip) q725_2
noncomputable def q786_0:Mine.C:=.seq (.sat (.loc 0) 31 (.dict .nil .nil)) .skip
noncomputable def q875_2:Mine.C:=.seq (.sat (.loc 0) 33 (.cst .none)) .skip
noncomputable def q875_1:Mine.C:=.seq (.sat (.loc 0) 32 (.call (.glb (.ref 843)) .nil)) q875_2
noncomputable def q875_0:Mine.C:=.seq (.sat (.loc 0) 10 (.call (.glb (.ref 409)) .nil)) q875_1
noncomputable def q889_1:Mine.C:=.seq (.sat (.loc 0) 13 (.call (.glb (.ref 878)) .nil)) .skip
noncomputable def q889_2:Mine.C:=.seq (.ret (.attr (.loc 0) 13)) .skip
noncomputable def q889_0:Mine.C:=.seq (.iff (.cmp .Is (.attr (.loc 0) 13) (.cst .none)) q889_1 .skip) q889_2
noncomputable def q896_0:Mine.C:=.seq (.ret (.bin .Add (.bin .Add (.cst (.str (sc 52))) (.loc 0)) (.cst (.str (sc 44))))) .skip
noncomputable def q1042_1:Mine.C:=.seq (.ret (.loc 1)) .skip
noncomputable def q1042_0:Mine.C:=.seq (.sat (.loc 0) 19 (.cst (.bool false))) q1042_1
noncomputable def q1049_1:Mine.C:=.seq (.rse (.fstr (.cons (.cst (.str (sc 53))) (.cons (.fval (.loc 1)) (.cons (.cst (.str (sc 54))) .nil))))) .skip
noncomputable def q1049_3:Mine.C:=.seq (.rse (.fstr (.cons (.cst (.str (sc 55))) (.cons (.fval (.loc 1)) (.cons (.cst (.str (sc 56))) .nil))))) .skip
noncomputable def q1049_4:Mine.C:=.seq (.ret (.sub (.attr (.loc 0) 4) (.cst (.int (0))))) .skip
noncomputable def q1049_2:Mine.C:=.seq (.iff (.bop .Or (.cons (.cmp .NotEq (.attr (.loc 0) 1) (.cst (.str (sc 22)))) (.cons (.cmp .NotEq (.len (.attr (.loc 0) 4)) (.cst (.int (1)))) (.cons (.cmp .Is (.sub (.attr (.loc 0) 4) (.cst (.int (0)))) (.cst .none)) .nil)))) q1049_3 .skip) q1049_4
noncomputable def q1049_0:Mine.C:=.seq (.iff (.cmp .Is (.loc 0) (.cst .none)) q1049_1 .skip) q1049_2
noncomputable def q1056_1:Mine.C:=.seq (.ret (.list .nil)) .skip
noncomputable def q1056_3:Mine.C:=.seq (.rse (.cst (.str (sc 57)))) .skip
noncomputable def q1056_9:Mine.C:=.seq (.asg 4 (.call (.glb (.ref 1049)) (.cons (.loc 4) (.cons (.cst (.str (sc 58))) .nil)))) .skip
noncomputable def q1056_11:Mine.C:=.seq (.exp (.meth (.loc 2) 0 (.cons (.tup (.cons (.loc 5) (.cons (.loc 4) .nil))) .nil))) .skip
noncomputable def q1056_10:Mine.C:=.seq (.asg 5 (.ite (.bop .Or (.cons (.cmp .Is (.loc 1) (.cst .none)) (.cons (.cmp .Is (.sub (.loc 1) (.loc 3)) (.cst .none)) .nil))) (.cst (.str (sc 1))) (.sub (.loc 1) (.loc 3)))) q1056_11
noncomputable def q1056_8:Mine.C:=.seq (.iff (.cmp .Eq (.attr (.loc 0) 1) (.cst (.str (sc 23)))) q1056_9 .skip) q1056_10
noncomputable def q1056_7:Mine.C:=.seq (.asg 4 (.sub (.attr (.loc 0) 4) (.loc 3))) q1056_8
noncomputable def q1056_12:Mine.C:=.seq (.ret (.loc 2)) .skip
noncomputable def q1056_6:Mine.C:=.seq (.frs (.one 3) (.rng (.len (.attr (.loc 0) 4))) q1056_7) q1056_12
noncomputable def q1056_5:Mine.C:=.seq (.asg 2 (.list .nil)) q1056_6
noncomputable def q1056_4:Mine.C:=.seq (.asg 1 (.call (.glb (.ref 33)) (.cons (.loc 0) .nil))) q1056_5
noncomputable def q1056_2:Mine.C:=.seq (.iff (.bop .And (.cons (.cmp .NotEq (.attr (.loc 0) 1) (.cst (.str (sc 22)))) (.cons (.cmp .NotEq (.attr (.loc 0) 1) (.cst (.str (sc 23)))) .nil))) q1056_3 .skip) q1056_4
noncomputable def q1056_0:Mine.C:=.seq (.iff (.bop .Or (.cons (.cmp .Is (.loc 0) (.cst .none)) (.cons (.cmp .Eq (.attr (.loc 0) 1) (.cst (.str (sc 25)))) .nil))) q1056_1 .skip) q1056_2
noncomputable def q1061_4:Mine.C:=.seq (.exp (.meth (.loc 4) 0 (.cons (.loc 6) .nil))) .skip
noncomputable def q1061_5:Mine.C:=.seq (.exp (.meth (.loc 3) 0 (.cons (.tup (.cons (.loc 5) (.cons (.loc 6) .nil))) .nil))) .skip
noncomputable def q1061_3:Mine.C:=.seq (.iff (.cmp .Eq (.loc 5) (.cst (.str (sc 1)))) q1061_4 q1061_5) .skip
noncomputable def q1061_7:Mine.C:=.seq (.exp (.meth (.loc 3) 0 (.cons (.ite (.cmp .Eq (.loc 5) (.cst (.str (sc 1)))) (.tup (.cons (.loc 6) (.cons (.cst (.str (sc 26))) .nil))) (.tup (.cons (.loc 5) (.cons (.loc 6) .nil)))) .nil))) .skip
noncomputable def q1061_9:Mine.C:=.seq (.exp (.meth (.loc 4) 0 (.cons (.loc 6) .nil))) .skip
noncomputable def q1061_11:Mine.C:=.seq (.ret (.tup (.cons (.loc 3) (.cons (.comp [false,false,false,false,false,false,false,false] (.loc 0) (.itv (.loc 4)) (.cons (.cmp .NotEq (.loc 0) (.cst (.str (sc 59)))) .nil)) (.cons (.loc 7) .nil))))) .skip
noncomputable def q1061_10:Mine.C:=.seq (.asg 7 (.cmp .In (.cst (.str (sc 59))) (.loc 4))) q1061_11
noncomputable def q1061_8:Mine.C:=.seq (.frs (.two 5 6) (.itv (.call (.glb (.ref 1056)) (.cons (.loc 2) .nil))) q1061_9) q1061_10
noncomputable def q1061_6:Mine.C:=.seq (.frs (.two 5 6) (.itv (.call (.glb (.ref 1056)) (.cons (.loc 1) .nil))) q1061_7) q1061_8
noncomputable def q1061_2:Mine.C:=.seq (.frs (.two 5 6) (.itv (.call (.glb (.ref 1056)) (.cons (.loc 0) .nil))) q1061_3) q1061_6
noncomputable def q1061_1:Mine.C:=.seq (.asg 4 (.list .nil)) q1061_2
noncomputable def q1061_0:Mine.C:=.seq (.asg 3 (.list .nil)) q1061_1
noncomputable def q1068_1:Mine.C:=.seq (.ret (.dict .nil .nil)) .skip
noncomputable def q1068_5:Mine.C:=.seq (.ret (.dict .nil .nil)) .skip
noncomputable def q1068_6:Mine.C:=.seq (.ret (.dict (.cons (.opt (.cst (.str (sc 47)))) .nil) (.cons (.call (.glb (.ref 725)) (.cons (.loc 0) .nil)) .nil))) .skip
noncomputable def q1068_4:Mine.C:=.seq (.iff (.bop .And (.cons (.cmp .Eq (.attr (.loc 0) 1) (.cst (.str (sc 23)))) (.cons (.cmp .Eq (.len (.attr (.loc 0) 4)) (.cst (.int (0)))) .nil))) q1068_5 .skip) q1068_6
noncomputable def q1068_11:Mine.C:=.seq (.asg 4 (.call (.glb (.ref 487)) (.cons (.attr (.loc 0) 1) (.cons (.list (.cons (.loc 4) .nil)) .nil)))) .skip
noncomputable def q1068_12:Mine.C:=.seq (.sit (.loc 2) (.sub (.loc 1) (.loc 3)) (.call (.glb (.ref 725)) (.cons (.loc 4) .nil))) .skip
noncomputable def q1068_10:Mine.C:=.seq (.iff (.cmp .NotEq (.attr (.loc 0) 1) (.cst (.str (sc 23)))) q1068_11 .skip) q1068_12
noncomputable def q1068_9:Mine.C:=.seq (.asg 4 (.sub (.attr (.loc 0) 4) (.loc 3))) q1068_10
noncomputable def q1068_13:Mine.C:=.seq (.ret (.loc 2)) .skip
noncomputable def q1068_8:Mine.C:=.seq (.frs (.one 3) (.rng (.len (.loc 1))) q1068_9) q1068_13
noncomputable def q1068_7:Mine.C:=.seq (.asg 2 (.dict .nil .nil)) q1068_8
noncomputable def q1068_3:Mine.C:=.seq (.iff (.cmp .Is (.loc 1) (.cst .none)) q1068_4 .skip) q1068_7
noncomputable def q1068_2:Mine.C:=.seq (.asg 1 (.call (.glb (.ref 33)) (.cons (.loc 0) .nil))) q1068_3
noncomputable def q1068_0:Mine.C:=.seq (.iff (.bop .Or (.cons (.cmp .Is (.loc 0) (.cst .none)) (.cons (.cmp .Eq (.attr (.loc 0) 1) (.cst (.str (sc 25)))) .nil))) q1068_1 .skip) q1068_2
noncomputable def q1075_2:Mine.C:=.seq (.sit (.loc 2) (.loc 3) (.loc 4)) .skip
noncomputable def q1075_5:Mine.C:=.seq (.rse (.fstr (.cons (.cst (.str (sc 60))) (.cons (.fval (.call (.glb (.ref 896)) (.cons (.attr (.loc 1) 5) .nil))) (.cons (.cst (.str (sc 61))) (.cons (.fval (.call (.glb (.ref 896)) (.cons (.loc 5) .nil))) .nil)))))) .skip
noncomputable def q1075_7:Mine.C:=.seq (.rse (.fstr (.cons (.cst (.str (sc 62))) (.cons (.fval (.call (.glb (.ref 896)) (.cons (.attr (.loc 1) 5) .nil))) (.cons (.cst (.str (sc 63))) (.cons (.fval (.loc 5)) .nil)))))) .skip
noncomputable def q1075_6:Mine.C:=.seq (.iff (.not (.call (.glb (.ref 441)) (.cons (.loc 0) (.cons (.sub (.attr (.loc 1) 14) (.loc 5)) (.cons (.sub (.loc 2) (.loc 5)) .nil))))) q1075_7 .skip) .skip
noncomputable def q1075_4:Mine.C:=.seq (.iff (.cmp .NotIn (.loc 5) (.loc 2)) q1075_5 .skip) q1075_6
noncomputable def q1075_3:Mine.C:=.seq (.frs (.one 5) (.itv (.attr (.loc 1) 14)) q1075_4) .skip
noncomputable def q1075_1:Mine.C:=.seq (.frs (.two 3 4) (.itv (.meth (.loc 0) 16 (.cons (.attr (.loc 1) 5) .nil))) q1075_2) q1075_3
noncomputable def q1075_0:Mine.C:=.seq (.asg 2 (.dict .nil .nil)) q1075_1
noncomputable def q1082_1:Mine.C:=.seq (.ret (.call (.glb (.ref 573)) (.cons (.bin .Add (.cst (.str (sc 64))) (.loc 0)) (.cons (.cst (.bool false)) (.cons (.loc 1) (.cons (.cst (.str (sc 1))) .nil)))))) .skip
noncomputable def q1082_0:Mine.C:=.seq (.dfn 1) q1082_1
noncomputable def q1089_5:Mine.C:=.seq (.asg 7 (.cst (.bool true))) .skip
noncomputable def q1089_8:Mine.C:=.seq (.asg 9 (.cst .none)) .skip
noncomputable def q1089_14:Mine.C:=.seq (.exp (.call (.glb (.ref 1075)) (.cons (.loc 10) (.cons (.loc 12) .nil)))) .skip
noncomputable def q1089_16:Mine.C:=.seq (.dli (.attr (.loc 10) 10) (.loc 4)) .skip
noncomputable def q1089_17:Mine.C:=.seq (.sit (.attr (.loc 10) 10) (.loc 4) (.loc 11)) .skip
noncomputable def q1089_18:Mine.C:=.seq .rer .skip
noncomputable def q1089_15:Mine.C:=.seq (.iff (.cmp .Is (.loc 11) (.cst .none)) q1089_16 q1089_17) q1089_18
noncomputable def q1089_19:Mine.C:=.seq (.ret (.call (.glb (.ref 1042)) (.cons (.loc 0) (.cons (.call (.glb (.ref 1082)) (.cons (.loc 4) .nil)) .nil)))) .skip
noncomputable def q1089_13:Mine.C:=.seq (.tri q1089_14 none q1089_15) q1089_19
noncomputable def q1089_12:Mine.C:=.seq (.exp (.meth (.loc 10) 17 (.cons (.loc 12) .nil))) q1089_13
noncomputable def q1089_11:Mine.C:=.seq (.asg 12 (.call (.glb (.ref 304)) (.cons (.loc 4) (.cons (.loc 5) (.cons (.loc 6) (.cons (.loc 9) (.cons (.loc 7) (.cons (.loc 8) .nil)))))))) q1089_12
noncomputable def q1089_10:Mine.C:=.seq (.asg 11 (.meth (.loc 10) 2 (.cons (.loc 4) .nil))) q1089_11
noncomputable def q1089_9:Mine.C:=.seq (.asg 10 (.attr (.call (.glb (.ref 889)) (.cons (.loc 0) .nil)) 10)) q1089_10
noncomputable def q1089_7:Mine.C:=.seq (.iff (.bop .And (.cons (.cmp .IsNot (.loc 9) (.cst .none)) (.cons (.not (.call (.glb (.ref 718)) (.cons (.loc 9) .nil))) .nil))) q1089_8 .skip) q1089_9
noncomputable def q1089_6:Mine.C:=.seq (.asg 9 (.sub (.loc 3) (.cst (.int (4))))) q1089_7
noncomputable def q1089_4:Mine.C:=.seq (.iff (.bop .And (.cons (.cmp .Eq (.len (.loc 5)) (.cst (.int (0)))) (.cons (.cmp .Eq (.len (.loc 6)) (.cst (.int (0)))) (.cons (.cmp .Eq (.len (.loc 8)) (.cst (.int (0)))) .nil)))) q1089_5 .skip) q1089_6
noncomputable def q1089_3:Mine.C:=.seq (.asg 8 (.call (.glb (.ref 1068)) (.cons (.sub (.loc 3) (.cst (.int (2)))) .nil))) q1089_4
noncomputable def q1089_2:Mine.C:=.seq (.unp (.three 5 6 7) (.call (.glb (.ref 1061)) (.cons (.sub (.loc 3) (.cst (.int (1)))) (.cons (.sub (.loc 3) (.cst (.int (11)))) (.cons (.sub (.loc 3) (.cst (.int (3)))) .nil))))) q1089_3
noncomputable def q1089_1:Mine.C:=.seq (.asg 4 (.call (.glb (.ref 1049)) (.cons (.sub (.loc 3) (.cst (.int (0)))) (.cons (.cst (.str (sc 65))) .nil)))) q1089_2
noncomputable def q1089_0:Mine.C:=.seq (.asg 3 (.call (.glb (.ref 287)) (.cons (.loc 1) (.cons (.list (.cons (.cst (.str (sc 65))) (.cons (.cst (.str (sc 66))) (.cons (.cst (.str (sc 67))) (.cons (.cst (.str (sc 68))) (.cons (.cst (.str (sc 69))) (.cons (.cst (.str (sc 70))) (.cons (.cst (.str (sc 71))) (.cons (.cst (.str (sc 72))) (.cons (.cst (.str (sc 73))) (.cons (.cst (.str (sc 74))) (.cons (.cst (.str (sc 75))) (.cons (.cst (.str (sc 58))) .nil))))))))))))) .nil)))) q1089_1
noncomputable def q1103_2:Mine.C:=.seq (.ret (.tup (.cons (.sub (.sub (.loc 0) (.loc 2)) (.cst (.int (1)))) (.cons (.bin .Add (.slc (.loc 0) .omit (.opt (.loc 2))) (.slc (.loc 0) (.opt (.bin .Add (.loc 2) (.cst (.int (1))))) .omit)) .nil)))) .skip
noncomputable def q1103_1:Mine.C:=.seq (.iff (.cmp .Eq (.sub (.sub (.loc 0) (.loc 2)) (.cst (.int (0)))) (.loc 1)) q1103_2 .skip) .skip
noncomputable def q1103_5:Mine.C:=.seq (.ret (.tup (.cons (.sub (.sub (.loc 0) (.loc 2)) (.cst (.int (1)))) (.cons (.bin .Add (.slc (.loc 0) .omit (.opt (.loc 2))) (.slc (.loc 0) (.opt (.bin .Add (.loc 2) (.cst (.int (1))))) .omit)) .nil)))) .skip
noncomputable def q1103_4:Mine.C:=.seq (.iff (.bop .Or (.cons (.cmp .Is (.sub (.sub (.loc 0) (.loc 2)) (.cst (.int (0)))) (.cst .none)) (.cons (.cmp .Eq (.sub (.sub (.loc 0) (.loc 2)) (.cst (.int (0)))) (.cst (.str (sc 1)))) .nil))) q1103_5 .skip) .skip
noncomputable def q1103_6:Mine.C:=.seq (.rse (.fstr (.cons (.cst (.str (sc 53))) (.cons (.fval (.loc 1)) (.cons (.cst (.str (sc 54))) .nil))))) .skip
noncomputable def q1103_3:Mine.C:=.seq (.frs (.one 2) (.rng (.len (.loc 0))) q1103_4) q1103_6
noncomputable def q1103_0:Mine.C:=.seq (.frs (.one 2) (.rng (.len (.loc 0))) q1103_1) q1103_3
noncomputable def q1110_1:Mine.C:=.seq (.ret (.call (.glb (.ref 690)) (.cons (.bop .And (.cons (.cmp .IsNot (.loc 3) (.cst .none)) (.cons (.attr (.loc 3) 15) .nil))) .nil))) .skip
noncomputable def q1110_0:Mine.C:=.seq (.asg 3 (.meth (.attr (.call (.glb (.ref 889)) (.cons (.loc 0) .nil)) 10) 2 (.cons (.call (.glb (.ref 1049)) (.cons (.sub (.call (.glb (.ref 287)) (.cons (.loc 1) (.cons (.list (.cons (.cst (.str (sc 65))) .nil)) .nil))) (.cst (.int (0)))) (.cons (.cst (.str (sc 65))) .nil))) .nil))) q1110_1
noncomputable def q1117_0:Mine.C:=.seq (.ret (.call (.glb (.ref 690)) (.cons (.meth (.attr (.call (.glb (.ref 889)) (.cons (.loc 0) .nil)) 10) 11 (.cons (.call (.glb (.ref 1049)) (.cons (.sub (.call (.glb (.ref 287)) (.cons (.loc 1) (.cons (.list (.cons (.cst (.str (sc 65))) .nil)) .nil))) (.cst (.int (0)))) (.cons (.cst (.str (sc 65))) .nil))) .nil)) .nil))) .skip
noncomputable def q1124_3:Mine.C:=.seq (.ret (.call (.glb (.ref 690)) (.cons (.cmp .IsNot (.loc 5) (.cst .none)) .nil))) .skip
noncomputable def q1124_2:Mine.C:=.seq (.asg 5 (.meth (.loc 4) 12 (.cons (.call (.glb (.ref 1049)) (.cons (.sub (.loc 3) (.cst (.int (0)))) (.cons (.cst (.str (sc 76))) .nil))) (.cons (.call (.glb (.ref 1049)) (.cons (.sub (.loc 3) (.cst (.int (1)))) (.cons (.cst (.str (sc 77))) .nil))) .nil)))) q1124_3
noncomputable def q1124_1:Mine.C:=.seq (.asg 4 (.attr (.call (.glb (.ref 889)) (.cons (.loc 0) .nil)) 10)) q1124_2
noncomputable def q1124_0:Mine.C:=.seq (.asg 3 (.call (.glb (.ref 287)) (.cons (.loc 1) (.cons (.list (.cons (.cst (.str (sc 76))) (.cons (.cst (.str (sc 77))) .nil))) .nil)))) q1124_1
noncomputable def q1131_1:Mine.C:=.seq (.ret (.meth (.attr (.call (.glb (.ref 889)) (.cons (.loc 0) .nil)) 10) 16 (.cons (.loc 2) .nil))) .skip
noncomputable def q1131_0:Mine.C:=.seq (.asg 2 (.ite (.cmp .Eq (.attr (.loc 1) 1) (.cst (.str (sc 10)))) (.attr (.loc 1) 5) (.call (.glb (.ref 1049)) (.cons (.loc 1) (.cons (.cst (.str (sc 78))) .nil))))) q1131_1
noncomputable def q1136_0:Mine.C:=.seq (.ret (.call (.glb (.ref 683)) (.cons (.comp [false,false,false] (.sub (.loc 0) (.cst (.int (0)))) (.itv (.call (.glb (.ref 1131)) (.cons (.loc 0) (.cons (.sub (.call (.glb (.ref 1103)) (.cons (.loc 1) (.cons (.cst (.str (sc 78))) .nil))) (.cst (.int (0)))) .nil)))) .nil) .nil))) .skip
noncomputable def q1141_3:Mine.C:=.seq (.sat (.loc 4) 0 (.dict (.cons (.opt (.cst (.str (sc 3)))) .nil) (.cons (.call (.glb (.ref 683)) (.cons (.comp [false,false,false,false,false] (.sub (.loc 0) (.cst (.int (0)))) (.itv (.loc 3)) .nil) .nil)) .nil))) .skip
noncomputable def q1141_4:Mine.C:=.seq (.ret (.loc 4)) .skip
noncomputable def q1141_2:Mine.C:=.seq (.iff (.cmp .Gt (.len (.loc 3)) (.cst (.int (0)))) q1141_3 .skip) q1141_4
noncomputable def q1141_1:Mine.C:=.seq (.asg 4 (.call (.glb (.ref 683)) (.cons (.comp [false,false,false,false,false] (.sub (.loc 0) (.cst (.int (1)))) (.itv (.loc 3)) .nil) .nil))) q1141_2
noncomputable def q1141_0:Mine.C:=.seq (.asg 3 (.call (.glb (.ref 1131)) (.cons (.loc 0) (.cons (.sub (.call (.glb (.ref 1103)) (.cons (.loc 1) (.cons (.cst (.str (sc 78))) .nil))) (.cst (.int (0)))) .nil)))) q1141_1
noncomputable def q1253_18:Mine.C:=.seq (.sat (.loc 0) 13 (.cst .none)) .skip
noncomputable def q1253_17:Mine.C:=.seq (.sat (.loc 0) 47 (.cst .none)) q1253_18
noncomputable def q1253_16:Mine.C:=.seq (.sat (.loc 0) 46 (.cst .none)) q1253_17
noncomputable def q1253_15:Mine.C:=.seq (.sat (.loc 0) 45 (.cst .none)) q1253_16
noncomputable def q1253_14:Mine.C:=.seq (.sat (.loc 0) 44 (.cst .none)) q1253_15
noncomputable def q1253_13:Mine.C:=.seq (.sat (.loc 0) 43 (.cst .none)) q1253_14
noncomputable def q1253_12:Mine.C:=.seq (.sat (.loc 0) 19 (.cst (.bool true))) q1253_13
noncomputable def q1253_11:Mine.C:=.seq (.sat (.loc 0) 42 (.cst (.int (0)))) q1253_12
noncomputable def q1253_10:Mine.C:=.seq (.sat (.loc 0) 41 (.list .nil)) q1253_11
noncomputable def q1253_9:Mine.C:=.seq (.sat (.loc 0) 40 (.list .nil)) q1253_10
noncomputable def q1253_8:Mine.C:=.seq (.sat (.loc 0) 39 (.list .nil)) q1253_9
noncomputable def q1253_7:Mine.C:=.seq (.sat (.loc 0) 38 (.list .nil)) q1253_8
noncomputable def q1253_6:Mine.C:=.seq (.sat (.loc 0) 37 (.list .nil)) q1253_7
noncomputable def q1253_5:Mine.C:=.seq (.sat (.loc 0) 18 (.meth (.loc 0) 18 (.cons (.attr (.loc 0) 16) .nil))) q1253_6
noncomputable def q1253_4:Mine.C:=.seq (.sat (.loc 0) 16 (.meth (.loc 0) 18 (.cons (.cst .none) .nil))) q1253_5
noncomputable def q1253_3:Mine.C:=.seq (.sat (.loc 0) 17 (.cst (.int (0)))) q1253_4
noncomputable def q1253_2:Mine.C:=.seq (.sat (.loc 0) 36 (.cst (.int (0)))) q1253_3
noncomputable def q1253_1:Mine.C:=.seq (.sat (.loc 0) 35 (.loc 2)) q1253_2
noncomputable def q1253_0:Mine.C:=.seq (.sat (.loc 0) 34 (.loc 1)) q1253_1
noncomputable def q1260_2:Mine.C:=.seq (.ret (.loc 2)) .skip
noncomputable def q1260_1:Mine.C:=.seq (.aua (.loc 0) 17 .Add (.cst (.int (1)))) q1260_2
noncomputable def q1260_0:Mine.C:=.seq (.asg 2 (.call (.glb (.ref 595)) (.cons (.attr (.loc 0) 17) (.cons (.loc 1) .nil)))) q1260_1
noncomputable def q1462_4:Mine.C:=.seq (.asg 3 (.bin .Sub (.cst (.int (1))) (.bin .Mult (.cst (.int (6))) (.loc 3)))) .skip
noncomputable def q1462_9:Mine.C:=.seq (.asg 3 (.bin .FloorDiv (.loc 3) (.cst (.int (96))))) .skip
noncomputable def q1462_8:Mine.C:=.seq (.exp (.meth (.loc 4) 0 (.cons (.bin .Mod (.loc 3) (.cst (.int (96)))) .nil))) q1462_9
noncomputable def q1462_10:Mine.C:=.seq (.exp (.meth (.loc 1) 0 (.cons (.loc 4) .nil))) .skip
noncomputable def q1462_7:Mine.C:=.seq (.whl (.bop .And (.cons (.cmp .Gt (.loc 3) (.cst (.int (0)))) (.cons (.cmp .Lt (.len (.loc 4)) (.cst (.int (16)))) .nil))) q1462_8) q1462_10
noncomputable def q1462_6:Mine.C:=.seq (.asg 3 (.bin .FloorDiv (.loc 3) (.cst (.int (96))))) q1462_7
noncomputable def q1462_5:Mine.C:=.seq (.asg 4 (.list (.cons (.bin .Mod (.loc 3) (.cst (.int (96)))) .nil))) q1462_6
noncomputable def q1462_3:Mine.C:=.seq (.iff (.cmp .Lt (.loc 3) (.cst (.int (0)))) q1462_4 .skip) q1462_5
noncomputable def q1462_2:Mine.C:=.seq (.asg 3 (.loc 2)) q1462_3
noncomputable def q1462_13:Mine.C:=.seq (.exp (.extr (.loc 5) (.loc 4))) .skip
noncomputable def q1462_14:Mine.C:=.seq (.ret (.slc (.loc 5) (.opt (.max (.cst (.int (0))) (.bin .Sub (.len (.loc 5)) (.cst (.int (150)))))) .omit)) .skip
noncomputable def q1462_12:Mine.C:=.seq (.frs (.one 4) (.rev (.loc 1)) q1462_13) q1462_14
noncomputable def q1462_11:Mine.C:=.seq (.asg 5 (.list .nil)) q1462_12
noncomputable def q1462_1:Mine.C:=.seq (.frs (.one 2) (.itv (.slc (.loc 0) .omit (.opt (.cst (.int (46)))))) q1462_2) q1462_11
noncomputable def q1462_0:Mine.C:=.seq (.asg 1 (.list .nil)) q1462_1
noncomputable def q1469_0:Mine.C:=.seq (.ret (.ite (.cmp .Gt (.len (.loc 0)) (.cst (.int (0)))) (.bin .Mod (.meth (.loc 0) 1 .nil) (.loc 1)) (.cst (.int (0))))) .skip
noncomputable def q1476_0:Mine.C:=.seq (.ret (.call (.glb (.ref 487)) (.cons (.cst (.str (sc 22))) (.cons (.list (.cons (.loc 0) .nil)) .nil)))) .skip
noncomputable def q1483_0:Mine.C:=.seq (.ret (.call (.glb (.ref 487)) (.cons (.cst (.str (sc 22))) (.cons (.loc 0) (.cons (.dict (.cons (.opt (.cst (.str (sc 3)))) .nil) (.cons (.call (.glb (.ref 487)) (.cons (.cst (.str (sc 22))) (.cons (.loc 1) .nil))) .nil)) .nil))))) .skip
noncomputable def q1490_5:Mine.C:=.seq (.exp (.meth (.loc 2) 0 (.cons (.loc 4) .nil))) .skip
noncomputable def q1490_4:Mine.C:=.seq (.iff (.cmp .NotIn (.loc 4) (.loc 2)) q1490_5 .skip) .skip
noncomputable def q1490_6:Mine.C:=.seq (.auv 3 .Add (.cst (.int (1)))) .skip
noncomputable def q1490_3:Mine.C:=.seq (.frs (.one 4) (.itv (.ite (.cmp .In (.sub (.loc 2) (.loc 3)) (.loc 0)) (.sub (.sub (.loc 0) (.sub (.loc 2) (.loc 3))) (.cst (.str (sc 79)))) (.list .nil))) q1490_4) q1490_6
noncomputable def q1490_7:Mine.C:=.seq (.ret (.loc 2)) .skip
noncomputable def q1490_2:Mine.C:=.seq (.whl (.cmp .Lt (.loc 3) (.len (.loc 2))) q1490_3) q1490_7
noncomputable def q1490_1:Mine.C:=.seq (.asg 3 (.cst (.int (0)))) q1490_2
noncomputable def q1490_0:Mine.C:=.seq (.asg 2 (.list (.cons (.loc 1) .nil))) q1490_1
noncomputable def q1495_4:Mine.C:=.seq (.exp (.meth (.loc 2) 0 (.cons (.tup (.cons (.loc 4) (.cons (.loc 5) .nil))) .nil))) .skip
noncomputable def q1495_3:Mine.C:=.seq (.iff (.cmp .NotIn (.loc 4) (.comp [false,false,false,false,false,false] (.sub (.loc 0) (.cst (.int (0)))) (.itv (.loc 2)) .nil)) q1495_4 .skip) .skip
noncomputable def q1495_2:Mine.C:=.seq (.frs (.two 4 5) (.itv (.sub (.sub (.loc 0) (.loc 3)) (.cst (.str (sc 58))))) q1495_3) .skip
noncomputable def q1495_5:Mine.C:=.seq (.ret (.loc 2)) .skip
noncomputable def q1495_1:Mine.C:=.seq (.frs (.one 3) (.itv (.call (.glb (.ref 1490)) (.cons (.loc 0) (.cons (.loc 1) .nil)))) q1495_2) q1495_5
noncomputable def q1495_0:Mine.C:=.seq (.asg 2 (.list .nil)) q1495_1
noncomputable def q1502_3:Mine.C:=.seq (.ret (.bin .Add (.bin .Add (.bin .Add (.loc 6) (.cst (.str (sc 52)))) (.loc 1)) (.cst (.str (sc 44))))) .skip
noncomputable def q1502_2:Mine.C:=.seq (.asg 6 (.bin .Add (.bin .Add (.cst (.str (sc 42))) (.loc 5)) (.cst (.str (sc 80))))) q1502_3
noncomputable def q1502_5:Mine.C:=.seq (.ret (.bin .Add (.bin .Add (.cst (.str (sc 45))) (.loc 1)) (.cst (.str (sc 46))))) .skip
noncomputable def q1502_4:Mine.C:=.seq (.iff (.bop .Or (.cons (.cmp .Eq (.loc 5) (.loc 1)) (.cons (.cmp .In (.loc 1) (.call (.glb (.ref 1490)) (.cons (.loc 0) (.cons (.loc 5) .nil)))) .nil))) q1502_5 .skip) .skip
noncomputable def q1502_1:Mine.C:=.seq (.iff (.cmp .NotIn (.loc 5) (.loc 0)) q1502_2 .skip) q1502_4
noncomputable def q1502_9:Mine.C:=.seq (.ret (.bin .Add (.bin .Add (.bin .Add (.bin .Add (.cst (.str (sc 48))) (.loc 8)) (.cst (.str (sc 49)))) (.loc 1)) (.cst (.str (sc 44))))) .skip
noncomputable def q1502_10:Mine.C:=.seq (.sit (.loc 7) (.loc 8) (.loc 9)) .skip
noncomputable def q1502_8:Mine.C:=.seq (.iff (.cmp .In (.loc 8) (.loc 7)) q1502_9 .skip) q1502_10
noncomputable def q1502_14:Mine.C:=.seq (.ret (.bin .Add (.bin .Add (.bin .Add (.bin .Add (.bin .Add (.bin .Add (.cst (.str (sc 50))) (.loc 8)) (.cst (.str (sc 49)))) (.loc 1)) (.cst (.str (sc 51)))) (.loc 5)) (.cst (.str (sc 44))))) .skip
noncomputable def q1502_13:Mine.C:=.seq (.iff (.bop .And (.cons (.cmp .In (.loc 8) (.loc 7)) (.cons (.cmp .NotEq (.sub (.loc 7) (.loc 8)) (.loc 9)) (.cons (.cmp .NotEq (.loc 9) (.cst (.str (sc 26)))) .nil)))) q1502_14 .skip) .skip
noncomputable def q1502_12:Mine.C:=.seq (.frs (.two 8 9) (.itv (.call (.glb (.ref 1495)) (.cons (.loc 0) (.cons (.loc 5) .nil)))) q1502_13) .skip
noncomputable def q1502_21:Mine.C:=.seq (.ret (.bin .Add (.bin .Add (.bin .Add (.loc 6) (.cst (.str (sc 52)))) (.loc 8)) (.cst (.str (sc 44))))) .skip
noncomputable def q1502_20:Mine.C:=.seq (.asg 6 (.bin .Add (.bin .Add (.cst (.str (sc 81))) (.loc 1)) (.cst (.str (sc 82))))) q1502_21
noncomputable def q1502_24:Mine.C:=.seq (.ret (.bin .Add (.bin .Add (.loc 6) (.cst (.str (sc 85)))) (.loc 8))) .skip
noncomputable def q1502_23:Mine.C:=.seq (.asg 6 (.bin .Add (.bin .Add (.cst (.str (sc 83))) (.loc 1)) (.cst (.str (sc 84))))) q1502_24
noncomputable def q1502_22:Mine.C:=.seq (.iff (.cmp .NotIn (.sub (.loc 11) (.loc 8)) (.list (.cons (.cst (.str (sc 26))) (.cons (.loc 9) .nil)))) q1502_23 .skip) .skip
noncomputable def q1502_19:Mine.C:=.seq (.iff (.cmp .NotIn (.loc 8) (.loc 11)) q1502_20 .skip) q1502_22
noncomputable def q1502_25:Mine.C:=.seq (.ret (.cst (.str (sc 1)))) .skip
noncomputable def q1502_18:Mine.C:=.seq (.frs (.two 8 9) (.itv (.loc 4)) q1502_19) q1502_25
noncomputable def q1502_17:Mine.C:=.seq (.asg 11 (.mkd (.call (.glb (.ref 1495)) (.cons (.loc 10) (.cons (.loc 1) .nil))))) q1502_18
noncomputable def q1502_16:Mine.C:=.seq (.sit (.loc 10) (.loc 1) (.dict (.cons (.opt (.cst (.str (sc 58)))) (.cons (.opt (.cst (.str (sc 79)))) .nil)) (.cons (.loc 2) (.cons (.loc 3) .nil)))) q1502_17
noncomputable def q1502_15:Mine.C:=.seq (.asg 10 (.mkd (.loc 0))) q1502_16
noncomputable def q1502_11:Mine.C:=.seq (.frs (.one 5) (.itv (.loc 3)) q1502_12) q1502_15
noncomputable def q1502_7:Mine.C:=.seq (.frs (.two 8 9) (.itv (.loc 2)) q1502_8) q1502_11
noncomputable def q1502_6:Mine.C:=.seq (.asg 7 (.dict .nil .nil)) q1502_7
noncomputable def q1502_0:Mine.C:=.seq (.frs (.one 5) (.itv (.loc 3)) q1502_1) q1502_6
noncomputable def q1507_4:Mine.C:=.seq (.exp (.meth (.loc 4) 0 (.cons (.tup (.cons (.loc 6) (.cons (.sub (.list (.cons (.cst (.str (sc 17))) (.cons (.cst (.str (sc 22))) (.cons (.cst (.str (sc 26))) .nil)))) (.call (.glb (.ref 1469)) (.cons (.loc 0) (.cons (.cst (.int (3))) .nil)))) .nil))) .nil))) .skip
noncomputable def q1507_3:Mine.C:=.seq (.asg 6 (.sub (.list (.cons (.cst (.str (sc 89))) (.cons (.cst (.str (sc 90))) (.cons (.cst (.str (sc 91))) (.cons (.cst (.str (sc 92))) .nil))))) (.call (.glb (.ref 1469)) (.cons (.loc 0) (.cons (.cst (.int (4))) .nil))))) q1507_4
noncomputable def q1507_9:Mine.C:=.seq (.exp (.meth (.loc 7) 0 (.cons (.loc 8) .nil))) .skip
noncomputable def q1507_8:Mine.C:=.seq (.iff (.cmp .NotIn (.loc 8) (.loc 7)) q1507_9 .skip) .skip
noncomputable def q1507_7:Mine.C:=.seq (.asg 8 (.sub (.list (.cons (.cst (.str (sc 86))) (.cons (.cst (.str (sc 87))) (.cons (.cst (.str (sc 88))) (.cons (.cst (.str (sc 93))) .nil))))) (.call (.glb (.ref 1469)) (.cons (.loc 0) (.cons (.cst (.int (4))) .nil))))) q1507_8
noncomputable def q1507_14:Mine.C:=.seq (.exp (.meth (.loc 9) 0 (.cons (.tup (.cons (.loc 6) (.cons (.sub (.list (.cons (.cst (.str (sc 17))) (.cons (.cst (.str (sc 22))) .nil))) (.bin .Sub (.loc 10) (.cst (.int (1))))) .nil))) .nil))) .skip
noncomputable def q1507_13:Mine.C:=.seq (.iff (.cmp .Gt (.loc 10) (.cst (.int (0)))) q1507_14 .skip) .skip
noncomputable def q1507_12:Mine.C:=.seq (.asg 10 (.call (.glb (.ref 1469)) (.cons (.loc 0) (.cons (.cst (.int (3))) .nil)))) q1507_13
noncomputable def q1507_19:Mine.C:=.seq (.exp (.meth (.loc 11) 0 (.cons (.tup (.cons (.cst (.str (sc 67))) (.cons (.call (.glb (.ref 487)) (.cons (.cst (.str (sc 23))) (.cons (.loc 12) (.cons (.dict (.cons (.opt (.cst (.str (sc 3)))) .nil) (.cons (.call (.glb (.ref 487)) (.cons (.cst (.str (sc 22))) (.cons (.comp [false,false,false,false,false,false,false,false,false,false,false,false,false,false,false,false,false] (.sub (.loc 0) (.cst (.int (0)))) (.itv (.loc 9)) .nil) .nil))) .nil)) .nil)))) .nil))) .nil))) .skip
noncomputable def q1507_18:Mine.C:=.seq (.asgc 12 [false,false,false,false,false,false,false,false,false,false,false,false,false,false,false,false,false] (.ite (.cmp .Eq (.sub (.loc 0) (.cst (.int (1)))) (.cst (.str (sc 17)))) (.call (.glb (.ref 487)) (.cons (.cst (.str (sc 15))) (.cons (.list (.cons (.cst (.int (4))) .nil)) .nil))) (.call (.glb (.ref 1476)) (.cons (.cst (.str (sc 95))) .nil))) (.itv (.loc 9)) .nil) q1507_19
noncomputable def q1507_26:Mine.C:=.seq (.ret (.cst (.bool false))) .skip
noncomputable def q1507_25:Mine.C:=.seq (.iff (.attr (.loc 1) 19) q1507_26 .skip) .skip
noncomputable def q1507_24:Mine.C:=.seq (.exp (.call (.glb (.ref 1089)) (.cons (.loc 1) (.cons (.loc 11) (.cons (.attr (.loc 1) 18) .nil))))) q1507_25
noncomputable def q1507_27:Mine.C:=.seq (.asg 14 (.attr (.loc 15) 20)) .skip
noncomputable def q1507_30:Mine.C:=.seq (.sit (.loc 2) (.loc 3) (.dict (.cons (.opt (.cst (.str (sc 58)))) (.cons (.opt (.cst (.str (sc 79)))) (.cons (.opt (.cst (.str (sc 96)))) .nil))) (.cons (.loc 4) (.cons (.loc 7) (.cons (.loc 16) .nil))))) .skip
noncomputable def q1507_29:Mine.C:=.seq (.asg 16 (.bop .And (.cons (.cmp .Eq (.loc 4) (.list .nil)) (.cons (.cmp .Eq (.loc 7) (.list .nil)) (.cons (.cmp .Eq (.loc 9) (.list .nil)) .nil))))) q1507_30
noncomputable def q1507_31:Mine.C:=.seq (.ret (.cmp .Eq (.loc 14) (.loc 13))) .skip
noncomputable def q1507_28:Mine.C:=.seq (.iff (.cmp .Eq (.loc 13) (.cst (.str (sc 1)))) q1507_29 .skip) q1507_31
noncomputable def q1507_23:Mine.C:=.seq (.tri q1507_24 (some 15) q1507_27) q1507_28
noncomputable def q1507_22:Mine.C:=.seq (.sat (.loc 1) 19 (.cst (.bool true))) q1507_23
noncomputable def q1507_21:Mine.C:=.seq (.asg 14 (.cst (.str (sc 1)))) q1507_22
noncomputable def q1507_20:Mine.C:=.seq (.asg 13 (.call (.glb (.ref 1502)) (.cons (.loc 2) (.cons (.loc 3) (.cons (.loc 4) (.cons (.loc 7) (.cons (.loc 9) .nil))))))) q1507_21
noncomputable def q1507_17:Mine.C:=.seq (.iff (.cmp .NotEq (.loc 9) (.list .nil)) q1507_18 .skip) q1507_20
noncomputable def q1507_16:Mine.C:=.seq (.exp (.meth (.loc 11) 0 (.cons (.tup (.cons (.cst (.str (sc 68))) (.cons (.call (.glb (.ref 487)) (.cons (.cst (.str (sc 22))) (.cons (.loc 7) .nil))) .nil))) .nil))) q1507_17
noncomputable def q1507_15:Mine.C:=.seq (.asg 11 (.list (.cons (.tup (.cons (.cst (.str (sc 65))) (.cons (.call (.glb (.ref 1476)) (.cons (.loc 3) .nil)) .nil))) (.cons (.tup (.cons (.cst (.str (sc 58))) (.cons (.call (.glb (.ref 1483)) (.cons (.comp [false,false,false,false,false,false,false,false,false,false,false,false,false,false,false,false,false] (.sub (.loc 0) (.cst (.int (1)))) (.itv (.loc 4)) .nil) (.cons (.comp [false,false,false,false,false,false,false,false,false,false,false,false,false,false,false,false,false] (.sub (.loc 0) (.cst (.int (0)))) (.itv (.loc 4)) .nil) .nil))) .nil))) .nil)))) q1507_16
noncomputable def q1507_11:Mine.C:=.seq (.frs (.one 6) (.itv (.slc (.list (.cons (.cst (.str (sc 89))) (.cons (.cst (.str (sc 90))) (.cons (.cst (.str (sc 94))) .nil)))) .omit (.opt (.call (.glb (.ref 1469)) (.cons (.loc 0) (.cons (.cst (.int (4))) .nil)))))) q1507_12) q1507_15
noncomputable def q1507_10:Mine.C:=.seq (.asg 9 (.list .nil)) q1507_11
noncomputable def q1507_6:Mine.C:=.seq (.frs (.one 5) (.rng (.call (.glb (.ref 1469)) (.cons (.loc 0) (.cons (.cst (.int (3))) .nil)))) q1507_7) q1507_10
noncomputable def q1507_5:Mine.C:=.seq (.asg 7 (.list .nil)) q1507_6
noncomputable def q1507_2:Mine.C:=.seq (.frs (.one 5) (.rng (.call (.glb (.ref 1469)) (.cons (.loc 0) (.cons (.cst (.int (4))) .nil)))) q1507_3) q1507_5
noncomputable def q1507_1:Mine.C:=.seq (.asg 4 (.list .nil)) q1507_2
noncomputable def q1507_0:Mine.C:=.seq (.asg 3 (.sub (.list (.cons (.cst (.str (sc 86))) (.cons (.cst (.str (sc 87))) (.cons (.cst (.str (sc 88))) .nil)))) (.call (.glb (.ref 1469)) (.cons (.loc 0) (.cons (.cst (.int (3))) .nil))))) q1507_1
noncomputable def q1512_3:Mine.C:=.seq (.ret (.cst (.bool false))) .skip
noncomputable def q1512_5:Mine.C:=.seq (.ret (.cst (.bool false))) .skip
noncomputable def q1512_9:Mine.C:=.seq (.ret (.cst (.bool false))) .skip
noncomputable def q1512_12:Mine.C:=.seq (.ret (.cst (.bool false))) .skip
noncomputable def q1512_14:Mine.C:=.seq (.ret (.cst (.bool false))) .skip
noncomputable def q1512_18:Mine.C:=.seq (.ret (.cst (.bool false))) .skip
noncomputable def q1512_17:Mine.C:=.seq (.iff (.cmp .NotEq (.attr (.call (.glb (.ref 1124)) (.cons (.loc 0) (.cons (.loc 7) (.cons (.cst .none) .nil)))) 4) (.list (.cons (.ite (.cmp .In (.loc 6) (.call (.glb (.ref 1490)) (.cons (.loc 1) (.cons (.loc 2) .nil)))) (.cst (.int (1))) (.cst (.int (0)))) .nil))) q1512_18 .skip) .skip
noncomputable def q1512_16:Mine.C:=.seq (.asg 7 (.bin .Add (.loc 3) (.list (.cons (.tup (.cons (.cst .none) (.cons (.call (.glb (.ref 1476)) (.cons (.loc 6) .nil)) .nil))) .nil)))) q1512_17
noncomputable def q1512_15:Mine.C:=.seq (.frs (.one 6) (.itv (.list (.cons (.cst (.str (sc 86))) (.cons (.cst (.str (sc 87))) (.cons (.cst (.str (sc 88))) .nil))))) q1512_16) .skip
noncomputable def q1512_13:Mine.C:=.seq (.iff (.bop .And (.cons (.cmp .NotEq (.loc 4) (.list .nil)) (.cons (.cmp .NotEq (.attr (.sub (.attr (.loc 5) 0) (.cst (.str (sc 3)))) 4) (.comp [false,false,false,false,false,false,false,false] (.sub (.loc 0) (.cst (.int (0)))) (.itv (.loc 4)) .nil)) .nil))) q1512_14 .skip) q1512_15
noncomputable def q1512_11:Mine.C:=.seq (.iff (.cmp .NotEq (.attr (.loc 5) 4) (.comp [false,false,false,false,false,false,false,false] (.sub (.loc 0) (.cst (.int (1)))) (.itv (.loc 4)) .nil)) q1512_12 .skip) q1512_13
noncomputable def q1512_10:Mine.C:=.seq (.asg 5 (.call (.glb (.ref 1141)) (.cons (.loc 0) (.cons (.loc 3) (.cons (.cst .none) .nil))))) q1512_11
noncomputable def q1512_8:Mine.C:=.seq (.iff (.cmp .NotEq (.attr (.call (.glb (.ref 1136)) (.cons (.loc 0) (.cons (.loc 3) (.cons (.cst .none) .nil)))) 4) (.comp [false,false,false,false,false,false,false,false] (.sub (.loc 0) (.cst (.int (0)))) (.itv (.loc 4)) .nil)) q1512_9 .skip) q1512_10
noncomputable def q1512_7:Mine.C:=.seq (.asg 4 (.call (.glb (.ref 1495)) (.cons (.loc 1) (.cons (.loc 2) .nil)))) q1512_8
noncomputable def q1512_6:Mine.C:=.seq (.iff (.cmp .In (.loc 2) (.loc 1)) q1512_7 .skip) .skip
noncomputable def q1512_4:Mine.C:=.seq (.iff (.cmp .NotEq (.attr (.call (.glb (.ref 1110)) (.cons (.loc 0) (.cons (.loc 3) (.cons (.cst .none) .nil)))) 4) (.list (.cons (.ite (.bop .And (.cons (.cmp .In (.loc 2) (.loc 1)) (.cons (.sub (.sub (.loc 1) (.loc 2)) (.cst (.str (sc 96)))) .nil))) (.cst (.int (1))) (.cst (.int (0)))) .nil))) q1512_5 .skip) q1512_6
noncomputable def q1512_2:Mine.C:=.seq (.iff (.cmp .NotEq (.attr (.call (.glb (.ref 1117)) (.cons (.loc 0) (.cons (.loc 3) (.cons (.cst .none) .nil)))) 4) (.list (.cons (.ite (.cmp .In (.loc 2) (.loc 1)) (.cst (.int (1))) (.cst (.int (0)))) .nil))) q1512_3 .skip) q1512_4
noncomputable def q1512_1:Mine.C:=.seq (.asg 3 (.list (.cons (.tup (.cons (.cst .none) (.cons (.call (.glb (.ref 1476)) (.cons (.loc 2) .nil)) .nil))) .nil))) q1512_2
noncomputable def q1512_19:Mine.C:=.seq (.ret (.cst (.bool true))) .skip
noncomputable def q1512_0:Mine.C:=.seq (.frs (.one 2) (.itv (.list (.cons (.cst (.str (sc 86))) (.cons (.cst (.str (sc 87))) (.cons (.cst (.str (sc 88))) (.cons (.cst (.str (sc 93))) .nil)))))) q1512_1) q1512_19
noncomputable def q1519_5:Mine.C:=.seq (.ret (.cst (.bool false))) .skip
noncomputable def q1519_4:Mine.C:=.seq (.iff (.bop .Or (.cons (.not (.call (.glb (.ref 1507)) (.cons (.loc 1) (.cons (.loc 2) (.cons (.loc 3) .nil))))) (.cons (.not (.call (.glb (.ref 1512)) (.cons (.loc 2) (.cons (.loc 3) .nil)))) .nil))) q1519_5 .skip) .skip
noncomputable def q1519_6:Mine.C:=.seq (.ret (.call (.glb (.ref 1512)) (.cons (.loc 2) (.cons (.loc 3) .nil)))) .skip
noncomputable def q1519_3:Mine.C:=.seq (.frs (.one 4) (.rng (.call (.glb (.ref 1469)) (.cons (.loc 1) (.cons (.cst (.int (10))) .nil)))) q1519_4) q1519_6
noncomputable def q1519_2:Mine.C:=.seq (.asg 3 (.dict .nil .nil)) q1519_3
noncomputable def q1519_1:Mine.C:=.seq (.asg 2 (.call (.glb (.ref 1444)) (.cons (.cst (.int (100))) .nil))) q1519_2
noncomputable def q1519_0:Mine.C:=.seq (.asg 1 (.call (.glb (.ref 1462)) (.cons (.loc 0) .nil))) q1519_1
theorem f28:FnC 28 ["v","name"] ["v","name"] q28_0 []:=fn0 fun p=>by kernel_rfl
theorem f33:FnC 33 ["v","tag","dims","rows","names"] ["v"] q33_0 []:=fn0 fun p=>by kernel_rfl
theorem f40:FnC 40 ["v","dims"] ["v"] q40_0 []:=fn0 fun p=>by kernel_rfl
theorem f52:FnC 52 ["v","found"] ["v"] q52_0 []:=fn0 fun p=>by kernel_rfl
theorem f66:FnC 66 ["v","dims"] ["v"] q66_0 []:=fn0 fun p=>by kernel_rfl
theorem f73:FnC 73 ["v","kind"] ["v"] q73_0 []:=fn0 fun p=>by kernel_rfl
theorem f80:FnC 80 ["v","kind","rows"] ["v"] q80_0 []:=fn0 fun p=>by kernel_rfl
theorem f87:FnC 87 ["v","rows"] ["v"] q87_0 []:=fn0 fun p=>by kernel_rfl
theorem f209:FnC 209 ["self","formals","tags"] ["self","formals","tags"] q209_0 []:=fn0 fun p=>by kernel_rfl
theorem f216:FnC 216 ["self","name","place"] ["self"] q216_0 []:=fn0 fun p=>by kernel_rfl
theorem f223:FnC 223 ["self","name"] ["self"] q223_0 []:=fn0 fun p=>by kernel_rfl
theorem f230:FnC 230 ["self","name","place","tag"] ["self","name"] q230_0 []:=fn0 fun p=>by kernel_rfl
theorem f237:FnC 237 ["self","place","name"] ["self"] q237_0 []:=fn0 fun p=>by kernel_rfl
theorem f244:FnC 244 ["self","place"] ["self","place"] q244_0 []:=fn0 fun p=>by kernel_rfl
theorem f249:FnC 249 ["self"] ["self"] q249_0 []:=fn0 fun p=>by kernel_rfl
theorem f281:FnC 281 ["formals","args","show","matching","rest"] ["formals","args","show"] q281_0 [.none]:=⟨fun p=>⟨Cd p 281,bdOf p 281,⟨by kernel_rfl,by kernel_rfl,by kernel_rfl,by kernel_rfl,by kernel_rfl⟩,by kernel_rfl,.inr ⟨dfT p 281,dfO p 281,dfI p 281,dfN p 281,by kernel_rfl,by kernel_rfl,by kernel_rfl,by kernel_rfl⟩⟩⟩
theorem f287:FnC 287 ["args","formals","show","places","rest","values","name"] ["args","formals","show"] q287_0 [.none]:=⟨fun p=>⟨Cd p 287,bdOf p 287,⟨by kernel_rfl,by kernel_rfl,by kernel_rfl,by kernel_rfl,by kernel_rfl⟩,by kernel_rfl,.inr ⟨dfT p 287,dfO p 287,dfI p 287,dfN p 287,by kernel_rfl,by kernel_rfl,by kernel_rfl,by kernel_rfl⟩⟩⟩
theorem f301:FnC 301 ["self","name","slots","contains","validity","virtual","prototype"] ["self","name","slots","contains","validity","virtual","prototype"] q301_0 []:=fn0 fun p=>by kernel_rfl
theorem f315:FnC 315 [] [] q315_0 []:=fn0 fun p=>by kernel_rfl
theorem f322:FnC 322 [] [] q322_0 []:=fn0 fun p=>by kernel_rfl
theorem f329:FnC 329 ["name"] ["name"] q329_0 []:=fn0 fun p=>by kernel_rfl
theorem f343:FnC 343 ["self"] ["self"] q343_0 []:=fn0 fun p=>by kernel_rfl
theorem f350:FnC 350 ["self","c","name"] ["self","c"] q350_0 []:=fn0 fun p=>by kernel_rfl
theorem f364:FnC 364 ["self","name"] ["self","name"] q364_0 []:=fn0 fun p=>by kernel_rfl
theorem f371:FnC 371 ["self","name"] ["self","name"] q371_0 []:=fn0 fun p=>by kernel_rfl
theorem f378:FnC 378 ["self","name"] ["self","name"] q378_0 []:=fn0 fun p=>by kernel_rfl
theorem f385:FnC 385 ["self","name","found","union"] ["self","name"] q385_0 []:=fn0 fun p=>by kernel_rfl
theorem f392:FnC 392 ["self","name","rows","seen","at","one","steps","parent"] ["self","name"] q392_0 []:=fn0 fun p=>by kernel_rfl
theorem f399:FnC 399 ["self","sub","super_name","name","steps"] ["self","sub","super_name"] q399_0 []:=fn0 fun p=>by kernel_rfl
theorem f406:FnC 406 ["self","name","found","seen","one","steps","rows","slot","kind"] ["self","name"] q406_0 []:=fn0 fun p=>by kernel_rfl
theorem f420:FnC 420 ["table","c","seen","slot","kind","parent"] ["table","c"] q420_0 []:=fn0 fun p=>by kernel_rfl
theorem f427:FnC 427 ["v","rows","one"] ["v"] q427_0 []:=fn0 fun p=>by kernel_rfl
theorem f434:FnC 434 ["table","v","rows","seen","own","place","name","steps"] ["table","v"] q434_0 []:=fn0 fun p=>by kernel_rfl
theorem f441:FnC 441 ["table","v","name","one","steps"] ["table","v","name"] q441_0 []:=fn0 fun p=>by kernel_rfl
theorem f477:FnC 477 ["self","kind","items","attrs"] ["self","kind","items","attrs"] q477_0 [.none]:=⟨fun p=>⟨Cd p 477,bdOf p 477,⟨by kernel_rfl,by kernel_rfl,by kernel_rfl,by kernel_rfl,by kernel_rfl⟩,by kernel_rfl,.inr ⟨dfT p 477,dfO p 477,dfI p 477,dfN p 477,by kernel_rfl,by kernel_rfl,by kernel_rfl,by kernel_rfl⟩⟩⟩
theorem f570:FnC 570 ["self","name","special","fn","group"] ["self","name","special","fn","group"] q570_0 []:=fn0 fun p=>by kernel_rfl
theorem f592:FnC 592 ["self","number","parent","attrs"] ["self","number","parent","attrs"] q592_0 [.none]:=⟨fun p=>⟨Cd p 592,bdOf p 592,⟨by kernel_rfl,by kernel_rfl,by kernel_rfl,by kernel_rfl,by kernel_rfl⟩,by kernel_rfl,.inr ⟨dfT p 592,dfO p 592,dfI p 592,dfN p 592,by kernel_rfl,by kernel_rfl,by kernel_rfl,by kernel_rfl⟩⟩⟩
theorem f683:FnC 683 ["items"] ["items"] q683_0 []:=fn0 fun p=>by kernel_rfl
theorem f690:FnC 690 ["b"] ["b"] q690_0 []:=fn0 fun p=>by kernel_rfl
theorem f725:FnC 725 ["v"] ["v"] q725_0 []:=fn0 fun p=>by kernel_rfl
theorem f786:FnC 786 ["self"] ["self"] q786_0 []:=fn0 fun p=>by kernel_rfl
theorem f875:FnC 875 ["self"] ["self"] q875_0 []:=fn0 fun p=>by kernel_rfl
theorem f889:FnC 889 ["interp"] ["interp"] q889_0 []:=fn0 fun p=>by kernel_rfl
theorem f896:FnC 896 ["name"] ["name"] q896_0 []:=fn0 fun p=>by kernel_rfl
theorem f1042:FnC 1042 ["interp","value"] ["interp","value"] q1042_0 []:=fn0 fun p=>by kernel_rfl
theorem f1049:FnC 1049 ["value","what"] ["value","what"] q1049_0 []:=fn0 fun p=>by kernel_rfl
theorem f1056:FnC 1056 ["value","names","pairs","place","item","name"] ["value"] q1056_0 []:=fn0 fun p=>by kernel_rfl
theorem f1061:FnC 1061 ["representation","slots","contains","pairs","supers","name","item","virtual"] ["representation","slots","contains"] q1061_0 []:=fn0 fun p=>by kernel_rfl
theorem f1068:FnC 1068 ["value","names","parts","place","item"] ["value"] q1068_0 []:=fn0 fun p=>by kernel_rfl
theorem f1075:FnC 1075 ["table","c","kinds","slot","kind","name"] ["table","c"] q1075_0 []:=fn0 fun p=>by kernel_rfl
theorem f1082:FnC 1082 ["name","make"] ["name"] q1082_0 []:=fn0 fun p=>by kernel_rfl
theorem f1089:FnC 1089 ["interp","args","env","found","name","slots","supers","virtual","prototype","validity","table","older","c"] ["interp","args","env"] q1089_0 []:=fn0 fun p=>by kernel_rfl
theorem f1103:FnC 1103 ["args","name","place"] ["args","name"] q1103_0 []:=fn0 fun p=>by kernel_rfl
theorem f1110:FnC 1110 ["interp","args","env","c"] ["interp","args","env"] q1110_0 []:=fn0 fun p=>by kernel_rfl
theorem f1117:FnC 1117 ["interp","args","env"] ["interp","args","env"] q1117_0 []:=fn0 fun p=>by kernel_rfl
theorem f1124:FnC 1124 ["interp","args","env","found","table","steps"] ["interp","args","env"] q1124_0 []:=fn0 fun p=>by kernel_rfl
theorem f1131:FnC 1131 ["interp","value","name"] ["interp","value"] q1131_0 []:=fn0 fun p=>by kernel_rfl
theorem f1136:FnC 1136 ["interp","args","env"] ["interp","args","env"] q1136_0 []:=fn0 fun p=>by kernel_rfl
theorem f1141:FnC 1141 ["interp","args","env","rows","made"] ["interp","args","env"] q1141_0 []:=fn0 fun p=>by kernel_rfl
theorem f1253:FnC 1253 ["self","limit","most_frames"] ["self","limit","most_frames"] q1253_0 [.int 20000 1966,.int 40 1967]:=⟨fun p=>⟨Cd p 1253,bdOf p 1253,⟨by kernel_rfl,by kernel_rfl,by kernel_rfl,by kernel_rfl,by kernel_rfl⟩,by kernel_rfl,.inr ⟨dfT p 1253,dfO p 1253,dfI p 1253,dfN p 1253,by kernel_rfl,by kernel_rfl,by kernel_rfl,by kernel_rfl⟩⟩⟩
theorem f1260:FnC 1260 ["self","parent","env"] ["self","parent"] q1260_0 []:=fn0 fun p=>by kernel_rfl
theorem f1462:FnC 1462 ["script","corks","cell","cork","box","flat"] ["script"] q1462_0 []:=fn0 fun p=>by kernel_rfl
theorem f1469:FnC 1469 ["corks","most"] ["corks","most"] q1469_0 []:=fn0 fun p=>by kernel_rfl
theorem f1476:FnC 1476 ["word"] ["word"] q1476_0 []:=fn0 fun p=>by kernel_rfl
theorem f1483:FnC 1483 ["words","names"] ["words","names"] q1483_0 []:=fn0 fun p=>by kernel_rfl
theorem f1490:FnC 1490 ["world","name","chain","at","parent"] ["world","name"] q1490_0 []:=fn0 fun p=>by kernel_rfl
theorem f1495:FnC 1495 ["world","name","found","one","slot","kind"] ["world","name"] q1495_0 []:=fn0 fun p=>by kernel_rfl
theorem f1502:FnC 1502 ["world","name","slots","above","proto","parent","words","own_slots","slot","kind","trial","kinds"] ["world","name","slots","above","proto"] q1502_0 []:=fn0 fun p=>by kernel_rfl
theorem f1507:FnC 1507 ["corks","interp","world","name","slots","lap","slot","above","parent","proto","draw","args","values","due","told","error","is_bare"] ["corks","interp","world"] q1507_0 []:=fn0 fun p=>by kernel_rfl
theorem f1512:FnC 1512 ["interp","world","name","arg","due","told","other","two_names"] ["interp","world"] q1512_0 []:=fn0 fun p=>by kernel_rfl
theorem f1519:FnC 1519 ["script","corks","interp","world","lap"] ["script"] q1519_0 []:=fn0 fun p=>by kernel_rfl
theorem AQ (G:Gh):VRs G [] []:=.nil
theorem call_r {f:Addr} {ls ps:List Str} {C:Mine.C} {dv:List Value} {dV:List V} (F:FnC f ls ps C dv) (hdv:∀ G,VRs G dV dv) {d:Nat} {vs:List V} {K:KV} {X:KX} {H:Hp} {m:Lm}
    (hb:(Nat.ble ps.length (vs.length+dV.length) && Nat.ble vs.length ps.length && Nat.ble dV.length ps.length)=true) (hm:padM ls (vs++dV.drop (vs.length+dV.length - ps.length))=m)
    (h:vcS d none C (fun Y H=>drp (K .none) H) (fun v H=>drp (K v) H) (fun x Y H=>drp (X x) H) m H):CallC (d+1) (.ref f) vs K X H:=by
  simp only [Bool.and_eq_true,Nat.ble_eq] at hb;exact call_rule F hdv hb.1.1 hb.1.2 hb.2 (hm▸h)
section
variable {α:Type} {a0 x:α} {l:List α}
@[simp] theorem g0:(a0::l)[0]?=some a0:=rfl
@[simp] theorem gS {n:Nat}:(a0::l)[n+1]?=l[n]?:=rfl
@[simp] theorem ls0:(a0::l).set 0 x=x::l:=rfl
@[simp] theorem lsS {n:Nat}:(a0::l).set (n+1) x=a0::l.set n x:=rfl
end
section
variable {κ:Type} [DecidableEq κ] {k k':κ} {v v':V} {es:List (κ×V)}
@[simp] theorem at_nil:at? ([]:List (κ×V)) k=none:=rfl
@[simp] theorem Af:at? ((k',v)::es) k=if k'=k then some v else at? es k:=by unfold at?;rw [List.find?_cons];by_cases h:k'=k<;>simp [h]
@[simp] theorem DK:put ([]:List (κ×V)) k v=[(k,v)]:=rfl
@[simp] theorem CJ:put ((k',v')::es) k v=if k'=k then (k',v)::es.map (fun kv=>if kv.1=k then (kv.1,v) else kv) else (k',v')::put es k v:=by
  unfold Mine.put;by_cases h:k'=k
  . simp [h]
  . simp only [List.any_cons,h,decide_false,Bool.false_or,List.map_cons,if_false];split<;>simp
end
section
variable {d:Nat} {K:KV} {X:KX} {H:Hp} {a:Addr} {C:Addr} {es:List (Nat×V)} {n:Nat} {v:V} {xs:List V} {es':List (Str×V)}
@[simp] theorem DQ:look H (.ref a)=H a:=rfl
@[simp] theorem look_obj:look H (.obj C es)=some (.obj C es):=rfl
@[simp] theorem look_lst:look H (.lst xs)=some (.lst xs):=rfl
@[simp] theorem look_tup:look H (.tup xs)=some (.tup xs):=rfl
@[simp] theorem look_none:look H .none=some .none:=rfl
@[simp] theorem look_bool {b}:look H (.bool b)=some (.bool b):=rfl
@[simp] theorem look_int {b}:look H (.int b)=some (.int b):=rfl
@[simp] theorem look_str {b}:look H (.str b)=some (.str b):=rfl
@[simp] theorem look_dct:look H (.dct es')=some (.dct es'):=rfl
@[simp] theorem cv_none {K:KV}:cv .none H K=K .none H:=rfl
@[simp] theorem cv_bool {K:KV} {b}:cv (.bool b) H K=K (.bool b) H:=rfl
@[simp] theorem cv_int {K:KV} {b}:cv (.int b) H K=K (.int b) H:=rfl
@[simp] theorem cv_str {K:KV} {b}:cv (.str b) H K=K (.str b) H:=rfl
@[simp] theorem cv_tup {K:KV} {b}:cv (.tup b) H K=K (.tup b) H:=rfl
@[simp] theorem cv_lst {K:KV} {b}:cv (.lst b) H K=K (.lst b) H:=rfl
@[simp] theorem cv_dct {K:KV} {b}:cv (.dct b) H K=K (.dct b) H:=rfl
@[simp] theorem cv_obj {K:KV} {b}:cv (.obj C b) H K=K (.obj C b) H:=rfl
@[simp] theorem cv_any {K:KV}:cv .any H K=K .any H:=rfl
@[simp] theorem mth_252_4:Ah 252 4=some 230:=rfl
@[simp] theorem mth_252_6:Ah 252 6=some 244:=rfl
@[simp] theorem mth_252_7:Ah 252 7=some 216:=rfl
@[simp] theorem mth_252_8:Ah 252 8=some 223:=rfl
@[simp] theorem mth_252_9:Ah 252 9=some 237:=rfl
@[simp] theorem mth_252_10:Ah 252 10=some 249:=rfl
@[simp] theorem mth_409_11:Ah 409 11=some 378:=rfl
@[simp] theorem Cu:Ah 409 12=some 399:=rfl
@[simp] theorem mth_409_13:Ah 409 13=some 371:=rfl
@[simp] theorem mth_409_14:Ah 409 14=some 385:=rfl
@[simp] theorem Ct:Ah 409 15=some 392:=rfl
@[simp] theorem Cr:Ah 409 16=some 406:=rfl
@[simp] theorem mth_409_17:Ah 409 17=some 350:=rfl
@[simp] theorem mth_409_2:Ah 409 2=some 364:=rfl
@[simp] theorem mth_1444_18:Ah 1444 18=some 1260:=rfl
@[simp] theorem sc_dec {i j:Nat} (hi:i<97) (hj:j<97):(sc i=sc j)=(i=j):=propext (sc_inj hi hj)
end
section
variable {d:Nat} {K:KV} {X:KX} {H:Hp} {o v:V} {C:Addr} {es:List (Nat×V)} {ds:List (Str×V)} {xs ys:List V} {n i:Nat} {a:Addr} {k:Str} {f:Addr} {vs:List V}
@[simp] theorem attr_obj:CD (.obj C es) n K H=oX (at? es n) fun v=>Bd v=true/\K v H:=rfl
@[simp] theorem len_lst:lenV (.lst xs) K H=(xs.length<=1000000/\K (.int xs.length) H):=rfl
@[simp] theorem sub_lst {i:Int}:subV (.lst xs) (.int i) K H=((0<=i/\i<2 ^ 63)/\oX xs[i.toNat]? fun v=>K v H):=rfl
@[simp] theorem sub_tup {i:Int}:subV (.tup xs) (.int i) K H=((0<=i/\i<2 ^ 63)/\oX xs[i.toNat]? fun v=>K v H):=rfl
@[simp] theorem sub_dct:subV (.dct ds) (.str k) K H=oX (at? ds k) fun v=>K v H:=rfl
@[simp] theorem mkl_lst:mklV (.lst xs) K H=(xs.length<=1000000/\Ak (.lst xs) K H):=rfl
@[simp] theorem rcv_lst:rcv H (.lst xs) n=if n<=1 then some .l else none:=rfl
@[simp] theorem rcv_dct:rcv H (.dct ds) n=if n=2 then some .d else none:=rfl
@[simp] theorem rcv_obj:rcv H (.obj C es) n=(Ah C n).map .f:=rfl
@[simp] theorem meth_f:Bc d (some (.f f)) o n vs K X H=AD d (.ref f) (o::vs) K X H:=rfl
@[simp] theorem meth_d:Bc d (some .d) (.dct ds) n [.str k] K X H=(match at? ds k with | some v=>K v H | none=>K .none H):=rfl
@[simp] theorem set_obj {P:Hp->Prop}:setC (.obj C es) n v P H=(C≠117/\at? es n=some .any/\P H):=rfl
@[simp] theorem oB_some {b:Bool} {P:Bool->Hp->Prop}:oB (some b) P H=P b H:=rfl
@[simp] theorem has_lst:Dn (.lst xs) (.str k) H=(BI xs).map (fun l=>l.contains k):=rfl
@[simp] theorem has_tup:Dn (.tup xs) (.str k) H=(BI xs).map (fun l=>l.contains k):=rfl
@[simp] theorem has_dct:Dn (.dct ds) (.str k) H=some (at? ds k).isSome:=rfl
@[simp] theorem eq_ss {x y:Str}:Bb (.str x) (.str y) H=some (decide (x=y)):=rfl
@[simp] theorem eq_ii {x y:Int}:Bb (.int x) (.int y) H=some (decide (x=y)):=rfl
@[simp] theorem eq_ns {y:Str}:Bb .none (.str y) H=some false:=rfl
@[simp] theorem eq_sn {y:Str}:Bb (.str y) .none H=some false:=rfl
@[simp] theorem eq_nn:Bb .none .none H=some true:=rfl
@[simp] theorem src_lst:srcV (.lst xs) H=some xs:=rfl
@[simp] theorem src_tup:srcV (.tup xs) H=some xs:=rfl
@[simp] theorem src_dct:srcV (.dct ds) H=some (ds.map fun kv=>.str kv.1):=rfl
@[simp] theorem add_ii {x y:Int}:DC .Add (.int x) (.int y) K H=K (.int (x+y)) H:=rfl
@[simp] theorem sub_ii {x y:Int}:DC .Sub (.int x) (.int y) K H=K (.int (x - y)) H:=rfl
@[simp] theorem mul_ii {x y:Int}:DC .Mult (.int x) (.int y) K H=(IntMulOk x y/\K (.int (x * y)) H):=rfl
@[simp] theorem mod_ii {x y:Int}:DC .Mod (.int x) (.int y) K H=(y≠0/\K (.int (x.fmod y)) H):=rfl
@[simp] theorem div_ii {x y:Int}:DC .FloorDiv (.int x) (.int y) K H=((y≠0/\Builtin.divisionGoesByPylong x y=false)/\K (.int (x.fdiv y)) H):=rfl
@[simp] theorem add_ss {x y:Str}:DC .Add (.str x) (.str y) K H=(x.length+y.length<=1000000/\K (.str (x++y)) H):=rfl
@[simp] theorem add_tt:DC .Add (.tup xs) (.tup ys) K H=(xs.length+ys.length<=1000000/\xs≠[]/\ys≠[]/\K (.tup (xs++ys)) H):=rfl
@[simp] theorem add_ll:DC .Add (.lst xs) (.lst ys) K H=(xs.length+ys.length<=1000000/\Ak (.lst (xs++ys)) K H):=rfl
theorem addR (e:H a=some (.lst xs)) (h:xs.length+ys.length<=1000000) (k:Ak (.lst (xs++ys)) K H):DC .Add (.ref a) (.lst ys) K H:=by show oX (H a) _;rw [e];exact And.intro h k
theorem addRR {b:Addr} (e:H a=some (.lst xs)) (e':H b=some (.lst ys)) (h:xs.length+ys.length<=1000000) (k:Ak (.lst (xs++ys)) K H):DC .Add (.ref a) (.ref b) K H:=by show oX (H a) fun Y=>oX (H b) _;rw [e,e'];exact And.intro h k
theorem mulR {x:V} {j:Int} (e:H a=some (.lst [x])) (h:0<=j/\j<=10000) (k:Ak (.lst (List.replicate j.toNat x)) K H):DC .Mult (.ref a) (.int j) K H:=by show oX (H a) _;rw [e];exact And.intro h.1 (And.intro h.2 k)
theorem Co (e:H a=some (.lst xs)):srcV (.ref a) H=some xs:=by show (H a).bind _=_;rw [e];rfl
theorem lenR (e:H a=some (.lst xs)) (h:xs.length<=1000000) (k:K (.int xs.length) H):lenV (.ref a) K H:=by show oX (H a) _;rw [e];exact And.intro h k
theorem cut_drop:cutV xs (some (.int i)) none=some (xs.drop i):=by show (if 0<=(i:Int) then some (xs.drop (i:Int).toNat) else none)=_;refine wl (if_pos (Int.natCast_nonneg i) ..) ?_;exact wl (Int.toNat_natCast ..) rfl
theorem cut_take:cutV xs none (some (.int i))=some (xs.take i):=by show (if 0<=(i:Int) then some (xs.take (i:Int).toNat) else none)=_;refine wl (if_pos (Int.natCast_nonneg i) ..) ?_;exact wl (Int.toNat_natCast ..) rfl
theorem slcO {a b:Option V} (e:look H o=some (.lst xs)) (h:xs.length<=1000000) (q:cutV xs a b=some ys) (k:Ak (.lst ys) K H):slcV o a b K H:=by unfold slcV;rw [e];refine And.intro h ?_;rw [q];exact k
theorem slcR (e:H a=some (.lst xs)) (h:xs.length<=1000000) (k:Ak (.lst (xs.drop i)) K H):slcV (.ref a) (some (.int i)) none K H:=slcO e h cut_drop k
theorem BA (e:H a=some (.obj C es)) (h:at? es n=some v) (hv:Bd v=true) (k:K v H):CD (.ref a) n K H:=by show oX (H a) fun c=>aO c fun Y es=>oX (at? es n) _;rw [e];show oX (at? es n) _;rw [h];exact And.intro hv k
theorem subR (e:H a=some (.lst xs)) (h:i<2 ^ 63) (hx:xs[i]?=some v) (k:K v H):subV (.ref a) (.int i) K H:=by show oX (H a) _;rw [e];refine And.intro (r_i2 h (by decide)) ?_;rw [Int.toNat_natCast,hx];exact k
theorem subD (e:H a=some (.dct ds)) (hx:at? ds k=some v) (h:K v H):subV (.ref a) (.str k) K H:=by show oX (H a) _;rw [e];show oX (at? ds k) _;rw [hx];exact h
theorem setD {P:Hp->Prop} (e:H a=some (.dct ds)) (h:ds.length<1000000) (q:P (upd H a (.dct (put ds k v)))):setI (.ref a) (.str k) v P H:=by show oX (H a) _;rw [e];exact And.intro h q
theorem setL {P:Hp->Prop} (e:H a=some (.lst xs)) (h:i<xs.length) (hl:i<2 ^ 63) (q:P (upd H a (.lst (xs.set i v)))):setI (.ref a) (.int i) v P H:=by show oX (H a) _;rw [e];exact And.intro ⟨Int.natCast_nonneg i,Int.ofNat_lt.mpr h,Int.ofNat_lt.mpr hl⟩ (by rwa [Int.toNat_natCast])
theorem setO {P:Hp->Prop} (hC:Nat.beq C 117=false) (e:H a=some (.obj C es)) (hl:Nat.blt es.length 900=true) (q:P (upd H a (.obj C (put es n v)))):setC (.ref a) n v P H:=by show oX (H a) fun c=>aO c fun C Y=>C≠117/\oX (H a) _;rw [e];exact And.intro (fun q=>by rw [q] at hC;cases hC) (And.intro (Nat.le_of_ble_eq_true hl) q)
theorem rcvO (e:H a=some (.obj C es)) (h:Ah C n=some f):rcv H (.ref a) n=some (.f f):=by show (H a).bind _=_;rw [e];show (Ah C n).map _=_;rw [h];rfl
theorem CF (e:H a=some (.lst xs)):rcv H (.ref a) 0=some .l:=by show (H a).bind _=_;rw [e];rfl
theorem rcvD (e:H a=some (.dct ds)):rcv H (.ref a) 2=some .d:=by show (H a).bind _=_;rw [e];rfl
theorem CH (e:H a=some (.lst xs)) (h:xs.length<1000000) (k:K .none (upd H a (.lst (xs++[v])))):Bc d (some .l) (.ref a) 0 [v] K X H:=by show oX (H a) _;rw [e];exact And.intro h k
theorem rcO1 (e:H a=some (.obj C es)) (h:Ah C n=some f) (k:AD d (.ref f) (.ref a::vs) K X H):(rcv H (.ref a) n).isSome=true/\Bc d (rcv H (.ref a) n) (.ref a) n vs K X H:=by rw [rcvO e h];exact ⟨rfl,k⟩
theorem rcO2 {Q:Prop} (e:H a=some (.obj C es)) (h:Ah C n=some f) (q:Q) (k:AD d (.ref f) (.ref a::vs) K X H):(rcv H (.ref a) n).isSome=true/\Q/\Bc d (rcv H (.ref a) n) (.ref a) n vs K X H:=by rw [rcvO e h];exact ⟨rfl,q,k⟩
theorem apL1 {H':Hp} (e:H a=some (.lst xs)) (h:xs.length<1000000) (q:upd H a (.lst (xs++[v]))=H') (k:K .none H'):(rcv H (.ref a) 0).isSome=true/\Bc d (rcv H (.ref a) 0) (.ref a) 0 [v] K X H:=by rw [CF e];exact ⟨rfl,CH e h (q▸k)⟩
theorem apL2 {H':Hp} {Q:Prop} (p:Q) (e:H a=some (.lst xs)) (h:xs.length<1000000) (q:upd H a (.lst (xs++[v]))=H') (k:K .none H'):(rcv H (.ref a) 0).isSome=true/\Q/\Bc d (rcv H (.ref a) 0) (.ref a) 0 [v] K X H:=by rw [CF e];exact ⟨rfl,p,CH e h (q▸k)⟩
theorem setDe {P:Hp->Prop} {H':Hp} (e:H a=some (.dct ds)) (h:ds.length<1000000) (w:upd H a (.dct (put ds k v))=H') (q:P H'):setI (.ref a) (.str k) v P H:=setD e h (w▸q)
theorem getK (e:H a=some (.dct ds)) (h:K ((at? ds k).getD .none) H):Bc d (some .d) (.ref a) n [.str k] K X H:=by show oX (H a) _;rw [e];show (match at? ds k with | some v=>K v H | none=>K .none H);cases q:at? ds k<;>rw [q] at h<;>exact h
theorem hasR (e:H a=some (.dct ds)):Dn (.ref a) (.str k) H=some (at? ds k).isSome:=by show (H a).bind _=_;rw [e];rfl
theorem inL {P:Bool->Hp->Prop} {l:List Str} (e:H a=some (.lst (l.map .str))) (q:P (l.contains k) H):oB (Dn (.ref a) (.str k) H) P H:=by
  have s:∀ l:List Str,BI (l.map .str)=some l:=fun l=>by
    induction l with
    | nil=>rfl
    | cons a r ih=>show (BI (r.map .str)).map _=_;rw [ih];rfl
  show oX ((H a).bind _) _;rw [e];show oX ((BI (l.map .str)).map _) _;rw [s];exact q
theorem inD {P:Bool->Hp->Prop} (e:H a=some (.dct ds)) (q:P (at? ds k).isSome H):oB (Dn (.ref a) (.str k) H) P H:=by rw [hasR e];exact q
theorem brT {P Q:Prop} (k:P):(true=true->P)/\(true=false->Q):=⟨fun Y=>k,Bool.noConfusion⟩
theorem brF {P Q:Prop} (k:Q):(false=true->P)/\(false=false->Q):=⟨Bool.noConfusion,fun Y=>k⟩
theorem br {b:Bool} {P Q:Prop} (h:b=true->P) (k:b=false->Q):(b=true->P)/\(b=false->Q):=⟨h,k⟩
theorem brE {b b':Bool} {P Q:Prop} (h:b=b') (k:(b'=true->P)/\(b'=false->Q)):(b=true->P)/\(b=false->Q):=by rw [h];exact k
theorem dq {i j:Nat} (h:(Nat.blt i 97 && Nat.blt j 97)=true):decide (sc i=sc j)=Nat.beq i j:=by
  simp only [Bool.and_eq_true,Nat.blt_eq] at h;cases q:Nat.beq i j with
  | true=>rw [Nat.eq_of_beq_eq_true q];exact decide_eq_true rfl
  | false=>exact decide_eq_false fun e=>Nat.ne_of_beq_eq_false q ((sc_inj h.1 h.2).mp e)
end
section
variable {d:Nat} {K:KV} {X:KX} {m:Lm} {H:Hp} {cur:Option Str} {N:Lm->Hp->Prop} {R:KV} {E:KS} {t:Tg} {b:Mine.C} {o:V} {items:List V}
theorem frs_list (hd:0<d) (J:List V->Lm->Hp->Prop) (h0:J items m H) (hs:∀ v vs m H',J (v::vs) m H'->AL o H H'/\BL t v m (fun m=>vcS d cur b (fun m H=>J vs m H) R E m H')) (he:∀ m H',J [] m H'->AL o H H'/\N m H') :
    frsP d cur t b o items N R E m H:=by
  refine ⟨hd,fun i m H=>J (items.drop i) m H,h0,fun i v m H' hv hJ=>?_,fun m H' hJ=>?_⟩
  . obtain ⟨hi,rfl⟩:=List.getElem?_eq_some_iff.mp hv;dsimp only at hJ;rw [List.drop_eq_getElem_cons hi] at hJ;exact hs _ _ _ _ hJ
  . dsimp only at hJ;rw [List.drop_length] at hJ;exact he _ _ hJ
def AX (d:Nat) (cur:Option Str) (t:Tg) (b:Mine.C) (o:V) (H0:Hp) (N:Lm->Hp->Prop) (R:KV) (E:KS):List V->Lm->Hp->Prop
  | [],m,H=>AL o H0 H/\N m H
  | v::vs,m,H=>AL o H0 H/\BL t v m (fun m=>vcS d cur b (fun m H=>AX d cur t b o H0 N R E vs m H) R E m H)
@[simp] theorem lp_nil {H0:Hp}:AX d cur t b o H0 N R E [] m H=(AL o H0 H/\N m H):=rfl
@[simp] theorem lp_cons {H0:Hp} {v:V} {vs:List V}:AX d cur t b o H0 N R E (v::vs) m H=(AL o H0 H/\BL t v m (fun m=>vcS d cur b (fun m H=>AX d cur t b o H0 N R E vs m H) R E m H)):=rfl
theorem Ay {H0:Hp} (s:AL o H0 H) (h:N m H):AX d cur t b o H0 N R E [] m H:=⟨s,h⟩
theorem Az {H0:Hp} {v:V} {vs:List V} (s:AL o H0 H) (h:∀ M:Lm->Hp->Prop,(∀ m H,AX d cur t b o H0 N R E vs m H->M m H)->BL t v m fun m=>vcS d cur b M R E m H):AX d cur t b o H0 N R E (v::vs) m H:=⟨s,h _ fun Y Y h=>h⟩
theorem AG (hd:0<d) (h:AX d cur t b o H N R E items m H):frsP d cur t b o items N R E m H :=
  frs_list hd (fun l m H'=>AX d cur t b o H N R E l m H') h (fun Y Y Y Y h=>h) fun Y Y h=>h
theorem whl_by {c:Mine.X} (J:Nat->Lm->Hp->Prop) (n:Nat) (h0:J n m H) (hs:∀ n m H,J n m H->vcE d c (asB fun t H=>(t=true->vcS d cur b (fun m H=>∃ n',n'<n/\J n' m H) R E m H)/\(t=false->N m H)) (fun x H=>E x m H) m H):whlP d cur c b N R E m H :=
  ⟨J,⟨n,h0⟩,hs⟩
theorem BR:AL o H H:=by cases o<;>first | rfl | trivial
theorem Br {elt:KV->KX->Lm->Hp->Prop} {cond:(Bool->Hp->Prop)->KX->Lm->Hp->Prop} {mask:List Bool} (g:V->V) (p:V->Bool) (hd:0<d) (hl:items.length<=1000000)
    (hc:∀ v,v∈items->∀ P:Bool->Hp->Prop,P (p v) H->cond P (fun Y Y=>False) (some v::msk mask m) H)
    (h:∀ v,v∈items->p v=true->∀ P:KV,P (g v) H->elt P (fun Y Y=>False) (some v::msk mask m) H) (hcv:∀ v,v∈items->p v=true->∀ P:KV,P (g v) H->cv (g v) H P)
    (k:Ak (.lst ((items.filter p).map g)) K H):compV d o items elt cond mask m K H:=by
  refine ⟨hd,hl,fun i acc H'=>H'=H/\acc=((items.take i).filter p).map g,⟨rfl,by simp⟩,fun i acc v H' hv hI=>?_,fun acc H' hI=>?_⟩
  . obtain ⟨rfl,rfl⟩:=hI;have hm:v∈items:=List.mem_of_getElem? hv;have ht:items.take (i+1)=items.take i++[v]:=by rw [List.take_succ,hv];rfl
    refine ⟨BR,hc v hm _ ⟨fun hp=>h v hm hp _ (hcv v hm hp _ ⟨rfl,?_⟩),fun hp=>⟨rfl,?_⟩⟩⟩
    . rw [ht,List.filter_append,List.map_append];simp [hp]
    . rw [ht,List.filter_append,List.map_append];simp [hp]
  . obtain ⟨rfl,rfl⟩:=hI;exact wl (List.take_length ..) (⟨BR,k⟩)
end
noncomputable abbrev Cb (kind:Str) (iv:V) (attrs:V):V:=.obj 487 [(1,.str kind),(4,iv),(0,attrs),(22,.any),(23,.bool false)]
noncomputable abbrev vec (kind:Str) (items:List V) (attrs:V):V:=.obj 487 [(1,.str kind),(4,.lst items),(0,attrs),(22,.any),(23,.bool false)]
noncomputable abbrev ssV (l:List Str):V:=.lst (l.map .str)
noncomputable abbrev rwV (x:Str×Int):V:=.tup [.str x.1,.int x.2]
noncomputable abbrev rwsV (l:List (Str×Int)):V:=.lst (l.map rwV)
noncomputable abbrev prV (x:Str×Str):V:=.tup [.str x.1,.str x.2]
noncomputable abbrev Ab (l:List (Str×Str)):V:=.lst (l.map prV)
section
variable {k i a x y:V}
@[simp] theorem v_kind:at? [(1,k),(4,i),(0,a),(22,x),(23,y)] 1=some k:=rfl
@[simp] theorem v_items:at? [(1,k),(4,i),(0,a),(22,x),(23,y)] 4=some i:=rfl
@[simp] theorem v_attrs:at? [(1,k),(4,i),(0,a),(22,x),(23,y)] 0=some a:=rfl
@[simp] theorem v_shared:at? [(1,k),(4,i),(0,a),(22,x),(23,y)] 22=some x:=rfl
end
theorem sc_len:((List.range 97).all fun i=>decide ((sc i).length<=100))=true:=by decide +kernel
theorem scl {i:Nat} (h:i<97):(sc i).length<=100:=by simpa using List.all_eq_true.mp sc_len i (List.mem_range.mpr h)
theorem AI {H:Hp} {a b:Addr} {v:V} (h:upd H a v b=none):b≠a/\H b=none:=by
  have:b≠a:=fun q=>by subst q;simp at h
  exact ⟨this,by rwa [AC this] at h⟩
theorem AS {H:Hp} {a:Addr} {v v':V}:upd (upd H a v) a v'=upd H a v':=by funext b;unfold upd;split<;>rfl
theorem upd_comm {H:Hp} {a b:Addr} {v v':V} (h:a≠b):upd (upd H a v) b v'=upd (upd H b v') a v:=by
  funext c;unfold upd;split
  . rename_i q;subst q;rw [if_neg (Ne.symm h)]
  . rfl
theorem del_upd {H:Hp} {a:Addr} {v:V} (h:H a=none):del (upd H a v) a=H:=by
  funext b;unfold del upd;split
  . rename_i q;rw [q,h]
  . rfl
section
variable {d:Nat} {K:KV} {X:KX} {H:Hp}
theorem AE {f:Addr} {ls ps:List Str} {C:Mine.C} {dv:List Value} {dV:List V} (F:FnC f ls ps C dv) (hdv:∀ G,VRs G dV dv) {vs:List V} {m:Lm} (hd:0<d)
    (hb:(Nat.ble ps.length (vs.length+dV.length) && Nat.ble vs.length ps.length && Nat.ble dV.length ps.length)=true) (hm:padM ls (vs++dV.drop (vs.length+dV.length - ps.length))=m)
    (h:vcS (d - 1) none C (fun Y H=>drp (K .none) H) (fun v H=>drp (K v) H) (fun x Y H=>drp (X x) H) m H):AD d (.ref f) vs K X H:=by
  obtain ⟨e,rfl⟩:∃ e,d=e+1:=⟨d - 1,(r_d1 ‹_›)⟩
  exact (call_r F hdv hb hm h).a
theorem BY {f:Addr} {ls ps:List Str} {C:Mine.C} {dv:List Value} {dV:List V} (F:FnC f ls ps C dv) (hdv:∀ G,VRs G dV dv) {vs:List V} {m:Lm} (hd:0<d)
    (hb:(Nat.ble ps.length (vs.length+dV.length) && Nat.ble vs.length ps.length && Nat.ble dV.length ps.length)=true) (hm:padM ls (vs++dV.drop (vs.length+dV.length - ps.length))=m)
    (h:vcS (d - 1) none C (fun Y H=>drp (K .none) H) (fun v H=>drp (K v) H) (fun x Y H=>drp (X x) H) m H):CallC d (.ref f) vs K X H:=by
  obtain ⟨e,rfl⟩:∃ e,d=e+1:=⟨d - 1,(r_d1 ‹_›)⟩
  exact call_r F hdv hb hm h
theorem Bi {C f:Addr} (hC:C∈clsP) (F:∀ p,BG p C f=true) {vs:List V} (hd:0<d)
    (h:∀ r,H r=none->CallC (d - 1) (.ref f) (.ref r::vs) (fun v H'=>v = .none/\K (.ref r) H') X (upd H r (.obj C []))):AD d (.ref C) vs K X H:=by
  obtain ⟨e,rfl⟩:∃ e,d=e+1:=⟨d - 1,(r_d1 ‹_›)⟩
  exact (make_rule hC F h).a
theorem AM {r C:Addr} {es:List (Nat×V)} {n:Nat} {v:V} {K:Hp->Prop} (hC:Nat.beq C 117=false) (hl:Nat.blt es.length 900=true) (k:K (upd H r (.obj C (put es n v)))):setC (.ref r) n v K (upd H r (.obj C es)):=by unfold setC setA;simp only [DQ,AA,AS];exact ⟨(fun q=>by rw [q] at hC;cases hC),(Nat.le_of_ble_eq_true hl),k⟩
theorem cv_drp {v:V} {K:KV} (h:cv v H K):cv v H (fun v H=>drp (K v) H):=by cases v<;>first | exact drp.keep h | (obtain ⟨v',H',c,k⟩:=h;exact ⟨v',H',c,drp.keep k⟩)
theorem BX {r:Addr} {v:V} {H':Hp} {K:KV} (e:H' r=some v) (s:Sub H H') (hr:H r=none) (k:K v H):cv (.ref r) H' (fun v H=>drp (K v) H):=DX e ⟨H,s.del hr,k⟩
theorem AF {r:Addr} {v:V} {K:KV} (hr:H r=none) (k:K v H):cv (.ref r) (upd H r v) K:=DX (AA _ _ _) (by rw [del_upd hr];exact k)
theorem BH {r:Addr} {k a iv:V} {K:KV} (hr:H r=none) (h:K (.obj 487 [(1,k),(4,iv),(0,a),(22,.any),(23,.bool false)]) H):cv (.ref r) (upd H r (.obj 487 [(1,k),(4,iv),(0,a),(22,.bool false),(23,.bool false)])) K:=by
  have c1:=Conv.forget (es':=[(1,k),(4,iv),(0,a),(22,.any),(23,.bool false)]) (AA H r (.obj 487 [(1,k),(4,iv),(0,a),(22,.bool false),(23,.bool false)])) ⟨rfl,fun n=>?_⟩
  . have c2:=Conv.freeze (AA (upd H r (.obj 487 [(1,k),(4,iv),(0,a),(22,.bool false),(23,.bool false)])) r (.obj 487 [(1,k),(4,iv),(0,a),(22,.any),(23,.bool false)]));exact cv_to (c1.trans c2) (by rw [AS,del_upd hr];exact h)
  simp only [Af,at_nil];by_cases h1:1=n
  . simp [h1]
  . by_cases h2:4=n
    . simp [h1,h2]
    . by_cases h3:0=n
      . simp [h1,h2,h3]
      . by_cases h4:22=n
        . simp [h1,h2,h3,h4]
        . by_cases h5:23=n
          . simp [h1,h2,h3,h4,h5]
          . simp [h1,h2,h3,h4,h5]
theorem vec_make:∀ p,BG p 487 477=true:=fun p=>by kernel_rfl
theorem vec_dv:∀ G,VRs G [.none] [Value.none]:=fun G=>.cons rfl .nil
theorem vec_core {r:Addr} {k its a:V} {N:Lm->Hp->Prop} {R:KV} {E:KS} (h:N [some (.ref r),some k,some its,some a] (upd H r (.obj 487 [(1,k),(4,its),(0,a),(22,.bool false),(23,.bool false)]))) :
    vcS d none q477_0 N R E [some (.ref r),some k,some its,some a] (upd H r (.obj 487 [])):=by
  have cvk:∀ {v:V} {H:Hp} {K:KV},K v H->cv v H K:=AB;dsimp [q477_0];refine cvk (AM rfl rfl ?_);dsimp [q477_1];refine cvk (AM rfl rfl ?_);dsimp [q477_2];refine cvk (AM rfl rfl ?_);dsimp [q477_3];refine AM rfl rfl ?_;dsimp [q477_4];refine AM rfl rfl ?_;exact h
theorem vec_c {k its a:V} (hd:2<=d) (h:∀ r,H r=none->K (.ref r) (upd H r (.obj 487 [(1,k),(4,its),(0,a),(22,.bool false),(23,.bool false)]))):AD d (.ref 487) [k,its,a] K X H :=
  Bi (by decide) vec_make (BU ‹_› (by decide)) fun r hr=>BY f477 vec_dv (m:=[some (.ref r),some k,some its,some a]) (r_dl ‹_› (by decide)) rfl rfl (vec_core (.keep ⟨rfl,h r hr⟩))
theorem Cl {k its:V} (hd:2<=d) (h:∀ r,H r=none->K (.ref r) (upd H r (.obj 487 [(1,k),(4,its),(0,.none),(22,.bool false),(23,.bool false)]))):AD d (.ref 487) [k,its] K X H :=
  Bi (by decide) vec_make (BU ‹_› (by decide)) fun r hr=>BY f477 vec_dv (m:=[some (.ref r),some k,some its,some .none]) (r_dl ‹_› (by decide)) rfl rfl (vec_core (.keep ⟨rfl,h r hr⟩))
theorem quoted_c {x:Str} (hd:1<=d) (hx:x.length<=1000) (k:K (.str (sc 52++x++sc 44)) H):AD d (.ref 896) [.str x] K X H:=by refine AE f896 AQ (m:=[some (.str x)]) (BU ‹_› (by decide)) rfl rfl ?_;have h1:=scl (i:=52) (by decide);have h2:=scl (i:=44) (by decide);dsimp [q896_0];simp only [Str.length_append];exact ⟨(r_2 ‹_› ‹_› (by decide)),(r_3 ‹_› ‹_› ‹_› (by decide)),.keep k⟩
set_option tactic.hygienic true in
theorem Bx {C:Addr} {es:List (Nat×V)} {k:Str} (hd:1<=d) (h:match at? es 0 with | some .none=>K .none H | some (.dct as)=>(match at? as k with | some v=>cv v H K | none=>K .none H) | _=>False):AD d (.ref 28) [.obj C es,.str k] K X H:=by
  refine AE f28 AQ (m:=[some (.obj C es),some (.str k)]) (BU ‹_› (by decide)) rfl rfl ?_;dsimp [q28_0];split at h
  . rename_i h0;exact wl (h0 ..) (⟨rfl,fun Y=>.keep h,fun e=>by cases e⟩)
  . rename_i as h0;refine wl (h0 ..) ?_;refine ⟨rfl,fun e=>(by cases e),fun Y=>?_⟩;dsimp [q28_2];refine wl (h0 ..) ?_;refine ⟨rfl,rfl,?_⟩;dsimp;split at h
    . rename_i v q;try rw [q]
      exact cv_drp h
    . rename_i q;try rw [q]
      exact .keep h
  . exact h.elim
theorem dim_of_c {k:Str} {iv a:V} (hd:2<=d) (h:a = .none\/∃ as,a = .dct as/\at? as (sc 4)=none) (hk:K .none H):AD d (.ref 40) [Cb k iv a] K X H:=by
  refine AE f40 AQ (m:=[some _,none]) (BU ‹_› (by decide)) rfl rfl ?_;have fin:vcS (d - 1) none q40_1 (fun Y H=>drp (K .none) H) (fun v H=>drp (K v) H) (fun x Y H=>drp (X x) H) [some (Cb k iv a),some .none] H:=by dsimp [q40_1];exact ⟨fun Y=>.keep hk,fun e=>by cases e⟩
  dsimp [q40_0];refine Bx (r_d ‹_› (by decide)) ?_;rcases h with rfl | ⟨as,rfl,h⟩
  . exact fin
  . dsimp;rw [h];exact fin
theorem class_attr_c {k:Str} {its:List V} (hd:2<=d) (hk:∀ r,H r=none->K (.ref r) (upd H r (.lst []))):AD d (.ref 52) [vec k its .none] K X H:=by refine AE f52 AQ (m:=[some _,none]) (BU ‹_› (by decide)) rfl rfl ?_;dsimp [q52_0];refine Bx (r_d ‹_› (by decide)) ?_;dsimp [q52_1,q52_2];exact ⟨fun Y=>⟨Nat.zero_le _,fun r hr=>AB (.keep (hk r hr))⟩,fun e=>by cases e⟩
theorem Ch {k:Str} {its:List V} (hd:3<=d) (hk:∀ r,H r=none->K (.ref r) (upd H r (.lst []))):AD d (.ref 66) [vec k its .none] K X H:=by refine AE f66 AQ (m:=[some _,none]) (BU ‹_› (by decide)) rfl rfl ?_;dsimp [q66_0];refine dim_of_c (r_d ‹_› (by decide)) (.inl rfl) ?_;dsimp [q66_1,q66_2];exact ⟨fun Y=>⟨Nat.zero_le _,fun r hr=>AB (.keep (hk r hr))⟩,fun e=>by cases e⟩
theorem CZ {i:Nat} (h:i=15\/i=22) (j:Nat) (hj:(Nat.blt j 97 && !Nat.beq 15 j && !Nat.beq 22 j)=true):decide (sc i=sc j)=false:=by
  simp only [Bool.and_eq_true,Bool.not_eq_true'] at hj;rcases h with rfl | rfl
  . rw [dq (by rw [hj.1.1];rfl),hj.1.2]
  . rw [dq (by rw [hj.1.1];rfl),hj.2]
theorem Ci {i:Nat} {its:List V} {a:V} (hd:1<=d) (h:i=15\/i=22) (hk:K (.str (sc i)) H):AD d (.ref 73) [vec (sc i) its a] K X H:=by refine AE f73 AQ (m:=[some _,none]) (BU ‹_› (by decide)) rfl rfl ?_;dsimp [q73_0,q73_1,q73_3,q73_5,q73_7,q73_9];exact ⟨rfl,brE (CZ h 0 rfl) (brF (brE (CZ h 8 rfl) (brF (brE (CZ h 10 rfl) (brF (brE (CZ h 11 rfl) (brF (brE (CZ h 12 rfl) (brF (brE (CZ h 13 rfl) (brF (.keep hk))))))))))))⟩
theorem Dm {i:Nat} {its:List V} (hd:4<=d) (h:i=15\/i=22) (hk:K (ssV (if i=15 then [sc 15,sc 17] else [sc 22])) H):AD d (.ref 80) [vec (sc i) its .none] K X H:=by
  refine AE f80 AQ (m:=[some _,none,none]) (BU ‹_› (by decide)) rfl rfl ?_;dsimp [q80_0];refine Ci (r_d ‹_› (by decide)) h ?_;dsimp [q80_1];refine Ch (r_d ‹_› (by decide)) fun r1 h1=>?_;dsimp;refine ⟨by decide,fun r2 h2=>?_⟩;obtain ⟨n1,h2'⟩:=AI h2;refine addRR ((AC (Ne.symm n1)).trans (AA ..)) (AA ..) (Nat.le_of_ble_eq_true rfl) fun r3 h3=>AB ?_;obtain ⟨n2,h3'⟩:=AI h3;obtain ⟨n3,h3''⟩:=AI h3';have sb:∀ v,Sub H (upd (upd (upd H r1 (.lst [])) r2 (.lst [.str (sc i)])) r3 v):=fun v=>((Sub.refl.upd h1).upd h2').upd h3'';dsimp [q80_2];refine ⟨rfl,?_⟩;rcases h with rfl | rfl
  . refine brE (dq rfl) (brT (brT ?_));dsimp [q80_3];refine apL1 (AA ..) (Nat.le_of_ble_eq_true rfl) AS ?_;exact BX (AA ..) (sb _) h3'' hk
  . refine brE (dq rfl) (brF ⟨rfl,brE (dq rfl) (brF ?_)⟩);exact BX (AA ..) (sb _) h3'' hk
end
section
variable {d:Nat} {K:KV} {X:KX} {H:Hp}
theorem class_of_c {i:Nat} {its:List V} (hd:4<=d) (h:i=15\/i=22) (hk:∀ r,H r=none->K (.ref r) (upd H r (.lst [.str (sc i)]))):AD d (.ref 87) [vec (sc i) its .none] K X H:=by
  refine AE f87 AQ (m:=[some _,none]) (BU ‹_› (by decide)) rfl rfl ?_;dsimp [q87_0];refine class_attr_c (r_d ‹_› (by decide)) fun r1 h1=>AF h1 ?_;dsimp [q87_1];refine ⟨by decide,fun e=>(by cases e),fun Y=>?_⟩;dsimp [q87_3];refine Ch (r_d ‹_› (by decide)) fun r2 h2=>AF h2 ?_;dsimp [q87_4];refine ⟨by decide,fun e=>(by cases e),fun Y=>?_⟩;dsimp [q87_6];have he:decide (sc i=sc 16)=false:=by rcases h with rfl | rfl<;>simp
  refine wl (he ..) ?_;refine ⟨rfl,fun e=>(by cases e),fun Y=>?_⟩;refine Ci (r_d ‹_› (by decide)) h ?_;dsimp;exact ⟨by decide,fun r hr=>AB (.keep (hk r hr))⟩
theorem vcl_step {x:Nat} {v:V} {r:Addr} {H':Hp} {l:List Str} {N:Lm->Hp->Prop} {R:KV} {E:KS} (hx:x=15\/x=17\/x=22) (hl:l.length<=5) (e:H' r=some (ssV l)) (k0:l.contains (sc x)=true->N [some v,some (.ref r),some (.str (sc x))] H') (k1:l.contains (sc x)=false->N [some v,some (.ref r),some (.str (sc x))] (upd H' r (ssV (l++[sc x])))) :
    vcS d none q427_4 N R E [some v,some (.ref r),some (.str (sc x))] H':=by
  have h1:decide (sc x=sc 16)=false:=by rcases hx with rfl | rfl | rfl<;>exact dq rfl
  dsimp [q427_4];refine brE (congrArg not h1) (brT (inL e ?_));refine br (fun q=>?_) (fun q=>k0 (by simpa using q));dsimp [q427_5];refine wl (CF e ..) ?_;refine ⟨rfl,CH e (by rw [List.length_map];exact Bq ‹_› (by decide)) ?_⟩;have:=k1 (by simpa using q);unfold ssV at this;rwa [List.map_append] at this
theorem value_classes_c {i:Nat} {its:List V} (hd:5<=d) (h:i=15\/i=22) (hk:∀ r,H r=none->K (.ref r) (upd H r (ssV (if i=15 then [sc 15,sc 17] else [sc 22])))):AD d (.ref 427) [vec (sc i) its .none] K X H:=by
  refine AE f427 AQ (m:=[some _,none,none]) (BU ‹_› (by decide)) rfl rfl ?_;have he:decide (sc i=sc 10)=false:=by rcases h with rfl | rfl<;>exact dq rfl
  dsimp [q427_0];refine ⟨rfl,brE he (brF ?_)⟩;dsimp [q427_2];refine class_of_c (r_d ‹_› (by decide)) h fun r hr=>AB ?_;dsimp [q427_3];refine Dm (r_d ‹_› (by decide)) h (AG (r_dl ‹_› (by decide)) ?_);rcases h with rfl | rfl
  . refine ⟨trivial,vcl_step (l:=[sc 15]) (.inl rfl) (by decide) (AA ..) (fun Y=>?_) (fun q=>by simp at q)⟩;refine ⟨trivial,vcl_step (l:=[sc 15]) (.inr (.inl rfl)) (by decide) (AA ..) (fun q=>by simp at q) (fun Y=>⟨trivial,?_⟩)⟩;dsimp [q427_6];exact wl (AS ..) (AB (.keep (hk r hr)))
  . refine ⟨trivial,vcl_step (l:=[sc 22]) (.inr (.inr rfl)) (by decide) (AA ..) (fun Y=>⟨trivial,?_⟩) (fun q=>by simp at q)⟩;dsimp [q427_6];exact AB (.keep (hk r hr))
theorem DW (hd:1<=d) (hk:K (.tup [.str (sc 21),.str (sc 15),.str (sc 16),.str (sc 17),.str (sc 22),.str (sc 23),.str (sc 24),.str (sc 14)]) H):AD d (.ref 315) [] K X H:=by refine AE f315 AQ (m:=[]) (BU ‹_› (by decide)) rfl rfl ?_;dsimp [q315_0];exact ⟨by decide,.keep hk⟩
noncomputable def basicL:List Nat:=[21,15,16,17,22,23,24,14,25,26,27,28,6,7,2,0,9,29,30,31,32,33,34,35,36,37,38,39,40,41]
theorem basic_names_c (hd:2<=d) (hk:K (.tup (basicL.map fun i=>.str (sc i))) H):AD d (.ref 322) [] K X H:=by refine AE f322 AQ (m:=[]) (BU ‹_› (by decide)) rfl rfl ?_;dsimp [q322_0];refine DW (r_d ‹_› (by decide)) ?_;dsimp;exact ⟨by decide,by decide,by simp,by simp,.keep hk⟩
theorem strs_map (l:List Str):BI (l.map .str)=some l:=by
  induction l with
  | nil=>rfl
  | cons a r ih=>simp [BI,ih]
theorem basic_c {t:V} {x:Str} (hd:3<=d) (hk:K (.bool ((basicL.map sc).contains x)) H):AD d (.ref 371) [t,.str x] K X H:=by
  refine AE f371 AQ (m:=[some t,some (.str x)]) (BU ‹_› (by decide)) rfl rfl ?_;dsimp [q371_0];refine basic_names_c (r_d ‹_› (by decide)) ?_;have e:BI (basicL.map fun i=>V.str (sc i))=some (basicL.map sc):=by rw [<- strs_map,List.map_map];rfl
  dsimp;exact wl (e ..) (.keep hk)
end
structure TC where
  slots:List (Str×Str)
  above:List Str
  virt:Bool
  proto:List (Str×V)
noncomputable abbrev tcE (n:Str) (c:TC):List (Nat×V):=[(5,.str n),(12,Ab c.slots),(9,ssV c.above),(21,.none),(15,.bool c.virt),(14,.dct c.proto)]
noncomputable abbrev tcV (n:Str) (c:TC):V:=.obj 304 (tcE n c)
noncomputable abbrev Tb:=List (Str×TC)
noncomputable def Cm (T:Tb):List (Str×V):=T.map fun x=>(x.1,tcV x.1 x.2)
noncomputable def AH (T:Tb) (n:Str):Option TC:=(T.find? fun x=>decide (x.1=n)).map (·.2)
structure TabAt (H:Hp) (t tc:Addr) (T:Tb):Prop where
  t:H t=some (.obj 409 [(10,.ref tc),(11,.dct [])])
  c:H tc=some (.dct (Cm T))
theorem TabAt.sub {H H':Hp} {t tc:Addr} {T:Tb} (a:TabAt H t tc T) (s:Sub H H'):TabAt H' t tc T:=⟨s _ _ a.t,s _ _ a.c⟩
theorem Dw (T:Tb) (n:Str):at? (Cm T) n=(AH T n).map (tcV n):=by
  unfold Cm AH
  induction T with
  | nil=>rfl
  | cons x r ih =>
    refine wl (List.map_cons ..) ?_;refine wl (Af ..) ?_;refine wl (List.find?_cons ..) ?_;by_cases h:x.1=n
    . subst h;simp
    . simp only [h,if_false,decide_false];exact ih
theorem tab_len (T:Tb):(Cm T).length=T.length:=by simp [Cm]
section
variable {H:Hp} {t tc:Addr} {T:Tb} {n:Str} {c:TC} {a:Addr} {ds:List (Str×V)}
theorem TabAt.cls {K:KV} (q:TabAt H t tc T) (k:K (.ref tc) H):CD (.ref t) 10 K H:=BA q.t rfl rfl k
theorem TabAt.uni {K:KV} (q:TabAt H t tc T) (k:K (.dct []) H):CD (.ref t) 11 K H:=BA q.t rfl rfl k
theorem TabAt.has {K:Bool->Hp->Prop} (q:TabAt H t tc T) (k:K (AH T n).isSome H):oB (Dn (.ref tc) (.str n) H) K H :=
  inD q.c (by rw [Dw,Option.isSome_map];exact k)
theorem TabAt.get {K:KV} (q:TabAt H t tc T) (e:AH T n=some c) (k:K (tcV n c) H):subV (.ref tc) (.str n) K H:=subD q.c (by rw [Dw,e];rfl) k
end
section
variable {n s a v vi p:V}
@[simp] theorem c_5:at? [(5,n),(12,s),(9,a),(21,v),(15,vi),(14,p)] 5=some n:=rfl
@[simp] theorem c_12:at? [(5,n),(12,s),(9,a),(21,v),(15,vi),(14,p)] 12=some s:=rfl
@[simp] theorem c_9:at? [(5,n),(12,s),(9,a),(21,v),(15,vi),(14,p)] 9=some a:=rfl
@[simp] theorem c_15:at? [(5,n),(12,s),(9,a),(21,v),(15,vi),(14,p)] 15=some vi:=rfl
@[simp] theorem c_14:at? [(5,n),(12,s),(9,a),(21,v),(15,vi),(14,p)] 14=some p:=rfl
@[simp] theorem t_10:at? [(10,n),(11,s)] 10=some n:=rfl
@[simp] theorem t_11:at? [(10,n),(11,s)] 11=some s:=rfl
end
noncomputable def Db (n:Str):List Str:=if n=sc 15 then [sc 17] else if n=sc 17\/n=sc 22 then [sc 28] else []
noncomputable def Aj (T:Tb) (n:Str):List Str:=match AH T n with | some c=>c.above | none=>Db n
def isB (n:Str):Prop:=n=sc 15\/n=sc 17\/n=sc 22\/n=sc 26\/n=sc 28
section
variable {d:Nat} {K:KV} {X:KX} {H:Hp} {t tc:Addr} {T:Tb} {n:Str}
theorem basic_parents_c (hd:1<=d) (h:isB n) (hk:∀ r,H r=none->K (.ref r) (upd H r (ssV (Db n)))):AD d (.ref 329) [.str n] K X H:=by
  refine AE f329 AQ (m:=[some (.str n)]) (BU hd (by decide)) rfl rfl ?_;dsimp [q329_0];rcases h with rfl | h
  . rw [show Db (sc 15)=[sc 17] by decide +kernel] at hk;refine brE (decide_eq_true rfl) (brT (brT ?_));dsimp [q329_1];exact ⟨by decide,fun r hr=>AB (.keep (hk r hr))⟩
  have no:∀ i,([17,22,26,28].all fun j => !decide (sc j=sc i))=true->decide (n=sc i)=false:=fun i q=>by
    simp only [List.all_cons,Bool.and_eq_true,Bool.not_eq_true'] at q;rcases h with rfl | rfl | rfl | rfl
    . exact q.1
    . exact q.2.1
    . exact q.2.2.1
    . exact q.2.2.2.1
  refine brE (no 15 (by decide +kernel)) (brF (brE (no 16 (by decide +kernel)) (brF ?_)));dsimp [q329_2];have h:([sc 21,sc 17,sc 22,sc 23,sc 24,sc 7].contains n=true/\Db n=[sc 28])\/([sc 21,sc 17,sc 22,sc 23,sc 24,sc 7].contains n=false/\Db n=[]/\[sc 9,sc 29,sc 30,sc 31,sc 32,sc 33,sc 34,sc 35,sc 36].contains n=false):=by
    rcases h with rfl | rfl | rfl | rfl
    . exact .inl (by decide +kernel)
    . exact .inl (by decide +kernel)
    . exact .inr (by decide +kernel)
    . exact .inr (by decide +kernel)
  rcases h with ⟨h1,h2⟩ | ⟨h1,h2,h3⟩
  . rw [h2] at hk;refine ⟨by decide,brE h1 (brT ?_)⟩;dsimp [q329_3];exact ⟨by decide,fun r hr=>AB (.keep (hk r hr))⟩
  rw [h2] at hk;refine ⟨by decide,brE h1 (brF ?_)⟩;dsimp [q329_4];refine brE (no 6 (by decide +kernel)) (brF ?_);dsimp [q329_6];refine brE (no 38 (by decide +kernel)) (brF ?_);dsimp [q329_8];refine brE (no 39 (by decide +kernel)) (brF ?_);dsimp [q329_10];refine brE (no 37 (by decide +kernel)) (brF ?_);dsimp [q329_12];refine ⟨by decide,brE h3 (brF ?_)⟩;dsimp [q329_14];exact ⟨by decide,fun r hr=>AB (.keep (hk r hr))⟩
theorem basic_is (h:isB n):(basicL.map sc).contains n=true:=by rcases h with rfl | rfl | rfl | rfl | rfl<;>decide +kernel
theorem parents_c (hd:4<=d) (ht:TabAt H t tc T) (h:(∃ c,AH T n=some c/\c.above.length<=1000)\/(AH T n=none/\isB n)) (hk:K (ssV (Aj T n)) H):AD d (.ref 385) [.ref t,.str n] K X H:=by
  refine AE f385 AQ (m:=[some (.ref t),some (.str n),none,none]) (BU ‹_› (by decide)) rfl rfl ?_;dsimp [q385_0];refine ⟨by decide,fun r1 h1=>AF h1 ?_⟩;dsimp [q385_1];refine ht.cls (ht.has ?_);have fin:∀ {r:Addr},H r=none->vcS (d - 1) none q385_5 (fun Y H=>drp (K .none) H) (fun v H=>drp (K v) H) (fun x Y H=>drp (X x) H) [some (.ref t),some (.str n),some (.ref r),none] (upd H r (ssV (Aj T n))):=by intro r hr;dsimp [q385_5];refine (ht.sub (Sub.refl.upd hr)).uni (AG (r_dl ‹_› (by decide)) ⟨BR,?_⟩);dsimp [q385_8];exact BX (AA _ _ _) (Sub.refl.upd hr) hr hk
  rcases h with ⟨c,hc,hl⟩ | ⟨hc,hb⟩
  . refine wl (hc ..) ?_;refine ⟨fun Y=>?_,fun e=>by cases e⟩;dsimp [q385_2];refine ht.cls (ht.get hc ?_);dsimp;refine ⟨rfl,by simpa using Nat.le_trans hl (by decide),fun r hr=>AB ?_⟩;have e:Aj T n=c.above:=by unfold Aj;rw [hc]
    exact wr (e ..) (fin hr)
  . refine wl (hc ..) ?_;refine ⟨fun e=>(by cases e),fun Y=>?_⟩;dsimp [q385_3];refine rcO1 ht.t mth_409_13 (basic_c (r_d ‹_› (by decide)) ?_);refine wl (basic_is hb ..) ?_;refine ⟨fun Y=>?_,fun e=>by cases e⟩;dsimp [q385_4];have e:Aj T n=Db n:=by unfold Aj;rw [hc]
    exact basic_parents_c (r_d ‹_› (by decide)) hb fun r hr=>AB (e▸fin hr)
end
def Kn (T:Tb) (n:Str):Prop:=(∃ c,AH T n=some c)\/(AH T n=none/\isB n)
def isK (k:Str):Prop:=k=sc 17\/k=sc 22\/k=sc 26
structure Clo (T:Tb):Prop where
  len:∀ n c,AH T n=some c->c.above.length<=2
  key:∀ n c,AH T n=some c->n=sc 86\/n=sc 87\/n=sc 88
  up:∀ n c,AH T n=some c->∀ p∈c.above,∃ c',AH T p=some c'
  sl:∀ n c,AH T n=some c->c.slots.length<=3/\∀ x∈c.slots,isK x.2
noncomputable def BN (k:Int) (rs:List (Str×Int)) (p:Str):List (Str×Int):=if p=sc 26\/p∈rs.map (·.1) then rs else rs++[(p,k)]
noncomputable def bfs (par:Str->List Str):Nat->Nat->List (Str×Int)->List (Str×Int)
  | 0,_,rows=>rows
  | f+1,at',rows=>match rows[at']? with
    | none=>rows
    | some x=>bfs par f (at'+1) ((par x.1).foldl (BN (x.2+1)) rows)
noncomputable def supF (n:Str) (r:List (Str×Int)):List (Str×Int):=(if n=sc 26 then r else r++[(sc 26,(match r.getLast? with | some x=>x.2 | none=>0)+1)]).drop 1
noncomputable def AV (T:Tb) (n:Str):List (Str×Int):=supF n (bfs (Aj T) 8 0 [(n,0)])
noncomputable def UL:List Str:=[86,87,88,15,17,22,26,28].map sc
theorem Kn.u {T:Tb} (hc:Clo T) {n:Str} (h:Kn T n):n∈UL:=by
  rcases h with ⟨c,h⟩ | ⟨_,h⟩
  . rcases hc.key n c h with rfl | rfl | rfl<;>simp [UL]
  . rcases h with rfl | rfl | rfl | rfl | rfl<;>simp [UL]
theorem CL {T:Tb} (hc:Clo T) {n:Str} (h:isB n):AH T n=none:=by
  cases q:AH T n with
  | none=>rfl
  | some c=>rcases hc.key n c q with e | e | e<;>rcases h with r | r | r | r | r<;>rw [e] at r<;>simp at r
theorem isB_par {n:Str} (h:isB n):∀ p∈Db n,isB p:=by rcases h with rfl | rfl | rfl | rfl | rfl<;>simp [Db,isB]
theorem Kn.par {T:Tb} (hc:Clo T) {n:Str} (h:Kn T n):∀ p∈Aj T n,Kn T p:=by
  intro p hp;unfold Aj at hp;rcases h with ⟨c,h⟩ | ⟨h,hb⟩
  . rw [h] at hp;exact .inl (hc.up n c h p hp)
  . rw [h] at hp;have:=isB_par hb p hp;exact .inr ⟨CL hc this,this⟩
structure RowsOk (T:Tb) (rs:List (Str×Int)):Prop where
  nd:(rs.map (·.1)).Nodup
  kn:∀ x∈rs.map (·.1),Kn T x
theorem RowsOk.len {T:Tb} (hc:Clo T) {rs:List (Str×Int)} (h:RowsOk T rs):rs.length<=8:=by have:=h.nd.length_le_of_subset (l₂:=UL) fun x hx=>(h.kn x hx).u hc;simpa [UL] using this
theorem RowsOk.add {T:Tb} {rs:List (Str×Int)} (h:RowsOk T rs) {p:Str} {k:Int} (hp:Kn T p) (hn:p∉rs.map (·.1)):RowsOk T (rs++[(p,k)]):=by
  constructor
  . rw [List.map_append,List.nodup_append];exact ⟨h.nd,by simp,fun a ha b hb e=>by simp at hb;subst hb;exact hn (e▸ha)⟩
  . intro x hx;rw [List.map_append,List.mem_append] at hx;rcases hx with hx | hx
    . exact h.kn x hx
    . simp at hx;exact hx▸hp
def SeenOk (es:List (Str×V)) (rs:List (Str×Int)):Prop:=es.length<=rs.length+2/\∀ x,(at? es x).isSome=decide (x=sc 26\/x∈rs.map (·.1))
theorem put_len {κ:Type} [DecidableEq κ] (es:List (κ×V)) (k:κ) (v:V):(put es k v).length<=es.length+1:=by unfold Mine.put;split<;>simp
theorem SeenOk.add {es:List (Str×V)} {rs:List (Str×Int)} (h:SeenOk es rs) {p:Str} {k:Int} {v:V}:SeenOk (put es p v) (rs++[(p,k)]):=by
  refine ⟨?_,fun x=>?_⟩
  . rw [List.length_append];exact r_cc (put_len es p v) h.1
  . refine wl (Bl ..) ?_;by_cases e:x=p
    . subst e;simp
    . refine wl (if_neg e ..) ?_;refine wl (h.2 x ..) ?_;refine decide_eq_decide.mpr ?_;simp only [List.map_append,List.map_cons,List.map_nil,List.mem_append,List.mem_singleton,e,or_false]
theorem addP_ok {T:Tb} {k:Int} {rs:List (Str×Int)} {p:Str} (h:RowsOk T rs) (hp:Kn T p):RowsOk T (BN k rs p):=by
  unfold BN;split
  . exact h
  . rename_i e;exact h.add hp fun q=>e (.inr q)
theorem addPs_ok {T:Tb} {k:Int}:∀ {ps:List Str} {rs:List (Str×Int)},RowsOk T rs->(∀ p∈ps,Kn T p)->RowsOk T (ps.foldl (BN k) rs)
  | [],_,h,_=>h
  | p::ps,rs,h,hp=>by rw [List.foldl_cons];exact addPs_ok (addP_ok h (hp p (.head _))) fun q hq=>hp q (.tail _ hq)
set_option tactic.hygienic true in
theorem bfs_ok {T:Tb} (hc:Clo T):∀ {f i:Nat} {rs:List (Str×Int)},RowsOk T rs->RowsOk T (bfs (Aj T) f i rs)
  | 0,_,_,h=>h
  | f+1,i,rs,h=>by
    rw [bfs];split
    . exact h
    . rename_i x hx;exact bfs_ok hc (addPs_ok h ((h.kn _ (List.mem_map_of_mem (List.mem_of_getElem? hx))).par hc))
theorem addP_pre {k:Int} {rs:List (Str×Int)} {p:Str}:∃ l,BN k rs p=rs++l:=by
  unfold BN;split
  . exact ⟨[],by simp⟩
  . exact ⟨_,rfl⟩
theorem addPs_pre {k:Int}:∀ {ps:List Str} {rs:List (Str×Int)},∃ l,ps.foldl (BN k) rs=rs++l
  | [],_=>⟨[],by simp⟩
  | p::ps,rs=>by obtain ⟨l,e⟩:=addP_pre (k:=k) (rs:=rs) (p:=p);obtain ⟨l',e'⟩:=addPs_pre (k:=k) (ps:=ps) (rs:=rs++l);exact ⟨l++l',by rw [List.foldl_cons,e,e',List.append_assoc]⟩
set_option tactic.hygienic true in
theorem bfs_pre {par:Str->List Str}:∀ {f i:Nat} {rs:List (Str×Int)},∃ l,bfs par f i rs=rs++l:=by
  intro l
  induction l with
  | zero=>intro _ _;exact ⟨[],by simp [bfs]⟩
  | succ f IH =>
    intro i rs;rw [bfs];split
    . exact ⟨[],by simp⟩
    . rename_i x hx;obtain ⟨l,e⟩:=addPs_pre (k:=x.2+1) (ps:=par x.1) (rs:=rs);obtain ⟨l',e'⟩:=IH (i:=i+1) (rs:=rs++l);exact ⟨l++l',by rw [e,e',List.append_assoc]⟩
noncomputable def upM (T:Tb) (n:Str):List (Str×Int):=bfs (Aj T) 8 0 [(n,0)]
theorem one_ok {T:Tb} {n:Str} (h:Kn T n):RowsOk T [(n,0)]:=⟨by simp,fun x hx=>by simp at hx;exact hx▸h⟩
theorem up_ok {T:Tb} (hc:Clo T) {n:Str} (h:Kn T n):RowsOk T (upM T n):=bfs_ok hc (one_ok h)
theorem Di {T:Tb} {n:Str} (h:n≠sc 26):∃ k,(n,(0:Int))::AV T n=upM T n++[(sc 26,k)]:=by obtain ⟨l,e⟩:=bfs_pre (par:=Aj T) (f:=8) (i:=0) (rs:=[(n,0)]);unfold AV supF upM;refine wl (if_neg h ..) ?_;exact wl (e ..) (⟨_,rfl⟩)
theorem Cn {T:Tb} (hc:Clo T) {n:Str} (h:Kn T n):(AV T n).length<=8:=by have:=(up_ok hc h).len hc;unfold AV supF upM at *;split<;>simp<;>omega
def InT (T:Tb) (n:Str):Prop:=∃ c,AH T n=some c
theorem InT.par {T:Tb} (hc:Clo T) {n:Str} (h:InT T n):∀ p∈Aj T n,InT T p:=by obtain ⟨c,h⟩:=h;unfold Aj;rw [h];exact hc.up n c h
theorem addPs_in {T:Tb} {k:Int}:∀ {ps:List Str} {rs:List (Str×Int)},(∀ x∈rs,InT T x.1)->(∀ p∈ps,InT T p)->∀ x∈ps.foldl (BN k) rs,InT T x.1:=by
  intro l
  induction l with
  | nil=>intro _ h _;exact h
  | cons p ps IH =>
    intro rs h hp;refine wl (List.foldl_cons ..) ?_;refine IH (fun x hx=>?_) fun q hq=>hp q (.tail _ hq);unfold BN at hx;split at hx
    . exact h x hx
    . rcases List.mem_append.mp hx with hx | hx
      . exact h x hx
      . simp at hx;subst hx;exact hp _ (.head _)
set_option tactic.hygienic true in
theorem bfs_in {T:Tb} (hc:Clo T):∀ {f i:Nat} {rs:List (Str×Int)},(∀ x∈rs,InT T x.1)->∀ x∈bfs (Aj T) f i rs,InT T x.1
  | 0,_,_,h=>h
  | f+1,i,rs,h=>by
    rw [bfs];split
    . exact h
    . rename_i x hx;exact bfs_in hc (addPs_in h ((h x (List.mem_of_getElem? hx)).par hc))
theorem up_in {T:Tb} (hc:Clo T) {n:Str} (h:InT T n):∀ x∈upM T n,InT T x.1:=bfs_in hc fun x hx=>by simp at hx;subst hx;exact h
noncomputable def Ce (acc:List (Str×Str)) (x:Str×Str):List (Str×Str):=if x.1∈acc.map (·.1) then acc else acc++[x]
noncomputable def slR (T:Tb) (n:Str):List (Str×Str):=match AH T n with | some c=>c.slots | none=>[]
noncomputable def slF (T:Tb) (acc:List (Str×Str)) (rows:List (Str×Int)):List (Str×Str):=rows.foldl (fun acc x=>(slR T x.1).foldl Ce acc) acc
noncomputable def AO (T:Tb) (n:Str):List (Str×Str):=slF T [] (upM T n)
theorem any_no {T:Tb} (hc:Clo T):AH T (sc 26)=none:=CL hc (.inr (.inr (.inr (.inl rfl))))
theorem InT.any {T:Tb} (hc:Clo T) {n:Str} (h:InT T n):n≠sc 26:=fun e=>by obtain ⟨c,h⟩:=h;rw [e,any_no hc] at h;cases h
theorem slots_up {T:Tb} (hc:Clo T) {n:Str} (h:InT T n):slF T [] ((n,0)::AV T n)=AO T n:=by
  obtain ⟨k,e⟩:=Di (T:=T) (h.any hc);rw [e];unfold slF AO slF;refine wl (List.foldl_append ..) ?_;refine wl (List.foldl_cons ..) ?_;refine wl (List.foldl_nil ..) ?_;dsimp only;have:slR T (sc 26)=[]:=by unfold slR;rw [any_no hc]
  rw [this];rfl
section
variable {d:Nat} {K:KV} {X:KX} {H:Hp} {t tc:Addr} {T:Tb} {n:Str}
theorem DE {H:Hp} {a b:Addr} {x y z:V} (h:a≠b):upd (upd (upd H a x) b y) a z=upd (upd H a z) b y:=by
  funext c;unfold upd;split
  . rename_i q;subst q;rw [if_neg h]
  . rfl
theorem Kn.ok {T:Tb} (hc:Clo T) {n:Str} (h:Kn T n):(∃ c,AH T n=some c/\c.above.length<=1000)\/(AH T n=none/\isB n):=by
  rcases h with ⟨c,h⟩ | h
  . exact .inl ⟨c,h,Nat.le_trans (hc.len n c h) (by decide)⟩
  . exact .inr h
theorem rw_get {rs:List (Str×Int)} {i:Nat} {x:Str×Int} (h:rs[i]?=some x):(rs.map rwV)[i]?=some (rwV x):=by simp [h]
theorem rw_add {rs:List (Str×Int)} {p:Str} {k:Int}:rs.map rwV++[V.tup [.str p,.int k]]=(rs++[(p,k)]).map rwV:=by rw [List.map_append];rfl
noncomputable def h2 (H:Hp) (r2 r3:Addr) (xs:List V) (es:List (Str×V)):Hp:=upd (upd H r2 (.lst xs)) r3 (.dct es)
section
variable {r2 r3:Addr} {xs:List V} {es:List (Str×V)} {v:V}
theorem Bj (h:r2≠r3):h2 H r2 r3 xs es r2=some (.lst xs):=by unfold h2;rw [AC h,AA]
theorem DS:h2 H r2 r3 xs es r3=some (.dct es):=AA ..
theorem Do {k:Str}:upd (h2 H r2 r3 xs es) r3 (.dct (put es k v))=h2 H r2 r3 xs (put es k v):=AS
theorem h2_app (h:r2≠r3):upd (h2 H r2 r3 xs es) r2 (.lst (xs++[v]))=h2 H r2 r3 (xs++[v]) es:=DE h
theorem h2_appr {rs:List (Str×Int)} {p:Str} {k:Int} (h:r2≠r3):upd (h2 H r2 r3 (rs.map rwV) es) r2 (.lst (rs.map rwV++[.tup [.str p,.int k]]))=h2 H r2 r3 ((rs++[(p,k)]).map rwV) es:=by rw [h2_app h,rw_add]
theorem Cy (a:H r2=none) (b:H r3=none):Sub H (h2 H r2 r3 xs es):=(Sub.refl.upd a).upd b
end
theorem bfs_end {par:Str->List Str} {rs:List (Str×Int)} {i:Nat} (h:rs.length<=i):∀ f,bfs par f i rs=rs
  | 0=>rfl
  | f+1=>by rw [bfs,List.getElem?_eq_none h]
structure SupI (T:Tb) (n:Str) (i:Nat) (rs:List (Str×Int)) (es:List (Str×V)):Prop where
  hi:i<=rs.length
  hr:RowsOk T rs
  hs:SeenOk es rs
  hh:rs.head?=some (n,0)
theorem SupI.add {i:Nat} {rs:List (Str×Int)} {es:List (Str×V)} {p:Str} {k:Int} {v:V} (s:SupI T n i rs es) (hp:Kn T p) (h:¬ (p=sc 26\/p∈rs.map (·.1))):SupI T n i (rs++[(p,k)]) (put es p v) :=
  ⟨by rw [List.length_append];exact Nat.le_trans s.hi (Nat.le_add_right ..),s.hr.add hp fun q=>h (.inr q),s.hs.add,by rw [List.head?_append,s.hh];rfl⟩
noncomputable abbrev supM (t:Addr) (n:Str) (r2 r3:Addr) (i:Nat) (x5 x6 x7:Option V):Lm:=[some (.ref t),some (.str n),some (.ref r2),some (.ref r3),some (.int i),x5,x6,x7]
section
variable {N:Lm->Hp->Prop} {R:KV} {E:KS} {r2 r3:Addr} {i:Nat} {k:Int} {tot rs:List (Str×Int)} {ws:List V} {H0:Hp} {es:List (Str×V)} {x5 x6 x7:Option V}
theorem sup_in (n2:r2≠r3) (hc:Clo T) (h:∀ es x7,SupI T n i tot es->N (supM t n r2 r3 i x5 (some (.int k)) x7) (h2 H r2 r3 (tot.map rwV) es)) {ps:List Str} (hp:∀ p∈ps,Kn T p) (s:SupI T n i rs es) (hf:ps.foldl (BN (k+1)) rs=tot) :
    AX d none (.one 7) q392_7 (.lst ws) H0 N R E (ps.map .str) (supM t n r2 r3 i x5 (some (.int k)) x7) (h2 H r2 r3 (rs.map rwV) es):=by
  induction ps generalizing rs es x7 with
  | nil=>cases hf;exact Ay trivial (h _ _ s)
  | cons p ps ih =>
    refine Az trivial fun M hM=>?_;dsimp [q392_7];refine inD DS ?_;have hl:=s.hr.len hc;rw [s.hs.2 p];rw [List.foldl_cons] at hf;have hq:=fun q hq=>hp q (.tail _ hq);by_cases ep:p=sc 26\/p∈rs.map (·.1)
    . rw [BN,if_pos ep] at hf;exact brE (congrArg not (decide_eq_true ep)) (brF (hM _ _ (ih hq s hf)))
    . rw [BN,if_neg ep] at hf;refine brE (congrArg not (decide_eq_false ep)) (brT ?_);dsimp [q392_8];refine setDe DS (Nat.lt_of_le_of_lt s.hs.1 (Nat.lt_of_le_of_lt (Nat.add_le_add_right hl 2) (by decide))) Do ?_;dsimp [q392_9];refine apL2 (by decide) (Bj n2) (by rw [List.length_map];exact Bq ‹_› (by decide)) (h2_appr n2) ?_;exact hM _ _ (ih hq (s.add (hp p (.head _)) ep) hf)
theorem sup_end (n2:r2≠r3) (hr2:H r2=none) (hr3:H r3=none) (hd:1<=d) (hl:rs.length<=9) (hk:K (rwsV (rs.drop 1)) H):vcS d none q392_12 (fun Y H=>drp (K .none) H) (fun v H=>drp (K v) H) (fun x Y H=>drp (X x) H) (supM t n r2 r3 i x5 x6 x7) (h2 H r2 r3 (rs.map rwV) es):=by dsimp [q392_12];refine slcR (i:=1) (Bj n2) (by rw [List.length_map];exact AN ‹_› (by decide)) fun r4 h4=>?_;refine BX (AA _ _ _) ((Cy hr2 hr3).upd ((Cy hr2 hr3).no h4)) ((Cy hr2 hr3).no h4) ?_;rw [<- List.map_drop];exact hk
inductive SupJ (H:Hp) (T:Tb) (n:Str) (t r2 r3:Addr) (tot:List (Str×Int)):Nat->Lm->Hp->Prop
  | mk (i:Nat) (rs:List (Str×Int)) (es:List (Str×V)) (x5 x6 x7:Option V) (s:SupI T n i rs es) (hb:bfs (Aj T) (8 - i) i rs=tot):SupJ H T n t r2 r3 tot (8 - i) (supM t n r2 r3 i x5 x6 x7) (h2 H r2 r3 (rs.map rwV) es)
theorem sup_while (hd:4<=d) (ht:∀ xs es,TabAt (h2 H r2 r3 xs es) t tc T) (hc:Clo T) (n2:r2≠r3) (s:SupI T n i rs es) {tot:List (Str×Int)} (hb:bfs (Aj T) (8 - i) i rs=tot)
    (h:∀ i x5 x6 x7 es,tot.length<=8->tot.head?=some (n,0)->N (supM t n r2 r3 i x5 x6 x7) (h2 H r2 r3 (tot.map rwV) es)):whlP d none (.cmp .Lt (.loc 4) (.len (.loc 2))) q392_4 N R E (supM t n r2 r3 i x5 x6 x7) (h2 H r2 r3 (rs.map rwV) es):=by
  refine whl_by (SupJ H T n t r2 r3 tot) _ (.mk i rs es x5 x6 x7 s hb) ?_;rintro k m H' ⟨i,rs,es,x5,x6,x7,s,hb⟩;have hl:=s.hr.len hc;have lk:=Bj (H:=H) (xs:=rs.map rwV) (es:=es) n2;dsimp;refine lenR lk (by rw [List.length_map];exact AN ‹_› (by decide)) ?_;refine wl (List.length_map ..) ?_;refine br (fun e=>?_) (fun e=>?_)
  . have hlt:i<rs.length:=Int.ofNat_lt.mp (of_decide_eq_true e);obtain ⟨x,hx⟩:∃ x,rs[i]?=some x:=⟨_,List.getElem?_eq_getElem hlt⟩
    dsimp [q392_4,q392_5,q392_6];refine ⟨d0 hd rfl,subR lk (Nat.lt_of_lt_of_le hlt (AN hl (by decide))) (rw_get hx) ?_⟩;dsimp;have tq:=ht (rs.map rwV) es;have hkn:Kn T x.1:=s.hr.kn _ (List.mem_map_of_mem (List.mem_of_getElem? hx));refine rcO1 tq.t mth_409_14 (parents_c (Nat.le_trans (by decide) hd) tq (hkn.ok hc) ?_);dsimp;refine AG (d0 hd rfl) (sup_in n2 hc (i:=i+1) (fun es x7 s'=>⟨8 - (i+1),r_sl (Nat.lt_of_lt_of_le hlt hl),.mk _ _ _ _ _ _ s' ?_⟩) (hkn.par hc) {s with hi:=hlt} rfl);refine wr (hb ..) ?_;refine wl (r_sd (Nat.lt_of_lt_of_le hlt hl) ..) ?_;rw [bfs];exact wl (hx ..) rfl
  . rw [bfs_end (Nat.le_of_not_lt fun q=>of_decide_eq_false e (Int.ofNat_lt.mpr q))] at hb;cases hb;exact h i x5 x6 x7 es hl s.hh
end
theorem supers_c (hd:5<=d) (ht:TabAt H t tc T) (hc:Clo T) (hn:Kn T n) (hk:K (rwsV (AV T n)) H):AD d (.ref 392) [.ref t,.str n] K X H:=by
  refine AE f392 AQ (m:=[some (.ref t),some (.str n),none,none,none,none,none,none]) (d0 hd rfl) rfl rfl ?_;dsimp [q392_0];refine ⟨by decide,by decide,fun r2 hr2=>AB ?_⟩;dsimp [q392_1,-CJ];refine ⟨by decide,rfl,fun r3 h3=>AB ?_⟩;obtain ⟨n3,hr3⟩:=AI h3;have n2:=Ne.symm n3;dsimp [q392_2,q392_3,-CJ];refine sup_while (rs:=[(n,0)]) (i:=0) (dle hd rfl) (fun xs es=>ht.sub (Cy hr2 hr3)) hc n2 ⟨Nat.zero_le _,⟨by simp,fun x hx=>List.mem_singleton.mp hx▸hn⟩,⟨Nat.le_trans (put_len _ _ _) (by simp),fun x=>?_⟩,rfl⟩ rfl fun i x5 x6 x7 es hl hh=>?_
  . refine wl (Bl ..) ?_;by_cases e:x=sc 26
    . simp [e]
    . by_cases e2:x=n
      . simp [e2]
      . simp [e,e2,Ne.symm e2]
  unfold AV supF at hk
  revert hl hh hk
  generalize bfs (Aj T) 8 0 [(n,0)]=rs;intro hk hl hh;dsimp [q392_10];by_cases e26:n=sc 26
  . replace hk:=if_pos e26▸hk;exact brE (congrArg not (decide_eq_true e26)) (brF (sup_end n2 hr2 hr3 (dle hd rfl) (AN hl (by decide)) hk))
  . replace hk:=if_neg e26▸hk;have hpos:0<rs.length:=by cases rs with
      | nil=>cases hh
      | cons=>exact Nat.succ_pos _
    have lk:=Bj (H:=H) (xs:=rs.map rwV) (es:=es) n2;refine brE (congrArg not (decide_eq_false e26)) (brT ?_);obtain ⟨y,hy⟩:∃ y,rs[rs.length - 1]?=some y:=⟨_,List.getElem?_eq_getElem (Nat.sub_lt hpos (Nat.succ_pos 0))⟩
    dsimp [q392_11];refine wl (CF lk ..) ?_;refine ⟨rfl,lenR lk (by rw [List.length_map];exact AN ‹_› (by decide)) ?_⟩;dsimp;refine wl (List.length_map ..) ?_;refine wl (r_c0 hpos ..) ?_;refine subR lk (Nat.lt_of_le_of_lt (Nat.sub_le _ _) (AN (Nat.succ_le_succ hl) (by decide))) (rw_get hy) ?_;dsimp;refine ⟨by decide,by decide,CH lk (by rw [List.length_map];exact Bq ‹_› (by decide)) ?_⟩;refine wl (h2_app n2 ..) ?_;refine wl (rw_add ..) ?_;refine sup_end n2 hr2 hr3 (dle hd rfl) (by rw [List.length_append];exact Nat.succ_le_succ hl) ?_;replace hk:=(List.getLast?_eq_getElem?)▸hk;replace hk:=hy▸hk;exact hk
end
noncomputable def BQ (rs:List (Str×Int)) (b:Str):Option Int:=(rs.find? fun x=>decide (x.1=b)).map (·.2)
noncomputable def CC (T:Tb) (a b:Str):Option Int:=if a=b then some 0 else BQ (AV T a) b
theorem CX {x:Str×Int} {rs:List (Str×Int)} {b:Str}:BQ (x::rs) b=if x.1=b then some x.2 else BQ rs b:=by unfold BQ;rw [List.find?_cons];split<;>simp_all
noncomputable abbrev oi:Option Int->V
  | some i=>.int i
  | none=>.none
section
variable {d:Nat} {K:KV} {X:KX} {H:Hp} {t tc:Addr} {T:Tb} {n b:Str}
theorem dst_l {N:Lm->Hp->Prop} {R:KV} {E:KS} {rs:List (Str×Int)} {ws:List V} {H0:Hp} {x3 x4:Option V} {o:Option Int} (hf:BQ rs b=o) (hR:∀ i,o=some i->R (.int i) H) (hN:o=none->∀ x3 x4,N [some (.ref t),some (.str n),some (.str b),x3,x4] H) :
    AX d none (.two 3 4) q399_3 (.lst ws) H0 N R E (rs.map rwV) [some (.ref t),some (.str n),some (.str b),x3,x4] H:=by
  induction rs generalizing x3 x4 with
  | nil=>exact Ay trivial (hN hf.symm _ _)
  | cons x rs ih =>
    refine Az trivial fun M hM=>?_;dsimp [q399_3];rw [CX] at hf;by_cases e:x.1=b
    . rw [if_pos e] at hf;exact brE (decide_eq_true e) (brT (hR _ hf.symm))
    . rw [if_neg e] at hf;exact brE (decide_eq_false e) (brF (hM _ _ (ih hf)))
theorem Cz (hd:6<=d) (ht:TabAt H t tc T) (hc:Clo T) (hn:Kn T n) (hk:K (oi (CC T n b)) H):AD d (.ref 399) [.ref t,.str n,.str b] K X H:=by
  refine AE f399 AQ (m:=[some (.ref t),some (.str n),some (.str b),none,none]) (BU ‹_› (by decide)) rfl rfl ?_;dsimp [q399_0];unfold CC at hk;by_cases e:n=b
  . rw [if_pos e] at hk;exact brE (decide_eq_true e) (brT (.keep hk))
  . rw [if_neg e] at hk;refine brE (decide_eq_false e) (brF ?_);dsimp [q399_2];refine rcO1 ht.t Ct (supers_c (r_d ‹_› (by decide)) ht hc hn ?_);exact AG (dle hd rfl) (dst_l rfl (fun i h=>.keep (by rw [h] at hk;exact hk)) fun h x3 x4=>.keep (by rw [h] at hk;exact hk))
theorem known_c (hd:4<=d) (ht:TabAt H t tc T) (hk:K (.bool ((AH T n).isSome || (basicL.map sc).contains n)) H):AD d (.ref 378) [.ref t,.str n] K X H:=by
  refine AE f378 AQ (m:=[some (.ref t),some (.str n)]) (BU ‹_› (by decide)) rfl rfl ?_;dsimp [q378_0];refine ht.cls ?_;dsimp;refine ht.has ?_;cases e:(AH T n).isSome with
  | true=>rw [e,Bool.true_or] at hk;exact brT (.keep hk)
  | false=>rw [e,Bool.false_or] at hk;refine brF ?_;exact rcO1 ht.t mth_409_13 (basic_c (r_d ‹_› (by decide)) (.keep hk))
theorem get_c (hd:1<=d) (ht:TabAt H t tc T) (hk:K (match AH T n with | some c=>tcV n c | none=>.none) H):AD d (.ref 364) [.ref t,.str n] K X H:=by
  refine AE f364 AQ (m:=[some (.ref t),some (.str n)]) (BU ‹_› (by decide)) rfl rfl ?_;dsimp [q364_0];refine ht.cls ?_;refine wl (rcvD ht.c ..) ?_;refine ⟨rfl,getK ht.c ?_⟩;refine wl (Dw ..) ?_;cases e:AH T n with
  | some c=>rw [e] at hk;exact .keep hk
  | none=>rw [e] at hk;exact .keep hk
end
def SeenS (es:List (Str×V)) (acc:List (Str×Str)):Prop:=es.length<=acc.length/\∀ x,(at? es x).isSome=decide (x∈acc.map (·.1))
theorem SeenS.add {es:List (Str×V)} {rs:List (Str×Str)} (h:SeenS es rs) {p:Str} {k:Str} {v:V}:SeenS (put es p v) (rs++[(p,k)]):=by
  refine ⟨?_,fun x=>?_⟩
  . rw [List.length_append];exact Nat.le_trans (put_len es p v) (Nat.succ_le_succ h.1)
  . refine wl (Bl ..) ?_;by_cases e:x=p
    . subst e;simp
    . refine wl (if_neg e ..) ?_;refine wl (h.2 x ..) ?_;refine decide_eq_decide.mpr ?_;simp only [List.map_append,List.map_cons,List.map_nil,List.mem_append,List.mem_singleton,e,or_false]
section
variable {d:Nat} {K:KV} {X:KX} {H:Hp} {t tc:Addr} {T:Tb} {n b:Str}
noncomputable abbrev sltM (t:Addr) (n:Str) (r2 r3:Addr) (x4 x5 x6 x7 x8:Option V):Lm:=[some (.ref t),some (.str n),some (.ref r2),some (.ref r3),x4,x5,x6,x7,x8]
section
variable {N:Lm->Hp->Prop} {R:KV} {E:KS} {r2 r3:Addr} {acc o:List (Str×Str)} {rs:List (Str×Int)} {ws:List V} {H0:Hp} {es:List (Str×V)} {x4 x5 x6 x7 x8:Option V}
theorem slots_l (n2:r2≠r3) (h:∀ es x7 x8,SeenS es o->N (sltM t n r2 r3 x4 x5 x6 x7 x8) (h2 H r2 r3 (o.map prV) es)) {ps:List (Str×Str)} (hs:SeenS es acc) (hl:acc.length+ps.length<=30) (hf:ps.foldl Ce acc=o) :
    AX d none (.two 7 8) q406_9 (.lst ws) H0 N R E (ps.map prV) (sltM t n r2 r3 x4 x5 x6 x7 x8) (h2 H r2 r3 (acc.map prV) es):=by
  induction ps generalizing acc es x7 x8 with
  | nil=>cases hf;exact Ay trivial (h _ _ _ hs)
  | cons p ps ih =>
    refine Az trivial fun M hM=>?_;rw [List.length_cons] at hl;rw [List.foldl_cons] at hf;dsimp [q406_9];refine inD DS ?_;rw [hs.2];by_cases ep:p.1∈acc.map (·.1)
    . rw [Ce,if_pos ep] at hf;exact brE (congrArg not (decide_eq_true ep)) (brF (hM _ _ (ih hs (r_p hl) hf)))
    . rw [Ce,if_neg ep] at hf;refine brE (congrArg not (decide_eq_false ep)) (brT ?_);dsimp [q406_10];refine setDe DS (Nat.lt_of_le_of_lt hs.1 (r_pt hl (by decide))) Do ?_;dsimp [q406_11];refine apL2 (by decide) (Bj n2) (by rw [List.length_map];exact r_pt hl (by decide)) rfl ?_;rw [h2_app n2,show acc.map prV++[V.tup [.str p.1,.str p.2]]=(acc++[p]).map prV from by rw [List.map_append];rfl];exact hM _ _ (ih hs.add (by rw [List.length_append];exact r_p1 hl) hf)
theorem slots_in (hd:0<d) (n2:r2≠r3) {ps:List (Str×Str)} (hs:SeenS es acc) (hl:acc.length+ps.length<=30)
    (h:∀ es x7 x8,SeenS es (ps.foldl Ce acc)->N (sltM t n r2 r3 x4 x5 (some (Ab ps)) x7 x8) (h2 H r2 r3 ((ps.foldl Ce acc).map prV) es)) :
    vcS d none q406_8 N R E (sltM t n r2 r3 x4 x5 (some (Ab ps)) x7 x8) (h2 H r2 r3 (acc.map prV) es):=by
  dsimp [q406_8];exact AG hd (slots_l n2 h hs hl rfl)
theorem addS_len {ps:List (Str×Str)}:(ps.foldl Ce acc).length<=acc.length+ps.length:=by
  induction ps generalizing acc with
  | nil=>exact Nat.le_refl _
  | cons p ps ih =>
    refine Nat.le_trans ih ?_;unfold Ce;split
    . exact Nat.le_succ _
    . rw [List.length_append];exact Nat.le_of_eq (Nat.succ_add_eq_add_succ ..)
theorem slots_o (hd:5<=d) (ht:∀ xs es,TabAt (h2 H r2 r3 xs es) t tc T) (hc:Clo T) (n2:r2≠r3) {a:Addr} (s:∀ xs es,AL (.ref a) H0 (h2 H r2 r3 xs es)) (hk:∀ es x4 x5 x6 x7 x8,N (sltM t n r2 r3 x4 x5 x6 x7 x8) (h2 H r2 r3 (o.map prV) es)) (hi:∀ x∈rs,InT T x.1\/x.1=sc 26) (hs:SeenS es acc) (hl:acc.length+3 * rs.length<=30) (hf:slF T acc rs=o) :
    AX d none (.two 4 5) q406_3 (.ref a) H0 N R E (rs.map rwV) (sltM t n r2 r3 x4 x5 x6 x7 x8) (h2 H r2 r3 (acc.map prV) es):=by
  induction rs generalizing acc es x4 x5 x6 x7 x8 with
  | nil=>cases hf;exact Ay (s _ _) (hk _ _ _ _ _ _)
  | cons x rs ih =>
    refine Az (s _ _) fun M hM=>?_;replace hl:=List.length_cons▸hl;have tq:=ht (acc.map prV) es;have fin:∀ (ps:List (Str×Str)) y7 y8,ps.length<=3->slR T x.1=ps->vcS d none q406_8 M R E (sltM t n r2 r3 (some (.str x.1)) (some (.int x.2)) (some (Ab ps)) y7 y8) (h2 H r2 r3 (acc.map prV) es):=fun ps y7 y8 hp he =>
      slots_in (d0 hd rfl) n2 hs (r_sq hl hp (by decide)) fun es' z7 z8 hs'=>hM _ _ (ih (fun y hy=>hi y (.tail _ hy)) hs' (r_st hl (addS_len (ps:=ps) (acc:=acc)) hp) (by rw [<- hf];unfold slF;rw [List.foldl_cons,he]))
    dsimp [q406_3];refine tq.cls ?_;dsimp;refine tq.has ?_;cases e:AH T x.1 with
    | some c=>refine brT ?_;dsimp [q406_4];refine tq.cls ?_;dsimp;refine tq.get e ?_;dsimp;exact ⟨rfl,fin _ _ _ (hc.sl _ c e).1 (by unfold slR;rw [e])⟩
    | none =>
      refine brF ?_;have e26:x.1=sc 26:=(hi x (.head _)).resolve_left fun ⟨c,h⟩=>by rw [e] at h;cases h
      have fin:=fin [] x7 x8 (Nat.zero_le _) (by unfold slR;rw [e]);replace fin:=e26▸fin;have last:∀ {x6},vcS d none q406_7 (fun m H'=>vcS d none q406_8 M R E m H') R E (sltM t n r2 r3 (some (.str (sc 26))) (some (.int x.2)) x6 x7 x8) (h2 H r2 r3 (acc.map prV) es):=by dsimp [q406_7];exact ⟨Nat.zero_le _,fun r6 h6=>AF h6 fin⟩
      refine wl (e26 ..) ?_;dsimp [q406_5];refine br (fun Y=>DW (Nat.le_trans (by decide) hd) ?_) fun Y=>brF last;dsimp;refine brE (b':=false) ?_ (brF (brF last));exact (by decide +kernel:([sc 21,sc 15,sc 16,sc 17,sc 22,sc 23,sc 24,sc 14].contains (sc 26))=false)
end
theorem h2_up {H:Hp} {r2 r3 r:Addr} {xs:List V} {es:List (Str×V)} {v:V} (a:r≠r2) (b:r≠r3):upd (h2 H r2 r3 xs es) r v=h2 (upd H r v) r2 r3 xs es:=by unfold h2;rw [upd_comm (Ne.symm b),upd_comm (Ne.symm a)]
theorem Cp (hd:6<=d) (ht:TabAt H t tc T) (hc:Clo T) (hn:InT T n) (hk:K (Ab (AO T n)) H):AD d (.ref 406) [.ref t,.str n] K X H:=by
  refine AE f406 AQ (m:=[some (.ref t),some (.str n),none,none,none,none,none,none,none]) (BU ‹_› (by decide)) rfl rfl ?_;dsimp [q406_0];refine ⟨Nat.zero_le _,fun r2 hr2=>AB ?_⟩;dsimp [q406_1];refine ⟨Nat.zero_le _,rfl,fun r3 h3=>AB ?_⟩;obtain ⟨n3,hr3⟩:=AI h3;have n2:=Ne.symm n3;dsimp [q406_2];refine ⟨by decide,by decide,fun r9 h9=>?_⟩;obtain ⟨m3,h9'⟩:=AI h9;obtain ⟨m2,hr9⟩:=AI h9';have ht9:TabAt (upd (upd (upd H r2 (.lst [])) r3 (.dct [])) r9 (.lst [.tup [.str n,.int 0]])) t tc T:=ht.sub (((Sub.refl.upd hr2).upd hr3).upd hr9);refine rcO1 ht9.t Ct (supers_c (r_d ‹_› (by decide)) ht9 hc (.inl hn) (addR (AA ..) ?_ fun r10 h10=>?_))
  . rw [List.length_map];exact Nat.le_trans (Nat.add_le_add_left (Cn hc (T:=T) (n:=n) (.inl hn)) 1) (by decide)
  refine wl (Co (AA ..) ..) ?_;obtain ⟨k9,h10'⟩:=AI h10;obtain ⟨k3,h10''⟩:=AI h10';obtain ⟨k2,hr10⟩:=AI h10'';refine wl (show [V.tup [.str n,.int 0]]++(AV T n).map rwV=((n,(0:Int))::AV T n).map rwV from rfl ..) ?_;generalize hB:upd (upd H r9 (.lst [.tup [.str n,.int 0]])) r10 (.lst (((n,(0:Int))::AV T n).map rwV))=B;have hB':upd (upd (upd (upd H r2 (.lst [])) r3 (.dct [])) r9 (.lst [.tup [.str n,.int 0]])) r10 (.lst (((n,(0:Int))::AV T n).map rwV))=h2 B r2 r3 (([]:List (Str×Str)).map prV) []:=by rw [<- hB,<- h2_up k2 k3,<- h2_up m2 m3];rfl
  refine wl (hB' ..) ?_;have sB:Sub H B:=hB▸(Sub.refl.upd hr9).upd hr10;have b2:B r2=none:=by rw [<- hB,AC (Ne.symm k2),AC (Ne.symm m2),hr2]
  have b3:B r3=none:=by rw [<- hB,AC (Ne.symm k3),AC (Ne.symm m3),hr3]
  have sb:∀ xs es,Sub H (h2 B r2 r3 xs es):=fun xs es=>sB.trans (Cy b2 b3);have s10:∀ xs es,h2 B r2 r3 xs es r10=B r10:=fun xs es=>by unfold h2;rw [AC k3,AC k2]
  refine AG (dle hd rfl) (slots_o (acc:=[]) (dle hd rfl) (fun xs es=>ht.sub (sb xs es)) hc n2 (fun xs es=>(s10 _ _).trans (s10 _ _).symm) (fun es x4 x5 x6 x7 x8=>?_) ?_ ⟨Nat.le_refl _,fun x=>rfl⟩ ?_ (slots_up hc hn))
  . dsimp [q406_12];exact BX (Bj n2) (sb _ _) hr2 hk
  . intro x hx;obtain ⟨k,e⟩:=Di (T:=T) (hn.any hc);replace hx:=e▸hx;rcases List.mem_append.mp hx with hx | hx
    . exact .inl (up_in hc hn x hx)
    . right;simp at hx;rw [hx]
  . exact r_mul (Nat.succ_le_succ (Cn hc (T:=T) (n:=n) (.inl hn))) rfl
end
noncomputable def DB (acc:Str):List Str->Str
  | []=>acc
  | s::l=>DB (acc++s) l
noncomputable def mGone (p n:Str):Str:=DB Str.empty [sc 42,p,sc 43,n,sc 44]
noncomputable def mOwn (n:Str):Str:=DB Str.empty [sc 45,n,sc 46]
noncomputable def mRep (s n:Str):Str:=DB Str.empty [sc 48,s,sc 49,n,sc 44]
noncomputable def mClash (s n p:Str):Str:=DB Str.empty [sc 50,s,sc 49,n,sc 51,p,sc 44]
noncomputable def abM (T:Tb) (n:Str):List Str->Option Str
  | []=>none
  | p::r=>if (AH T p).isNone then some (mGone p n) else if p=n\/n∈(upM T p).map (·.1) then some (mOwn n) else abM T n r
theorem Dd {T:Tb} {n p:Str} {r:List Str}:abM T n (p::r)=if (AH T p).isNone then some (mGone p n) else if p=n\/n∈(upM T p).map (·.1) then some (mOwn n) else abM T n r:=rfl
noncomputable def Cc (n:Str):List (Str×Str)->List (Str×Str)->Option Str
  | _,[]=>none
  | seen,x::r=>if x.1∈seen.map (·.1) then some (mRep x.1 n) else Cc n (seen++[x]) r
theorem Dk {n:Str} {seen r:List (Str×Str)} {x:Str×Str}:Cc n seen (x::r)=if x.1∈seen.map (·.1) then some (mRep x.1 n) else Cc n (seen++[x]) r:=rfl
noncomputable def CA (l:List (Str×Str)) (s:Str):Option Str:=(l.find? fun x=>decide (x.1=s)).map (·.2)
noncomputable def clP (n:Str) (slots:List (Str×Str)) (p:Str):List (Str×Str)->Option Str
  | []=>none
  | x::r=>match CA slots x.1 with
    | some k=>if k≠x.2/\x.2≠sc 26 then some (mClash x.1 n p) else clP n slots p r
    | none=>clP n slots p r
noncomputable def clM (T:Tb) (n:Str) (slots:List (Str×Str)):List Str->Option Str
  | []=>none
  | p::r=>match clP n slots p (AO T p) with
    | some m=>some m
    | none=>clM T n slots r
noncomputable def Ds (T:Tb) (n:Str) (slots:List (Str×Str)) (above:List Str):Option Str :=
  match abM T n above with
  | some m=>some m
  | none=>match Cc n [] slots with
    | some m=>some m
    | none=>clM T n slots above
noncomputable def Ae (T:Tb) (n:Str) (c:TC):Tb:=if T.any fun x=>decide (x.1=n) then T.map fun x=>if x.1=n then (x.1,c) else x else T++[(n,c)]
theorem tab_put (T:Tb) (n:Str) (c:TC):Cm (Ae T n c)=put (Cm T) n (tcV n c):=by
  unfold Ae Mine.put Cm;refine wl (List.any_map ..) ?_;simp only [Function.comp_def];split
  . refine wl (List.map_map ..) ?_;refine wl (List.map_map ..) ?_;refine List.map_congr_left fun x Y=>?_;simp only [Function.comp_def];split
    . rename_i e;rw [e]
    . rfl
  . rw [List.map_append];rfl
theorem BW (T:Tb) (n:Str) (c:TC) (m:Str):AH (Ae T n c) m=if m=n then some c else AH T m:=by
  have h1:=Dw (Ae T n c) m;rw [tab_put,Bl,Dw] at h1;have inj:∀ {a b:TC},tcV m a=tcV m b->a=b:=by
    intro a b h;obtain ⟨s1,a1,v1,p1⟩:=a;obtain ⟨s2,a2,v2,p2⟩:=b;have ms:∀ {l l':List Str},l.map V.str=l'.map V.str->l=l':=fun h=>by
      rw [List.map_inj_right] at h
      . exact h
      . intro a b h;cases h;rfl
    have mp:∀ {l l':List (Str×Str)},l.map prV=l'.map prV->l=l':=fun h=>by
      rw [List.map_inj_right] at h
      . exact h
      . rintro ⟨a,b⟩ ⟨c,d⟩ h;cases h;rfl
    injection h with _ h;injection h with _ h;injection h with q1 h;injection h with q2 h;injection h with _ h;injection h with q3 h;injection h with q4 h;injection q1 with _ q1;injection q1 with q1;injection q2 with _ q2;injection q2 with q2;injection q3 with _ q3;injection q3 with q3;injection q4 with _ q4;injection q4 with q4;dsimp only at q1 q2 q3 q4;refine wl (ms q2 ..) ?_;refine wl (mp q1 ..) ?_;refine wl (q3 ..) ?_;exact wl (q4 ..) rfl
  split at h1
  . rename_i e;subst e;cases q:AH (Ae T m c) m with
    | none=>rw [q] at h1;cases h1
    | some c'=>rw [q] at h1;injection h1 with h1;rw [if_pos rfl,inj h1]
  . rename_i e;refine wl (if_neg e ..) ?_;cases q:AH (Ae T n c) m<;>cases q':AH T m<;>rw [q,q'] at h1<;>first | rfl | cases h1 | (injection h1 with h1;rw [inj h1])
theorem up_b {T:Tb} (hc:Clo T) {i:Nat} (h:i=17\/i=22):AV T (sc i)=[(sc 28,1),(sc 26,2)]:=by
  have hb:isB (sc i):=by rcases h with rfl | rfl<;>simp [isB]
  have p1:Aj T (sc i)=[sc 28]:=by unfold Aj;rw [CL hc hb];rcases h with rfl | rfl<;>simp [Db]
  have p2:Aj T (sc 28)=[]:=by unfold Aj;rw [CL hc (.inr (.inr (.inr (.inr rfl))))];simp [Db]
  have n1:sc i≠sc 26:=by rcases h with rfl | rfl<;>simp
  have n2:sc 28≠sc i:=by rcases h with rfl | rfl<;>simp
  unfold AV supF;simp [bfs,p1,p2,BN,n1,n2]
theorem up_any {T:Tb} (hc:Clo T):AV T (sc 26)=[]:=by
  have p2:Aj T (sc 26)=[]:=by unfold Aj;rw [any_no hc];simp [Db]
  unfold AV supF;simp [bfs,p2]
theorem dist_k {T:Tb} (hc:Clo T) {a b:Str} (ha:isK a) (hb:isK b):(CC T a b).isNone=decide (a≠b/\b≠sc 26):=by
  unfold CC;by_cases e:a=b
  . rw [if_pos e];simp [e]
  . refine wl (if_neg e ..) ?_;rcases ha with rfl | rfl | rfl
    . rw [up_b hc (.inl rfl)];rcases hb with rfl | rfl | rfl<;>simp [BQ] at e ⊢
    . rw [up_b hc (.inr rfl)];rcases hb with rfl | rfl | rfl<;>simp [BQ] at e ⊢
    . rw [up_any hc];rcases hb with rfl | rfl | rfl<;>simp [BQ] at e ⊢
theorem lookP_mem {l:List (Str×Str)} {s k:Str} (h:CA l s=some k):∃ x∈l,x.2=k:=by
  unfold CA at h;cases q:l.find? fun x=>decide (x.1=s) with
  | none=>rw [q] at h;cases h
  | some x=>rw [q] at h;cases h;exact ⟨x,List.mem_of_find?_eq_some q,rfl⟩
theorem slF_p {T:Tb} {Q:Str×Str->Prop} (hq:∀ n c,AH T n=some c->∀ x∈c.slots,Q x):∀ {rows:List (Str×Int)} {acc:List (Str×Str)},(∀ x∈acc,Q x)->∀ x∈slF T acc rows,Q x:=by
  intro l
  induction l with
  | nil=>intro _ h;exact h
  | cons r rows IH =>
    intro acc h;have hs:∀ x∈slR T r.1,Q x:=by
      unfold slR;cases q:AH T r.1 with
      | none=>intro x hx;cases hx
      | some c=>exact hq _ c q
    have:∀ (ps acc:List (Str×Str)),(∀ x∈ps,Q x)->(∀ x∈acc,Q x)->∀ x∈ps.foldl Ce acc,Q x:=by
      intro ps
      induction ps with
      | nil=>intro acc _ h;exact h
      | cons p ps ih =>
        intro acc hp h;refine wl (List.foldl_cons ..) ?_;refine ih _ (fun x hx=>hp x (.tail _ hx)) fun x hx=>?_;unfold Ce at hx;split at hx
        . exact h x hx
        . rcases List.mem_append.mp hx with hx | hx
          . exact h x hx
          . rw [List.mem_singleton] at hx;subst hx;exact hp _ (.head _)
    exact IH (this _ _ hs h)
theorem slF_k {T:Tb} (hc:Clo T) {rows:List (Str×Int)} {acc:List (Str×Str)}:(∀ x∈acc,isK x.2)->∀ x∈slF T acc rows,isK x.2:=slF_p (fun n c h=>(hc.sl n c h).2)
theorem slots_k {T:Tb} (hc:Clo T) {n:Str}:∀ x∈AO T n,isK x.2:=slF_k hc fun x hx=>by cases hx
theorem step_up {T:Tb} (hc:Clo T) {p n:Str} (hp:InT T p) (hne:p≠n) (hn:n≠sc 26):(CC T p n).isSome=decide (n∈(upM T p).map (·.1)):=by
  obtain ⟨k,e⟩:=Di (T:=T) (hp.any hc);have h1:BQ ((p,0)::AV T p) n=BQ (AV T p) n:=by rw [CX,if_neg hne]
  unfold CC;rw [if_neg hne,<- h1,e];have:∀ rs:List (Str×Int),(BQ (rs++[(sc 26,k)]) n).isSome=decide (n∈rs.map (·.1)):=by
    intro rs
    induction rs with
    | nil=>rw [List.nil_append,CX,if_neg (Ne.symm hn)];rfl
    | cons x rs ih =>
      refine wl (List.cons_append ..) ?_;refine wl (CX ..) ?_;by_cases e:x.1=n
      . rw [if_pos e];symm;exact decide_eq_true (by rw [List.map_cons,e];exact .head _)
      . refine wl (if_neg e ..) ?_;refine wl (ih ..) ?_;refine decide_eq_decide.mpr ?_;refine wl (List.map_cons ..) ?_;rw [List.mem_cons];exact ⟨.inr,fun h=>h.resolve_left (Ne.symm e)⟩
  exact this _
noncomputable def prD (l:List (Str×Str)):List (Str×V):=l.map fun x=>(x.1,.str x.2)
theorem Bg (l:List (Str×Str)) (s:Str):at? (prD l) s=(CA l s).map .str:=by unfold CA at? prD;rw [List.find?_map,Option.map_map,Option.map_map];rfl
theorem lookP_none {l:List (Str×Str)} {s:Str}:(CA l s).isSome=decide (s∈l.map (·.1)):=by
  unfold CA
  induction l with
  | nil=>rfl
  | cons x l ih =>
    refine wl (List.find?_cons ..) ?_;by_cases e:x.1=s
    . simp [e]
    . have:¬ s=x.1:=Ne.symm e;simp only [e,decide_false];refine wl (ih ..) ?_;refine decide_eq_decide.mpr ?_;refine wl (List.map_cons ..) ?_;rw [List.mem_cons];exact ⟨.inr,fun h=>h.resolve_left this⟩
theorem prD_put {l:List (Str×Str)} {x:Str×Str} (h:x.1∉l.map (·.1)):put (prD l) x.1 (.str x.2)=prD (l++[x]):=by
  have:((prD l).any fun kv=>decide (kv.1=x.1))=false:=by rw [List.any_eq_false];intro y hy;unfold prD at hy;obtain ⟨z,hz,rfl⟩:=List.mem_map.mp hy;simp only [decide_eq_true_eq];exact fun e=>h (e▸List.mem_map_of_mem hz)
  unfold Mine.put;refine wl (this ..) ?_;unfold prD;rw [List.map_append];rfl
def Sh (s:Str):Prop:=s.length<=300
theorem Sh.sc {i:Nat} (h:Nat.blt i 97=true):Sh (sc i):=by have:=scl (i:=i) (Nat.le_of_ble_eq_true h);unfold Sh;exact AN ‹_› (by decide)
section
variable {d:Nat} {K:KV} {X:KX} {H:Hp} {t tc:Addr} {T:Tb} {n b:Str} {c:TC}
theorem Sh.big {s:Str} (h:Sh s):s.length<=1000000:=Nat.le_trans h (by decide)
theorem Sh.k {s:Str} (h:Sh s):s.length<=1000:=Nat.le_trans h (by decide)
inductive FP (d:Nat) (X:KX) (m:Lm) (H:Hp):Mine.X->List Str->Prop
  | nil:FP d X m H .nil []
  | cons {e ps:Mine.X} {s:Str} {l:List Str} (h:∀ K:KV,K (.str s) H->vcE d e K X m H) (hs:s.length<=1000) (t:FP d X m H ps l):FP d X m H (.cons e ps) (s::l)
theorem F_all {m:Lm} {ps:Mine.X} {l:List Str} (h:FP d X m H ps l):∀ {acc:Str},acc.length+1000 * l.length<=1000000->K (.str (DB acc l)) H->vcF d ps acc K X m H:=by
  induction h with
  | nil=>intro acc _ k;exact k
  | cons h hs t ih=>intro acc ha k;replace ha:=List.length_cons▸ha;exact wl (F_cons ..) (h _ ⟨r_sq ha hs (by decide),ih (by rw [Str.length_append];exact r_st ha (Nat.le_refl _) hs) k⟩)
theorem Ca {m:Lm} {ps:Mine.X} {l:List Str} {E:KS} {cur:Option Str} {N:Lm->Hp->Prop} {R:KV} (hd:1<d) (h:FP d (fun x H=>E x m H) m H ps l) (hl:l.length<=20) (k:E (DB Str.empty l) m H):vcS d cur (.seq (.rse (.fstr ps)) .skip) N R E m H:=by refine wl (De ..) ?_;exact wl (S_rse ..) (⟨hd,F_all h (r_mul ‹_› (by decide)) k⟩)
theorem FP.lit {m:Lm} {ps:Mine.X} {i:Nat} {l:List Str} (hi:Nat.blt i 97=true) (t:FP d X m H ps l):FP d X m H (.cons (.cst (.str (sc i))) ps) (sc i::l):=.cons (fun Y k=>k) (Sh.sc hi).k t
theorem FP.val {m:Lm} {e ps:Mine.X} {s:Str} {l:List Str} (hs:Sh s) (h:∀ K:KV,K (.str s) H->vcE d e K X m H) (t:FP d X m H ps l):FP d X m H (.cons (.fval e) ps) (s::l):=.cons (fun K k=>by rw [E_fval];exact h _ ⟨hs.big,k⟩) hs.k t
theorem FP.quo {m:Lm} {e ps:Mine.X} {s:Str} {l:List Str} (hd:1<=d) (hs:Sh s) (h:∀ K:KV,K (.str s) H->vcE d e K X m H) (t:FP d X m H ps l):FP d X m H (.cons (.fval (.call (.glb (.ref 896)) (.cons e .nil))) ps) ((sc 52++s++sc 44)::l):=by
  have h1:=scl (i:=52) (by decide);have h2:=scl (i:=44) (by decide);have hl:(sc 52++s++sc 44).length<=1000:=by unfold Sh at hs;rw [Str.length_append,Str.length_append];exact r_3 ‹_› ‹_› ‹_› (by decide)
  refine .cons (fun K k=>?_) hl t;refine wl (E_fval ..) ?_;refine wl (Dy ..) ?_;refine wl (E_glb ..) ?_;exact wl (Bf ..) (h _ (quoted_c hd hs.k ⟨Nat.le_trans hl (by decide),k⟩))
theorem isK_kn {T:Tb} (hc:Clo T) {k:Str} (h:isK k):Kn T k:=by
  have:isB k:=by rcases h with rfl | rfl | rfl<;>simp [isB]
  exact .inr ⟨CL hc this,this⟩
noncomputable abbrev ckM (t:Addr) (n:Str) (c:TC) (r2:Addr) (x3 x4 x5:Option V):Lm:=[some (.ref t),some (tcV n c),some (.ref r2),x3,x4,x5]
section
variable {N:Lm->Hp->Prop} {R:KV} {E:KS} {r2:Addr} {L seen ps:List (Str×Str)} {ab:List Str} {p:Str} {o:Option Str} {ws:List V} {H0:Hp} {es:List (Str×V)} {x3 x4 x5:Option V}
theorem ck_1 (hd:3<=d) (hL:L.length<=30) (hn:Sh n) (hs:∀ x∈L,isK x.2/\Sh x.1) (hE:∀ s m v,o=some s->E s m (upd H r2 v)) (hN:o=none->∀ x3 x4,N (ckM t n c r2 x3 x4 x5) (upd H r2 (.dct (prD L)))) (hf:Cc n seen ps=o) (ha:seen++ps=L) :
    AX d none (.two 3 4) q420_2 (.lst ws) H0 N R E (ps.map prV) (ckM t n c r2 x3 x4 x5) (upd H r2 (.dct (prD seen))):=by
  induction ps generalizing seen x3 x4 with
  | nil=>rw [List.append_nil] at ha;cases ha;exact Ay trivial (hN hf.symm _ _)
  | cons x ps ih =>
    refine Az trivial fun M hM=>?_;have hx:Sh x.1:=(hs x (ha▸List.mem_append_right _ (.head _))).2;have hl:seen.length+(ps.length+1)<=30:=by rw [<- ha,List.length_append] at hL;exact hL
    dsimp [q420_2];refine inD (AA ..) ?_;refine wl (Bg ..) ?_;refine wl (Option.isSome_map ..) ?_;refine wl (lookP_none ..) ?_;replace hf:=Dk▸hf;by_cases e:x.1∈seen.map (·.1)
    . replace hf:=if_pos e▸hf;exact brE (decide_eq_true e) (brT (Ca (Nat.lt_of_lt_of_le (by decide) hd) (.lit rfl (.val hx (fun Y k=>k) (.lit rfl (.val hn (fun Y k=>⟨rfl,k⟩) (.lit rfl .nil))))) (Nat.le_of_ble_eq_true rfl) (hE _ _ _ hf.symm)))
    . replace hf:=if_neg e▸hf;refine brE (decide_eq_false e) (brF ?_);dsimp [q420_4];refine setD (AA ..) (by unfold prD;rw [List.length_map];exact r_pt ‹_› (by decide)) ?_;refine wl (AS ..) ?_;exact wl (prD_put e ..) (hM _ _ (ih hf (by rw [List.append_assoc];exact ha)))
theorem ck_3 (hd:6<=d) (ht:TabAt H t tc T) (hc:Clo T) (h2:H r2=some (.dct (prD L))) (hL:∀ x∈L,isK x.2) (hn:Sh n) (hp:Sh p) (hE:∀ s m,o=some s->E s m H) (hN:o=none->∀ x3 x4,N (ckM t n c r2 x3 x4 (some (.str p))) H) (hi:∀ x∈ps,isK x.2/\Sh x.1) (hf:clP n L p ps=o) :
    AX d none (.two 3 4) q420_7 (.lst ws) H0 N R E (ps.map prV) (ckM t n c r2 x3 x4 (some (.str p))) H:=by
  induction ps generalizing x3 x4 with
  | nil=>exact Ay trivial (hN hf.symm _ _)
  | cons x ps ih =>
    refine Az trivial fun M hM=>?_;have nx:=fun h=>hM _ _ (ih (x3:=some (.str x.1)) (x4:=some (.str x.2)) (fun y hy=>hi y (.tail _ hy)) h);have hx:=hi x (.head _);dsimp [q420_7];refine inD h2 ?_;refine wl (Bg ..) ?_;refine wl (Option.isSome_map ..) ?_;rw [clP] at hf;cases e:CA L x.1 with
    | none=>rw [e] at hf;exact brF (brF (nx hf))
    | some k =>
      replace hf:=e▸hf;dsimp only at hf;have hk':isK k:=by obtain ⟨y,hy,rfl⟩:=lookP_mem e;exact hL y hy
      refine brT ?_;refine wl (rcvO ht.t Cu ..) ?_;refine ⟨rfl,subD h2 (by rw [Bg,e];rfl) ?_⟩;dsimp;refine Cz hd ht hc (isK_kn hc hk') ?_;have hd':=dist_k hc hk' hx.1;by_cases ec:k≠x.2/\x.2≠sc 26
      . replace hf:=if_pos ec▸hf;replace hd':=decide_eq_true ec▸hd';exact wl (Option.isNone_iff_eq_none.mp hd' ..) (brT (Ca (Nat.lt_of_lt_of_le (by decide) hd) (.lit rfl (.val hx.2 (fun Y k=>k) (.lit rfl (.val hn (fun Y k=>⟨rfl,k⟩) (.lit rfl (.val hp (fun Y k=>k) (.lit rfl .nil))))))) (Nat.le_of_ble_eq_true rfl) (hE _ _ hf.symm)))
      . replace hf:=if_neg ec▸hf;replace hd':=decide_eq_false ec▸hd';cases q:CC T k x.2 with
        | none=>rw [q] at hd';cases hd'
        | some i=>exact brF (nx hf)
theorem ck_2 (hd:7<=d) (ht:TabAt H t tc T) (hc:Clo T) (h2:H r2=some (.dct (prD L))) (hL:∀ x∈L,isK x.2) (hn:Sh n) (hT:∀ p,∀ x∈AO T p,Sh x.1) (hE:∀ s m,o=some s->E s m H) (hN:o=none->∀ x3 x4 x5,N (ckM t n c r2 x3 x4 x5) H) (hi:∀ p∈ab,InT T p/\Sh p) (hf:clM T n L ab=o) :
    AX d none (.one 5) q420_6 (.lst ws) H0 N R E (ab.map .str) (ckM t n c r2 x3 x4 x5) H:=by
  induction ab generalizing x3 x4 x5 with
  | nil=>exact Ay trivial (hN hf.symm _ _ _)
  | cons p ps ih =>
    refine Az trivial fun M hM=>?_;dsimp [q420_6];have hp:=hi p (.head _);refine rcO1 ht.t Cr (Cp (Nat.le_trans (by decide) hd) ht hc hp.1 ?_);rw [clM] at hf;refine AG (d0 hd rfl) (ck_3 (Nat.le_trans (by decide) hd) ht hc h2 hL hn hp.2 (fun s m h=>?_) (fun h x3 x4=>?_) (fun x hx=>⟨slots_k hc x hx,hT p x hx⟩) rfl)
    . rw [h] at hf;exact hE _ _ hf.symm
    . rw [h] at hf;exact hM _ _ (ih (fun y hy=>hi y (.tail _ hy)) hf)
end
theorem check_slots_c (hd:8<=d) (ht:TabAt H t tc T) (hc:Clo T) (hs:c.slots.length<=3) (hsk:∀ x∈c.slots,isK x.2/\Sh x.1) (hn:Sh n) (ha:∀ p∈c.above,InT T p/\Sh p) (hT:∀ p,∀ x∈AO T p,Sh x.1)
    (hk:Cc n [] c.slots=none->clM T n c.slots c.above=none->K .none H) (hx1:∀ m,Cc n [] c.slots=some m->X m H) (hx2:∀ m,Cc n [] c.slots=none->clM T n c.slots c.above=some m->X m H):AD d (.ref 420) [.ref t,tcV n c] K X H:=by
  refine AE f420 AQ (m:=[some (.ref t),some (tcV n c),none,none,none,none]) (d0 hd rfl) rfl rfl ?_;dsimp [q420_0];refine ⟨Nat.zero_le _,rfl,fun r2 hr2=>AB ?_⟩;have sb:∀ v,Sub H (upd H r2 v):=fun v=>Sub.refl.upd hr2;dsimp [q420_1];refine ⟨rfl,AG (dle hd rfl) (ck_1 (seen:=[]) (dle hd rfl) (Nat.le_trans hs (by decide)) hn hsk (fun s m v h=>.to (sb _) (hx1 _ h)) (fun h1 x3 x4=>?_) rfl rfl)⟩;dsimp [q420_5];exact ⟨rfl,AG (dle hd rfl) (ck_2 (dle hd rfl) (ht.sub (sb _)) hc (AA ..) (fun x h=>(hsk x h).1) hn hT (fun s m h=>.to (sb _) (hx2 _ h1 h)) (fun h2 x3 x4 x5=>.to (sb _) (hk h1 h2)) ha rfl)⟩
end
section
variable {d:Nat} {K:KV} {X:KX} {H:Hp} {t tc:Addr} {T:Tb} {n b:Str} {c:TC}
def isN (s:Str):Prop:=s=sc 86\/s=sc 87\/s=sc 88\/s=sc 93
theorem isN.sh {s:Str} (h:isN s):Sh s:=by rcases h with rfl | rfl | rfl | rfl<;>exact Sh.sc rfl
theorem isN.nb {s:Str} (h:isN s):(basicL.map sc).contains s=false:=by rcases h with rfl | rfl | rfl | rfl<;>decide +kernel
theorem isN.any {s:Str} (h:isN s):s≠sc 26:=by rcases h with rfl | rfl | rfl | rfl<;>exact fun e=>absurd ((sc_inj (by decide) (by decide)).mp e) (by decide)
theorem abM_in {T:Tb} {n:Str}:∀ {ps:List Str},abM T n ps=none->∀ p∈ps,InT T p:=by
  intro l
  induction l with
  | nil=>intro _ p hp;cases hp
  | cons q ps IH =>
    intro h p hp;rw [Dd] at h;split at h
    . cases h
    . rename_i h1;split at h
      . cases h
      . rcases List.mem_cons.mp hp with rfl | hp
        . cases e:AH T p with
          | none=>rw [e] at h1;exact absurd rfl h1
          | some c=>exact ⟨c,e⟩
        . exact IH h p hp
theorem df_1 {N:Lm->Hp->Prop} {R:KV} {E:KS} {ab:List Str} {o:Option Str} {ws:List V} {H0:Hp} {x:Option V} (hd:8<=d) (ht:TabAt H t tc T) (hc:Clo T) (hn:isN n) (hE:∀ s m,o=some s->E s m H) (hN:o=none->∀ x,N [some (.ref t),some (tcV n c),x] H) (hi:∀ p∈ab,isN p) (hf:abM T n ab=o) :
    AX d none (.one 2) q350_1 (.lst ws) H0 N R E (ab.map .str) [some (.ref t),some (tcV n c),x] H:=by
  induction ab generalizing x with
  | nil=>exact Ay trivial (hN hf.symm _)
  | cons p ps ih =>
    refine Az trivial fun M hM=>?_;have hp:=hi p (.head _);dsimp [q350_1];refine rcO1 ht.t mth_409_11 (known_c (Nat.le_trans (by decide) hd) ht ?_);rw [hp.nb,Bool.or_false];rw [Dd] at hf;cases e:AH T p with
    | none=>rw [e,if_pos (by rfl)] at hf;exact brT (Ca (Nat.lt_of_lt_of_le (by decide) hd) (.lit rfl (.val hp.sh (fun Y k=>k) (.lit rfl (.val hn.sh (fun Y k=>⟨rfl,k⟩) (.lit rfl .nil))))) (Nat.le_of_ble_eq_true rfl) (hE _ _ hf.symm))
    | some c' =>
      rw [e,if_neg (by simp)] at hf;refine brF ?_;have ip:InT T p:=⟨c',e⟩
      have bad:p=n\/n∈(upM T p).map (·.1)->vcS d none q350_4 M R E [some (.ref t),some (tcV n c),some (.str p)] H:=fun h=>by rw [if_pos h] at hf;exact Ca (Nat.lt_of_lt_of_le (by decide) hd) (.lit rfl (.val hn.sh (fun Y k=>⟨rfl,k⟩) (.lit rfl .nil))) (Nat.le_of_ble_eq_true rfl) (hE _ _ hf.symm)
      have good:=fun h:¬ (p=n\/n∈(upM T p).map (·.1))=>hM _ _ (ih (x:=some (.str p)) (fun q hq=>hi q (.tail _ hq)) ((if_neg h).symm.trans hf));dsimp [q350_3];refine ⟨rfl,br (fun q=>brT (bad (.inl (of_decide_eq_true q)))) fun q=>?_⟩;have q:=of_decide_eq_false q;refine rcO2 ht.t Cu (rfl) (Cz (Nat.le_trans (by decide) hd) ht hc (.inl ip) ?_);have hs:=step_up hc ip q hn.any;cases e2:CC T p n with
      | none=>rw [e2] at hs;exact brF (good fun h=>h.elim q (of_decide_eq_false hs.symm))
      | some i=>rw [e2] at hs;exact brT (bad (.inr (of_decide_eq_true hs.symm)))
theorem define_c (hd:9<=d) (ht:TabAt H t tc T) (hc:Clo T) (hl:T.length<=10) (hs:c.slots.length<=3) (hsk:∀ x∈c.slots,isK x.2/\Sh x.1) (hn:isN n) (ha:∀ p∈c.above,isN p) (hT:∀ p,∀ x∈AO T p,Sh x.1)
    (hk:Ds T n c.slots c.above=none->K .none (upd H tc (.dct (Cm (Ae T n c))))) (hx:∀ m,Ds T n c.slots c.above=some m->X m H):AD d (.ref 350) [.ref t,tcV n c] K X H:=by
  refine AE f350 AQ (m:=[some (.ref t),some (tcV n c),none]) (d0 hd rfl) rfl rfl ?_;dsimp [q350_0];unfold Ds at hk hx;refine ⟨rfl,AG (dle hd rfl) (df_1 (dle hd rfl) ht hc hn (fun s m h=>.keep (hx s (by rw [h]))) (fun hf x=>?_) ha rfl)⟩;have hin:=abM_in hf;rw [hf] at hk hx;dsimp only at hk hx;dsimp [q350_5];refine AB (check_slots_c (dle hd rfl) ht hc hs hsk hn.sh (fun p hp=>⟨hin p hp,(ha p hp).sh⟩) hT (fun h1 h2=>?_) (fun m h1=>drp.keep (hx m (by rw [h1]))) (fun m h1 h2=>drp.keep (hx m (by rw [h1];exact h2))));rw [h1] at hk;dsimp [q350_6];refine ht.cls ?_;dsimp;refine ⟨rfl,setD ht.c (by rw [tab_len];exact Bq ‹_› (by decide)) ?_⟩;rw [<- tab_put];exact .keep (hk h2)
end
section
variable {d:Nat} {K:KV} {X:KX} {H:Hp} {t tc:Addr} {T:Tb} {n b:Str} {c:TC}
theorem s4c_make:∀ p,BG p 304 301=true:=fun p=>by kernel_rfl
theorem s4class_c (hd:2<=d) (h:∀ r,H r=none->K (.ref r) (upd H r (tcV n c))):AD d (.ref 304) [.str n,Ab c.slots,ssV c.above,.none,.bool c.virt,.dct c.proto] K X H:=by refine Bi (by decide) s4c_make (BU ‹_› (by decide)) fun r hr=>BY f301 AQ (m:=[some (.ref r),some (.str n),some (Ab c.slots),some (ssV c.above),some .none,some (.bool c.virt),some (.dct c.proto)]) (r_dl ‹_› (by decide)) rfl rfl ?_;dsimp [q301_0];refine AM rfl rfl ?_;dsimp [q301_1];refine AM rfl rfl ?_;dsimp [q301_2];refine AM rfl rfl ?_;dsimp [q301_3];refine AM rfl rfl ?_;dsimp [q301_4];refine AM rfl rfl ?_;dsimp [q301_5];refine AM rfl rfl ?_;exact .keep ⟨rfl,h r hr⟩
theorem srtR {a:Addr} {m:Lm} {cur:Option Str} {N:Lm->Hp->Prop} {R:KV} {E:KS} {i:Nat} {xs:List V} {ks:List Int} (hd:2<d) (hm:m[i]?=some (some (.ref a))) (e:H a=some (.lst xs)) (h:xs.length<64) (hk:BD xs=some ks) (hs:Bu ks=true) (k:N m H):vcS d cur (.srt (.loc i)) N R E m H:=by show 2<d/\vcE d (.loc i) _ _ m H;refine ⟨hd,?_⟩;refine wl (Df ..) ?_;refine wl (hm ..) ?_;show oX (H a) _;refine wl (e ..) ?_;show xs.length<64/\oX (BD xs) _;exact wl (hk ..) (⟨h,hs,k⟩)
noncomputable abbrev csX (t:Addr) (v:V) (r2 r3:Addr) (own:V) (i:Nat) (x6 x7:Option V):Lm:=[some (.ref t),some v,some (.ref r2),some (.ref r3),some own,some (.int i),x6,x7]
theorem cs_in {r2 r3:Addr} {v own:V} {i:Nat} {x6 x7:Option V} {N:Lm->Hp->Prop} {R:KV} {E:KS} {ws:List V} {H0:Hp} {o ps rs:List (Str×Int)} {es:List (Str×V)} (n2:r2≠r3)
    (h:∀ es x6 x7,SeenOk es o->N (csX t v r2 r3 own i x6 x7) (h2 H r2 r3 (o.map rwV) es)) (hs:SeenOk es rs) (hl:rs.length+ps.length<=60) (hf:ps.foldl (fun rs p=>BN (i+p.2) rs p.1) rs=o) :
    AX d none (.two 6 7) q434_9 (.lst ws) H0 N R E (ps.map rwV) (csX t v r2 r3 own i x6 x7) (h2 H r2 r3 (rs.map rwV) es):=by
  induction ps generalizing rs es x6 x7 with
  | nil=>cases hf;exact Ay trivial (h _ _ _ hs)
  | cons p ps ih =>
    refine Az trivial fun M hM=>?_;rw [List.length_cons] at hl;rw [List.foldl_cons] at hf;dsimp [q434_9];refine inD DS ?_;rw [hs.2];by_cases ep:p.1=sc 26\/p.1∈rs.map (·.1)
    . rw [BN,if_pos ep] at hf;exact brE (congrArg not (decide_eq_true ep)) (brF (hM _ _ (ih hs (r_p hl) hf)))
    . rw [BN,if_neg ep] at hf;refine brE (congrArg not (decide_eq_false ep)) (brT ?_);dsimp [q434_10];refine setDe DS (Nat.lt_of_le_of_lt hs.1 (Nat.lt_of_le_of_lt (Nat.add_le_add_right (r_pl hl (by decide:Nat.ble 60 60=true)) 2) (by decide))) Do ?_;dsimp [q434_11];refine apL2 (by decide) (Bj n2) (by rw [List.length_map];exact r_pt hl (by decide)) (h2_appr n2) ?_;exact hM _ _ (ih hs.add (by rw [List.length_append];exact r_p1 hl) hf)
theorem cs_one {r2 r3:Addr} {v:V} {own:List Str} {i:Nat} {x6 x7:Option V} {N:Lm->Hp->Prop} {R:KV} {E:KS} {x:Str} (n2:r2≠r3) (rs:List (Str×Int)) (es:List (Str×V)) (hs:SeenOk es rs) (hl:rs.length<=60) (hi:i<=10) (hx:own[i]?=some x) (hn:¬ (x=sc 26\/x∈rs.map (·.1)))
    (h:∀ es,SeenOk es (rs++[(x,(i:Int))])->N [some (.ref t),some v,some (.ref r2),some (.ref r3),some (ssV own),some (.int i),x6,x7] (h2 H r2 r3 ((rs++[(x,(i:Int))]).map rwV) es)) :
    vcS d none q434_4 N R E [some (.ref t),some v,some (.ref r2),some (.ref r3),some (ssV own),some (.int i),x6,x7] (h2 H r2 r3 (rs.map rwV) es):=by
  have ho:(own.map V.str)[i]?=some (.str x):=by rw [List.getElem?_map,hx];rfl
  dsimp [q434_4];refine ⟨(r_is5 ‹_› (by decide)),?_⟩;refine wl (ho ..) ?_;refine inD DS ?_;refine wl (hs.2 ..) ?_;refine brE (congrArg not (decide_eq_false hn)) (brT ?_);dsimp [q434_5];refine ⟨(r_is5 ‹_› (by decide)),?_⟩;refine wl (ho ..) ?_;refine setDe DS (Nat.lt_of_le_of_lt hs.1 (Nat.lt_of_le_of_lt (Nat.add_le_add_right ‹rs.length<=60› 2) (by decide))) Do ?_;dsimp [q434_6];refine wl (CF (Bj n2) ..) ?_;refine ⟨rfl,(r_is5 ‹_› (by decide)),?_⟩;refine wl (ho ..) ?_;refine ⟨Nat.le_of_ble_eq_true rfl,CH (Bj n2) (by rw [List.length_map];exact Bq ‹_› (by decide)) ?_⟩;rw [h2_app n2,show rs.map rwV++[V.tup [.str x,.int i]]=(rs++[(x,(i:Int))]).map rwV from by rw [List.map_append];rfl];exact h _ hs.add
noncomputable def csM (i:Nat):List (Str×Int):=if i=15 then [(sc 15,0),(sc 17,1),(sc 28,2),(sc 26,3)] else [(sc 22,0),(sc 28,1),(sc 26,2)]
theorem up_15 {T:Tb} (hc:Clo T):AV T (sc 15)=[(sc 17,1),(sc 28,2),(sc 26,3)]:=by
  have p0:Aj T (sc 15)=[sc 17]:=by unfold Aj;rw [CL hc (.inl rfl)];simp [Db]
  have p1:Aj T (sc 17)=[sc 28]:=by unfold Aj;rw [CL hc (.inr (.inl rfl))];simp [Db]
  have p2:Aj T (sc 28)=[]:=by unfold Aj;rw [CL hc (.inr (.inr (.inr (.inr rfl))))];simp [Db]
  unfold AV supF;simp [bfs,p0,p1,p2,BN]
theorem cs_end {r2 r3:Addr} {v:V} {own:List Str} {rs:List (Str×Int)} {es:List (Str×V)} {k:Int} {ks:List Int} {y:Str} {x5 x6 x7:Option V} (hd:3<=d) (hr2:H r2=none) (hr3:H r3=none) (n2:r2≠r3) (hl:rs.length<=60) (hks:BD ((rs++[(y,k)]).map rwV)=some ks) (hso:Bu ks=true)
    (hk:K (rwsV ((rs++[(y,k)])++[(sc 26,k+1)])) H):vcS d none q434_12 (fun Y H=>drp (K .none) H) (fun v H=>drp (K v) H) (fun x Y H=>drp (X x) H) [some (.ref t),some v,some (.ref r2),some (.ref r3),some (ssV own),x5,x6,x7] (h2 H r2 r3 ((rs++[(y,k)]).map rwV) es):=by
  have hlen:((rs++[(y,k)]).map rwV).length=rs.length+1:=by rw [List.length_map,List.length_append];rfl
  unfold q434_12;refine wl (De ..) ?_;refine srtR hd rfl (Bj n2) (Bq (Nat.le_trans (Nat.le_of_eq hlen) (Nat.succ_le_succ hl)) (by decide)) hks hso ?_;dsimp [q434_13,-List.map_append];refine wl (CF (Bj n2) ..) ?_;refine ⟨rfl,lenR (Bj n2) (r_el hlen (Nat.succ_le_succ hl) (by decide)) ?_⟩;dsimp [-List.map_append];refine wl (hlen ..) ?_;refine wl (r_i1 rs.length) ?_;refine subR (Bj n2) (Bq hl (by decide)) (v:=rwV (y,k)) (by rw [List.getElem?_map,List.getElem?_append_right (Nat.le_refl _),Nat.sub_self];rfl) ?_;dsimp [-List.map_append];refine ⟨by decide,by decide,CH (Bj n2) (Bq (Nat.le_trans (Nat.le_of_eq hlen) (Nat.succ_le_succ hl)) (by decide)) ?_⟩;rw [h2_app n2,show (rs++[(y,k)]).map rwV++[V.tup [.str (sc 26),.int (k+1)]]=((rs++[(y,k)])++[(sc 26,k+1)]).map rwV from by rw [List.map_append (l₁:=rs++[(y,k)])];rfl];dsimp [q434_14,-List.map_append];exact BX (Bj n2) (Cy hr2 hr3) hr2 hk
theorem cs_place {r2 r3:Addr} {v:V} {own:List Str} {i:Nat} {x6 x7:Option V} {N:Lm->Hp->Prop} {R:KV} {E:KS} {x:Str} {rs:List (Str×Int)} {es:List (Str×V)} (hd:5<=d) (tq:∀ xs es,TabAt (h2 H r2 r3 xs es) t tc T) (hc:Clo T) (hkn:Kn T x) (n2:r2≠r3) (hs:SeenOk es rs) (hl:rs.length<=20) (hi:i<=10) (hx:own[i]?=some x) {up:List (Str×Int)} (hu:AV T x=up) {o:List (Str×Int)} (ho:up.foldl (fun rs p=>BN (i+p.2) rs p.1) rs=o)
    (h:∀ es x6 x7,SeenOk es o->N [some (.ref t),some v,some (.ref r2),some (.ref r3),some (ssV own),some (.int i),x6,x7] (h2 H r2 r3 (o.map rwV) es)) :
    vcS d none q434_8 N R E [some (.ref t),some v,some (.ref r2),some (.ref r3),some (ssV own),some (.int i),x6,x7] (h2 H r2 r3 (rs.map rwV) es):=by
  have ho':(own.map V.str)[i]?=some (.str x):=by rw [List.getElem?_map,hx];rfl
  subst hu ho;dsimp [q434_8];refine wl (rcvO (tq _ _).t Ct ..) ?_;refine ⟨rfl,(r_is5 ‹_› (by decide)),?_⟩;refine wl (ho' ..) ?_;refine supers_c hd (tq _ _) hc hkn ?_;have:=Cn hc hkn;exact AG (d0 hd rfl) (cs_in n2 h hs (r_2 ‹_› ‹_› (by decide)) rfl)
theorem class_supers_c {i:Nat} {its:List V} (hd:6<=d) (ht:TabAt H t tc T) (hc:Clo T) (h:i=15\/i=22) (hk:K (rwsV (csM i)) H):AD d (.ref 434) [.ref t,vec (sc i) its .none] K X H:=by
  refine AE f434 AQ (m:=[some (.ref t),some _,none,none,none,none,none,none]) (BU ‹_› (by decide)) rfl rfl ?_;dsimp [q434_0];refine ⟨Nat.zero_le _,fun r2 hr2=>AB ?_⟩;dsimp [q434_1,-DK];refine ⟨by decide,rfl,fun r3 h3=>AB ?_⟩;obtain ⟨n3,hr3⟩:=AI h3;have n2:=Ne.symm n3;have tq:∀ xs es,TabAt (h2 H r2 r3 xs es) t tc T:=fun xs es=>ht.sub (Cy hr2 hr3);have s0:SeenOk (put [] (sc 26) (.bool true)) ([]:List (Str×Int)):=⟨Nat.le_of_ble_eq_true rfl,fun x=>by
    refine wl (Bl ..) ?_;by_cases e:x=sc 26
    . simp [e]
    . simp [e]⟩
  dsimp [q434_2,-DK];refine value_classes_c (r_d ‹_› (by decide)) h fun r4 h4=>AF h4 ?_;dsimp [q434_3,-DK];rcases h with rfl | rfl
  . refine ⟨by decide,by decide,AG (r_dl ‹_› (by decide)) ⟨trivial,cs_one (own:=[sc 15,sc 17]) n2 [] _ s0 (by decide) (by decide) rfl (by simp) fun es1 s1=>⟨trivial,cs_one (own:=[sc 15,sc 17]) n2 _ es1 s1 (by decide) (by decide) rfl (by simp) fun es2 s2=>⟨trivial,?_⟩⟩⟩⟩;dsimp [q434_7,-List.map_append];refine ⟨by decide,by decide,AG (r_dl ‹_› (by decide)) ⟨trivial,?_⟩⟩;refine cs_place (own:=[sc 15,sc 17]) (i:=0) (r_d ‹_› (by decide)) tq hc (.inr ⟨CL hc (.inl rfl),.inl rfl⟩) n2 s2 (by decide) (by decide) rfl (up_15 hc) (o:=[(sc 15,0),(sc 17,1)]++[(sc 28,2)]) (by simp [BN]) fun es3 Y Y s3=>⟨trivial,?_⟩
    refine cs_place (own:=[sc 15,sc 17]) (i:=1) (r_d ‹_› (by decide)) tq hc (.inr ⟨CL hc (.inr (.inl rfl)),.inr (.inl rfl)⟩) n2 s3 (by decide) (by decide) rfl (up_b hc (.inl rfl)) (o:=[(sc 15,0),(sc 17,1)]++[(sc 28,2)]) (by simp [BN]) fun es4 Y Y s4=>⟨trivial,?_⟩
    exact cs_end (r_d ‹_› (by decide)) hr2 hr3 n2 (by decide) rfl rfl hk
  . refine ⟨by decide,by decide,AG (r_dl ‹_› (by decide)) ⟨trivial,cs_one (own:=[sc 22]) n2 [] _ s0 (by decide) (by decide) rfl (by simp) fun es1 s1=>⟨trivial,?_⟩⟩⟩;dsimp [q434_7,-List.map_append];refine ⟨by decide,by decide,AG (r_dl ‹_› (by decide)) ⟨trivial,?_⟩⟩;refine cs_place (own:=[sc 22]) (i:=0) (r_d ‹_› (by decide)) tq hc (.inr ⟨CL hc (.inr (.inr (.inl rfl))),.inr (.inr (.inl rfl))⟩) n2 s1 (by decide) (by decide) rfl (up_b hc (.inr rfl)) (o:=[(sc 22,0)]++[(sc 28,1)]) (by simp [BN]) fun es3 Y Y s3=>⟨trivial,?_⟩
    exact cs_end (r_d ‹_› (by decide)) hr2 hr3 n2 (by decide) rfl rfl hk
theorem io_l {i:Nat} {its:List V} {N:Lm->Hp->Prop} {R:KV} {E:KS} {rs:List (Str×Int)} {ws:List V} {H0:Hp} {x3 x4:Option V} {o:Bool} (hf:(rs.any fun x=>decide (x.1=b))=o) (hR:o=true->R (.bool true) H) (hN:o=false->∀ x3 x4,N [some (.ref t),some (vec (sc i) its .none),some (.str b),x3,x4] H) :
    AX d none (.two 3 4) q441_1 (.lst ws) H0 N R E (rs.map rwV) [some (.ref t),some (vec (sc i) its .none),some (.str b),x3,x4] H:=by
  induction rs generalizing x3 x4 with
  | nil=>exact Ay trivial (hN hf.symm _ _)
  | cons x rs ih =>
    refine Az trivial fun M hM=>?_;rw [List.any_cons] at hf;dsimp [q441_1];cases e:decide (x.1=b) with
    | true=>rw [e] at hf;exact brT (hR hf.symm)
    | false=>rw [e] at hf;exact brF (hM _ _ (ih hf))
theorem is_of_c {i:Nat} {its:List V} (hd:7<=d) (ht:TabAt H t tc T) (hc:Clo T) (h:i=15\/i=22) (hk:K (.bool ((csM i).any fun x=>decide (x.1=b))) H):AD d (.ref 441) [.ref t,vec (sc i) its .none,.str b] K X H:=by refine AE f441 AQ (m:=[some (.ref t),some _,some (.str b),none,none]) (d0 hd rfl) rfl rfl ?_;dsimp [q441_0];refine AB ?_;dsimp;refine class_supers_c (dle hd rfl) ht hc h (AG (dle hd rfl) (io_l rfl (fun h=>.keep ?_) fun h x3 x4=>.keep ?_))<;>(rw [h] at hk;exact hk)
end
noncomputable def mHas (n s:Str):Str:=DB Str.empty [sc 60,sc 52++n++sc 44,sc 61,sc 52++s++sc 44]
noncomputable def mKind (n s:Str):Str:=DB Str.empty [sc 62,sc 52++n++sc 44,sc 63,s]
noncomputable def pvV (i:Nat):V:=vec (sc i) [if i=15 then .int 4 else .str (sc 95)] .none
noncomputable def ptV (P:List (Str×Nat)):List (Str×V):=P.map fun x=>(x.1,pvV x.2)
noncomputable def prM (kinds:List (Str×Str)) (n:Str):List (Str×Nat)->Option Str
  | []=>none
  | x::r=>match CA kinds x.1 with
    | none=>some (mHas n x.1)
    | some k=>if (csM x.2).any fun y=>decide (y.1=k) then prM kinds n r else some (mKind n x.1)
theorem addS_nd {acc:List (Str×Str)} {x:Str×Str} (h:(acc.map (·.1)).Nodup):((Ce acc x).map (·.1)).Nodup:=by
  unfold Ce;split
  . exact h
  . rename_i e;refine wl (List.map_append ..) ?_;rw [List.nodup_append];exact ⟨h,by simp,fun a ha b hb q=>by simp at hb;subst hb;exact e (q▸ha)⟩
theorem Dp {α β:Type} {f:β->α->β} {P:β->Prop} (h:∀ b a,P b->P (f b a)):∀ (l:List α) (b:β),P b->P (l.foldl f b)
  | [],_,hb=>hb
  | a::l,b,hb=>Dp h l (f b a) (h b a hb)
theorem slots_nd {T:Tb} {n:Str}:((AO T n).map (·.1)).Nodup :=
  Dp (P:=fun acc:List (Str×Str)=>(acc.map (·.1)).Nodup) (fun b a h=>Dp (P:=fun acc:List (Str×Str)=>(acc.map (·.1)).Nodup) (fun b a h=>addS_nd h) _ _ h) _ _ (by simp)
set_option tactic.hygienic true in
theorem Bp {T:Tb} (hc:Clo T) {n:Str} (hn:InT T n):(AO T n).length<=24:=by
  have h2:∀ (rs:List (Str×Int)) (acc:List (Str×Str)),(slF T acc rs).length<=acc.length+3 * rs.length:=by
    intro rs
    induction rs with
    | nil=>intro acc;exact Nat.le_refl _
    | cons r rs ih =>
      intro acc;refine Nat.le_trans (ih ((slR T r.1).foldl Ce acc)) ?_;have:=addS_len (ps:=slR T r.1) (acc:=acc);have:(slR T r.1).length<=3:=by
        unfold slR;split
        . rename_i c e;exact (hc.sl _ c e).1
        . exact Nat.zero_le _
      exact r_st (Nat.le_refl _) ‹_› ‹_›
  exact Nat.le_trans (h2 (upM T n) []) (r_mul ((up_ok hc (n:=n) (.inl hn)).len hc) rfl)
section
variable {d:Nat} {K:KV} {X:KX} {H:Hp} {t tc:Addr} {T:Tb} {n b:Str} {c:TC}
theorem pt_at {P:List (Str×Nat)} (hnd:(P.map (·.1)).Nodup):∀ x∈P,at? (ptV P) x.1=some (pvV x.2):=by
  unfold at? ptV
  induction P with
  | nil=>intro x hx;cases hx
  | cons y P ih =>
    intro x hx;replace hnd:=List.map_cons▸hnd;rw [List.nodup_cons] at hnd;refine wl (List.map_cons ..) ?_;refine wl (List.find?_cons ..) ?_;rcases List.mem_cons.mp hx with rfl | hx
    . simp
    . have:¬ y.1=x.1:=fun e=>hnd.1 (e▸List.mem_map_of_mem hx);simp only [this,decide_false];exact ih hnd.2 x hx
noncomputable abbrev pkM (t:Addr) (v:V) (r2:Addr) (x3 x4 x5:Option V):Lm:=[some (.ref t),some v,some (.ref r2),x3,x4,x5]
section
variable {N:Lm->Hp->Prop} {R:KV} {E:KS} {r2:Addr} {seen ps L:List (Str×Str)} {ws:List V} {es:List (Str×V)} {H0:Hp} {x3 x4 x5:Option V} {v:V} {P:List (Str×Nat)} {o:Option Str}
theorem pk_1 (hl:L.length<=30) (hn:(L.map (·.1)).Nodup) (h:∀ x3 x4,N (pkM t v r2 x3 x4 x5) (upd H r2 (.dct (prD L)))) (hs:seen++ps=L) :
    AX d none (.two 3 4) q1075_2 (.lst ws) H0 N R E (ps.map prV) (pkM t v r2 x3 x4 x5) (upd H r2 (.dct (prD seen))):=by
  induction ps generalizing seen x3 x4 with
  | nil=>rw [List.append_nil] at hs;cases hs;exact Ay trivial (h _ _)
  | cons x ps ih =>
    refine Az trivial fun M hM=>?_;have hl':seen.length+(ps.length+1)<=30:=by rw [<- hs,List.length_append] at hl;exact hl
    dsimp [q1075_2];refine setD (AA ..) (by unfold prD;rw [List.length_map];exact r_pt hl' (by decide)) ?_;rw [AS,prD_put fun e=>?_]
    . exact hM _ _ (ih (by rw [List.append_assoc];exact hs))
    . rw [<- hs,List.map_append,List.nodup_append] at hn;exact hn.2.2 _ e _ (List.mem_map_of_mem (.head _)) rfl
theorem pk_2 (hd:8<=d) (ht:TabAt H t tc T) (hc:Clo T) (h2:H r2=some (.dct (prD L))) (hn:Sh n) (hE:∀ s m,o=some s->E s m H) (hN:o=none->∀ x3 x4 x5,N (pkM t (tcV n c) r2 x3 x4 x5) H) (hi:∀ x∈P,(x.2=15\/x.2=22)/\Sh x.1/\at? c.proto x.1=some (pvV x.2)) (hf:prM L n P=o) :
    AX d none (.one 5) q1075_4 (.dct es) H0 N R E (P.map fun x=>.str x.1) (pkM t (tcV n c) r2 x3 x4 x5) H:=by
  induction P generalizing x3 x4 x5 with
  | nil=>exact Ay trivial (hN hf.symm _ _ _)
  | cons x Q ih =>
    refine Az trivial fun M hM=>?_;obtain ⟨h1,hx,h3⟩:=hi x (.head _);rw [prM] at hf;dsimp [q1075_4];refine inD h2 ?_;refine wl (Bg ..) ?_;refine wl (Option.isSome_map ..) ?_;cases e:CA L x.1 with
    | none=>replace hf:=e▸hf;exact brT (Ca (Nat.lt_of_lt_of_le (by decide) hd) (.lit rfl (.quo (Nat.le_trans (by decide) hd) hn (fun Y k=>⟨rfl,k⟩) (.lit rfl (.quo (Nat.le_trans (by decide) hd) hx (fun Y k=>k) .nil)))) (Nat.le_of_ble_eq_true rfl) (hE _ _ hf.symm))
    | some k =>
      replace hf:=e▸hf;dsimp only at hf;refine brF ?_;dsimp [q1075_6];refine AB ?_;dsimp;refine ⟨rfl,?_⟩;refine wl (h3 ..) ?_;unfold pvV;dsimp;refine subD h2 (by rw [Bg,e];rfl) ?_;dsimp;refine is_of_c (Nat.le_trans (by decide) hd) ht hc h1 ?_;cases e2:(csM x.2).any fun y=>decide (y.1=k) with
      | true=>rw [e2,if_pos rfl] at hf;exact brF (hM _ _ (ih (fun y hy=>hi y (.tail _ hy)) hf))
      | false=>replace hf:=e2▸hf;replace hf:=if_neg Bool.false_ne_true▸hf;exact brT (Ca (Nat.lt_of_lt_of_le (by decide) hd) (.lit rfl (.quo (Nat.le_trans (by decide) hd) hn (fun Y k=>⟨rfl,k⟩) (.lit rfl (.val hx (fun Y k=>k) .nil)))) (Nat.le_of_ble_eq_true rfl) (hE _ _ hf.symm))
end
theorem Da {P:List (Str×Nat)} (hd:9<=d) (ht:TabAt H t tc T) (hc:Clo T) (hn:InT T n) (hsn:Sh n) (hp:c.proto=ptV P) (hnd:(P.map (·.1)).Nodup) (hP:∀ x∈P,(x.2=15\/x.2=22)/\Sh x.1)
    (hk:prM (AO T n) n P=none->K .none H) (hx:∀ m,prM (AO T n) n P=some m->X m H):AD d (.ref 1075) [.ref t,tcV n c] K X H:=by
  refine AE f1075 AQ (m:=[some (.ref t),some (tcV n c),none,none,none,none]) (d0 hd rfl) rfl rfl ?_;dsimp [q1075_0];refine ⟨Nat.zero_le _,rfl,fun r2 hr2=>AB ?_⟩;have sb:∀ v,Sub H (upd H r2 v):=fun v=>Sub.refl.upd hr2;have tq:∀ v,TabAt (upd H r2 v) t tc T:=fun v=>ht.sub (sb v);dsimp [q1075_1];refine rcO2 (tq _).t Cr (rfl) (Cp (dle hd rfl) (tq _) hc hn (AG (dle hd rfl) (pk_1 (seen:=[]) (Nat.le_trans (Bp hc hn) (by decide)) slots_nd (fun x3 x4=>?_) rfl)));dsimp [q1075_3];rw [show c.proto.map (fun kv=>V.str kv.1)=P.map fun x=>.str x.1 from by rw [hp];unfold ptV;rw [List.map_map];rfl];exact ⟨rfl,AG (dle hd rfl) (pk_2 (dle hd rfl) (tq _) hc (AA ..) hsn (fun s m h=>.to (sb _) (hx _ h)) (fun h x3 x4 x5=>.to (sb _) (hk h)) (fun x hx=>⟨(hP x hx).1,(hP x hx).2,hp▸pt_at hnd x hx⟩) rfl)⟩
end
noncomputable def dV {α:Type} (f:α->V) (l:List (Str×α)):List (Str×V):=l.map fun x=>(x.1,f x.2)
noncomputable def Ao {α:Type} (l:List (Str×α)) (s:Str):Option α:=(l.find? fun x=>decide (x.1=s)).map (·.2)
theorem dV_at {α:Type} (f:α->V) (l:List (Str×α)) (s:Str):at? (dV f l) s=(Ao l s).map f:=by unfold Ao at? dV;rw [List.find?_map,Option.map_map,Option.map_map];rfl
theorem dV_put {α:Type} {f:α->V} {l:List (Str×α)} {s:Str} {a:α} (h:Ao l s=none):put (dV f l) s (f a)=dV f (l++[(s,a)]):=by
  have:((dV f l).any fun kv=>decide (kv.1=s))=false:=by rw [List.any_eq_false];intro y hy;unfold dV at hy;obtain ⟨z,hz,rfl⟩:=List.mem_map.mp hy;unfold Ao at h;rw [Option.map_eq_none_iff,List.find?_eq_none] at h;exact h z hz
  unfold Mine.put;refine wl (this ..) ?_;unfold dV;rw [List.map_append];rfl
noncomputable def tv:Option Str->V
  | some s=>.str s
  | none=>.none
noncomputable abbrev Us:=List Int
noncomputable abbrev Pl:=List (Str×Nat)
noncomputable abbrev plD (ps:Pl):List (Str×V):=dV (fun i:Nat=>.int (i:Int)) ps
noncomputable abbrev mtV (fs:List Str) (tags:List (Option Str)) (ru rp:Addr):V:=.obj 252 [(6,ssV fs),(2,.lst (tags.map tv)),(7,.ref ru),(8,.ref rp)]
section
variable {a b c e:V}
@[simp] theorem mt_6:at? [(6,a),(2,b),(7,c),(8,e)] 6=some a:=rfl
@[simp] theorem mt_2:at? [(6,a),(2,b),(7,c),(8,e)] 2=some b:=rfl
@[simp] theorem mt_7:at? [(6,a),(2,b),(7,c),(8,e)] 7=some c:=rfl
@[simp] theorem mt_8:at? [(6,a),(2,b),(7,c),(8,e)] 8=some e:=rfl
end
section
variable {d:Nat} {K:KV} {X:KX} {H:Hp} {ru rp:Addr} {fs:List Str} {tags:List (Option Str)} {us:Us} {ps:Pl} {n:Str}
theorem eq_tv {o:Option Str}:Bb (tv o) (.str n) H=some (decide (o=some n)):=by
  cases o with
  | none=>rfl
  | some s=>rw [show tv (some s) = .str s from rfl,eq_ss];simp
noncomputable abbrev hm (H:Hp) (ru rp:Addr) (us:Us) (ps:Pl):Hp:=h2 H ru rp (us.map .int) (plD ps)
theorem us_get {i:Nat} {u:Int} (h:us[i]?=some u):(us.map V.int)[i]?=some (.int u):=by rw [List.getElem?_map,h];rfl
theorem tag_get {i:Nat} {o:Option Str} (h:tags[i]?=some o):(tags.map tv)[i]?=some (tv o):=by rw [List.getElem?_map,h];rfl
theorem h2_setl {r2 r3:Addr} {xs:List V} {es:List (Str×V)} {ys:List V} (h:r2≠r3):upd (h2 H r2 r3 xs es) r2 (.lst ys)=h2 H r2 r3 ys es:=DE h
theorem hm_set {i:Nat} {u:Int} (h:ru≠rp):upd (hm H ru rp us ps) ru (.lst ((us.map V.int).set i (.int u)))=hm H ru rp (us.set i u) ps:=by unfold hm;rw [h2_setl h,List.map_set]
theorem mt_make:∀ p,BG p 252 209=true:=fun p=>by kernel_rfl
theorem matching_c (hd:2<=d) (hl:tags.length<=100) (h:∀ ru rp,H ru=none->H rp=none->ru≠rp->K (mtV fs tags ru rp) (hm H ru rp (List.replicate tags.length 0) [])):AD d (.ref 252) [ssV fs,.lst (tags.map tv)] (fun v H=>cv v H K) X H:=by
  refine Bi (by decide) mt_make (BU ‹_› (by decide)) fun r hr=>BY f209 AQ (m:=[some (.ref r),some (ssV fs),some (.lst (tags.map tv))]) (r_dl ‹_› (by decide)) rfl rfl ?_;dsimp [q209_0];refine AM rfl rfl ?_;dsimp [q209_1];refine AM rfl rfl ?_;dsimp [q209_2];refine ⟨by decide,fun r1 h1=>?_⟩;obtain ⟨n1,h1'⟩:=AI h1;refine ⟨by rw [List.length_map];exact AN ‹_› (by decide),mulR (AA ..) (by rw [List.length_map];exact ⟨Int.natCast_nonneg _,Int.ofNat_le.mpr (AN ‹_› (by decide))⟩) fun r2 hr2=>AB ?_⟩;obtain ⟨n21,h2'⟩:=AI hr2;obtain ⟨n2,h2''⟩:=AI h2';have e1:∀ x y z,upd (upd (upd H r x) r1 y) r2 z r=some x:=fun x y z=>by rw [AC (Ne.symm n2),AC (Ne.symm n1),AA]
  dsimp;refine setO rfl (e1 _ _ _) rfl ?_;dsimp [q209_3];refine ⟨Nat.zero_le _,rfl,fun r3 hr3=>AB ?_⟩;obtain ⟨n3,h3'⟩:=AI hr3;obtain ⟨n32,h3''⟩:=AI h3';obtain ⟨n31,h3a⟩:=AI h3'';obtain ⟨_,h3b⟩:=AI h3a;refine setO rfl ((AC (Ne.symm n3)).trans (AA ..)) rfl ?_;have hz:hm H r2 r3 (List.replicate tags.length 0) [] r=none:=by unfold hm h2;rw [AC (Ne.symm n3),AC (Ne.symm n2),hr]
  refine .to (H':=upd (hm H r2 r3 (List.replicate tags.length 0) []) r (mtV fs tags r2 r3)) (fun a v ha=>?_) ⟨rfl,DX (AA ..) (by rw [del_upd hz];exact h r2 r3 h2'' h3b (Ne.symm n32))⟩;unfold hm h2 upd at ha;unfold upd;by_cases q:a=r
  . rw [if_pos q] at ha ⊢;exact ha
  . rw [if_neg q] at ha ⊢;by_cases q3:a=r3
    . rw [if_pos q3] at ha ⊢;exact ha
    . rw [if_neg q3] at ha ⊢;refine wl (if_neg q ..) ?_;by_cases q2:a=r2
      . rw [if_pos q2] at ha ⊢;refine wr (ha ..) ?_;refine wl (List.map_replicate ..) ?_;exact wl (List.length_map ..) rfl
      . rw [if_neg q2] at ha ⊢;by_cases q1:a=r1
        . rw [q1,(AI h1).2] at ha;cases ha
        . rw [if_neg q1,if_neg q];exact ha
noncomputable def exS (tags:List (Option Str)) (n:Str) (st:Us×Pl) (i:Nat):Option (Us×Pl) :=
  if tags[i]?=some (some n)/\st.1[i]?=some 0 then (if (Ao st.2 n).isSome then none else some (st.1.set i 2,st.2++[(n,i)])) else some st
noncomputable def exN (tags:List (Option Str)) (st:Us×Pl) (n:Str):Option (Us×Pl):=(List.range tags.length).foldlM (exS tags n) st
noncomputable def exA (tags:List (Option Str)) (fs:List Str) (st:Us×Pl):Option (Us×Pl):=fs.foldlM (exN tags) st
theorem exS_len {o o':Us×Pl} {i:Nat} (h:exS tags n o i=some o'):o'.1.length=o.1.length/\o'.2.length<=o.2.length+1:=by
  unfold exS at h;split at h
  . split at h
    . cases h
    . cases h;exact ⟨by simp,by simp⟩
  . cases h;exact ⟨rfl,Nat.le_succ _⟩
theorem exN_len:∀ {l:List Nat} {o o':Us×Pl},l.foldlM (exS tags n) o=some o'->o'.1.length=o.1.length/\o'.2.length<=o.2.length+l.length:=by
  intro l
  induction l with
  | nil=>intro o o' h;cases h;exact ⟨rfl,Nat.le_refl _⟩
  | cons i l IH =>
    intro o o' h;rw [List.foldlM_cons] at h;cases q:exS tags n o i with
    | none=>rw [q] at h;cases h
    | some o1=>rw [q] at h;obtain ⟨a,b⟩:=exS_len q;obtain ⟨a',b'⟩:=IH h;rw [List.length_cons];exact ⟨a'.trans a,r_ch b b'⟩
theorem ex_l {us:Us} {ps:Pl} {o:Us×Pl} {x2:Option V} {N:Lm->Hp->Prop} {R:KV} {E:KS} {v:V} {H0:Hp} {l:List Nat} (hv:∀ H',AL v H0 H') (n2:ru≠rp) (ht:tags.length<=20) (h:∀ x2,N [some (mtV fs tags ru rp),some (.str n),x2] (hm H ru rp o.1 o.2))
    (hu:us.length=tags.length) (hl:ps.length+l.length<=100000) (hi:∀ i∈l,i<tags.length) (hf:l.foldlM (exS tags n) (us,ps)=some o) :
    AX d none (.one 2) q216_3 v H0 N R E (l.map fun i:Nat=>.int (i:Int)) [some (mtV fs tags ru rp),some (.str n),x2] (hm H ru rp us ps):=by
  induction l generalizing us ps x2 with
  | nil=>cases hf;exact Ay (hv _) (h _)
  | cons i l ih =>
    refine Az (hv _) fun M hM=>?_;have hi':=hi i (.head _);have hi2:=fun j hj=>hi j (.tail _ hj);replace hl:=List.length_cons▸hl;obtain ⟨g,hg⟩:∃ g,tags[i]?=some g:=⟨_,List.getElem?_eq_getElem hi'⟩
    obtain ⟨u,hu'⟩:∃ u,us[i]?=some u:=⟨_,List.getElem?_eq_getElem (hu▸hi')⟩
    rw [List.foldlM_cons] at hf;unfold exS at hf;replace hf:=hg▸hf;replace hf:=hu'▸hf;have skip:=fun e:¬ (some g=some (some n)/\some u=some 0)=>hM _ _ (ih (x2:=some (.int (i:Int))) hu (r_p hl) hi2 (by rw [if_neg e] at hf;exact hf));dsimp [q216_3];refine ⟨rfl,(DJ ‹_› ‹_› (by decide)),?_⟩;refine wl (tag_get hg ..) ?_;dsimp;refine wl (eq_tv ..) ?_;refine br (fun e1=>⟨rfl,subR (Bj n2) (r_tl ‹_› ‹_› (by decide)) (us_get hu') ?_⟩) fun e1=>brF (skip fun e=>of_decide_eq_false e1 (Option.some.inj e.1));dsimp;refine br (fun e2=>?_) fun e2=>skip fun e=>of_decide_eq_false e2 (Option.some.inj e.2);rw [if_pos ⟨congrArg some (of_decide_eq_true e1),congrArg some (of_decide_eq_true e2)⟩] at hf;dsimp [q216_4];refine ⟨rfl,inD DS ?_⟩;refine wl (dV_at ..) ?_;refine wl (Option.isSome_map ..) ?_;cases e3:Ao ps n with
    | some _=>rw [e3] at hf;cases hf
    | none=>replace hf:=e3▸hf;refine brF ?_;dsimp [q216_6];refine ⟨rfl,setD DS (by unfold plD dV;rw [List.length_map];exact r_pt hl (by decide)) ?_⟩;refine wl (Do ..) ?_;refine wl (show put (plD ps) n (.int (i:Int))=plD (ps++[(n,i)]) from dV_put e3 ..) ?_;dsimp [q216_7];refine ⟨rfl,setL (Bj n2) (by rw [List.length_map,hu];exact hi') (r_tl ‹_› ‹_› (by decide)) ?_⟩;exact wl (hm_set n2 ..) (hM _ _ (ih (by rw [List.length_set];exact hu) (by rw [List.length_append];exact r_p1 hl) hi2 hf))
theorem ex_in {us:Us} {ps:Pl} {o:Us×Pl} {x2:Option V} {N:Lm->Hp->Prop} {R:KV} {E:KS} (hd:0<d) (n2:ru≠rp) (hu:us.length=tags.length) (ht:tags.length<=20) (hl:ps.length<=1000) (hf:exN tags (us,ps) n=some o)
    (h:∀ x2,N [some (mtV fs tags ru rp),some (.str n),x2] (hm H ru rp o.1 o.2)):vcS d none q216_2 N R E [some (mtV fs tags ru rp),some (.str n),x2] (hm H ru rp us ps):=by
  dsimp [q216_2];refine ⟨rfl,by rw [List.length_map];exact AN ‹_› (by decide),by rw [List.length_map];exact r_il ‹_› (by decide),?_⟩;exact wl (List.length_map ..) (AG hd (ex_l (fun Y=>trivial) n2 ht h hu (by rw [List.length_range];exact r_2 ‹_› ‹_› (by decide)) (fun i hi=>List.mem_range.mp hi) hf))
theorem exact_l {us:Us} {ps:Pl} {o:Us×Pl} {x1 x2:Option V} {N:Lm->Hp->Prop} {R:KV} {E:KS} {ws:List V} {H0:Hp} {ns:List Str} (hd:1<=d) (n2:ru≠rp) (ht:tags.length<=20) (h:∀ x1 x2,N [some (mtV fs tags ru rp),x1,x2] (hm H ru rp o.1 o.2))
    (hu:us.length=tags.length) (hl:ps.length+20 * ns.length<=1000) (hn:∀ n∈ns,n≠sc 18) (hf:ns.foldlM (exN tags) (us,ps)=some o) :
    AX d none (.one 1) q216_1 (.lst ws) H0 N R E (ns.map .str) [some (mtV fs tags ru rp),x1,x2] (hm H ru rp us ps):=by
  induction ns generalizing us ps x1 x2 with
  | nil=>cases hf;exact Ay trivial (h _ _)
  | cons n ns ih =>
    refine Az trivial fun M hM=>?_;rw [List.length_cons] at hl;rw [List.foldlM_cons] at hf;dsimp [q216_1];refine brE (congrArg not (decide_eq_false (hn n (.head _)))) (brT ?_);cases q:exN tags (us,ps) n with
    | none=>rw [q] at hf;cases hf
    | some o=>rw [q] at hf;obtain ⟨a,b⟩:=exN_len (l:=List.range tags.length) q;rw [List.length_range] at b;exact ex_in (d0 hd rfl) n2 hu ht (Nat.le_trans (Nat.le_add_right _ _) hl) q fun x2=>hM _ _ (ih (a.trans hu) (r_st hl b ht) (fun k hk=>hn k (.tail _ hk)) hf)
theorem exact_c {us us':Us} {ps ps':Pl} (hd:2<=d) (n2:ru≠rp) (hu:us.length=tags.length) (ht:tags.length<=20) (hl:ps.length<=100) (hfl:fs.length<=20) (hn:∀ n∈fs,n≠sc 18) (hok:exA tags fs (us,ps)=some (us',ps')) (hk:K .none (hm H ru rp us' ps')):AD d (.ref 216) [mtV fs tags ru rp] K X (hm H ru rp us ps):=by refine AE f216 AQ (m:=[some _,none,none]) (d0 hd rfl) rfl rfl ?_;dsimp [q216_0];exact ⟨rfl,AG (dle hd rfl) (exact_l (dle hd rfl) n2 ht (fun x1 x2=>.keep hk) hu (Nat.le_trans (Nat.add_le_add hl (Nat.mul_le_mul_left 20 hfl)) (by decide)) hn hok)⟩
end
section
variable {d:Nat} {K:KV} {X:KX} {H:Hp} {ru rp:Addr} {fs:List Str} {tags:List (Option Str)} {us:Us} {ps:Pl} {n:Str}
def Full (us:Us) (tags:List (Option Str)):Prop:=∀ i,i<tags.length->us[i]?=some 2\/tags[i]?=some none
theorem cv_tv {o:Option Str} {K:KV}:cv (tv o) H K=K (tv o) H:=by cases o<;>rfl
theorem po_l {N:Lm->Hp->Prop} {R:KV} {E:KS} {v:V} {H0:Hp} {l:List Nat} {x2 x3:Option V} (hv:∀ H',AL v H0 H') (n2:ru≠rp) (hu:us.length=tags.length) (ht:tags.length<=20) (hf:Full us tags) (h:∀ x2 x3,N [some (mtV fs tags ru rp),some (.str n),x2,x3] (hm H ru rp us ps)) (hi:∀ i∈l,i<tags.length) :
    AX d none (.one 2) q230_1 v H0 N R E (l.map fun i:Nat=>.int (i:Int)) [some (mtV fs tags ru rp),some (.str n),x2,x3] (hm H ru rp us ps):=by
  induction l generalizing x2 x3 with
  | nil=>exact Ay (hv _) (h _ _)
  | cons i l ih =>
    refine Az (hv _) fun M hM=>?_;have hi':=hi i (.head _);obtain ⟨g,hg⟩:∃ g,tags[i]?=some g:=⟨_,List.getElem?_eq_getElem hi'⟩
    obtain ⟨u,hu'⟩:∃ u,us[i]?=some u:=⟨_,List.getElem?_eq_getElem (hu▸hi')⟩
    have e:=hM _ _ (ih (x2:=some (.int (i:Int))) (x3:=some (tv g)) fun j hj=>hi j (.tail _ hj));dsimp [q230_1];refine ⟨rfl,(DJ ‹_› ‹_› (by decide)),?_⟩;refine wl (tag_get hg ..) ?_;dsimp;refine wl (cv_tv ..) ?_;dsimp [q230_2];refine ⟨rfl,subR (Bj n2) (r_tl ‹_› ‹_› (by decide)) (us_get hu') ?_⟩;dsimp;have f:=hf i hi';replace f:=hg▸f;replace f:=hu'▸f;cases f with
    | inl f=>cases f;exact brF (brF e)
    | inr f=>cases f;exact br (fun Y=>brF (brF e)) fun Y=>brF e
theorem partial_of_c (hd:2<=d) (n2:ru≠rp) (hu:us.length=tags.length) (ht:tags.length<=20) (hf:Full us tags) (hk:K .none (hm H ru rp us ps)):AD d (.ref 230) [mtV fs tags ru rp,.str n] K X (hm H ru rp us ps):=by refine AE f230 AQ (m:=[some _,some (.str n),none,none]) (d0 hd rfl) rfl rfl ?_;dsimp [q230_0];refine ⟨rfl,by rw [List.length_map];exact AN ‹_› (by decide),by rw [List.length_map];exact r_il ‹_› (by decide),?_⟩;exact wl (List.length_map ..) (AG (dle hd rfl) (po_l (fun Y=>trivial) n2 hu ht hf (fun Y Y=>.keep hk) fun i hi=>List.mem_range.mp hi))
theorem pa_l {N:Lm->Hp->Prop} {R:KV} {E:KS} {ws:List V} {H0:Hp} {l:List Str} {x1:Option V} (hd:2<=d) (n2:ru≠rp) (hu:us.length=tags.length) (ht:tags.length<=20) (hf:Full us tags) (h:∀ x1,N [some (mtV fs tags ru rp),x1] (hm H ru rp us ps)) (hn:∀ n∈l,n≠sc 18) :
    AX d none (.one 1) q223_1 (.lst ws) H0 N R E (l.map .str) [some (mtV fs tags ru rp),x1] (hm H ru rp us ps):=by
  induction l generalizing x1 with
  | nil=>exact Ay trivial (h _)
  | cons i l ih=>refine Az trivial fun M hM=>?_;have e:=hM _ _ (ih (x1:=some (.str i)) fun k hk=>hn k (.tail _ hk));dsimp [q223_1];refine brE (decide_eq_false (hn i (.head _))) (brF ?_);dsimp [q223_3];refine ⟨rfl,inD DS ?_⟩;refine br (fun Y=>?_) fun Y=>e;dsimp [q223_4];exact ⟨rfl,partial_of_c hd n2 hu ht hf e⟩
theorem partial_c (hd:3<=d) (n2:ru≠rp) (hu:us.length=tags.length) (ht:tags.length<=20) (hf:Full us tags) (hn:∀ n∈fs,n≠sc 18) (hk:K .none (hm H ru rp us ps)):AD d (.ref 223) [mtV fs tags ru rp] K X (hm H ru rp us ps):=by refine AE f223 AQ (m:=[some _,none]) (d0 hd rfl) rfl rfl ?_;dsimp [q223_0];exact ⟨rfl,AG (dle hd rfl) (pa_l (dle hd rfl) n2 hu ht hf (fun Y=>.keep hk) hn)⟩
end
noncomputable def frB (tags:List (Option Str)) (us:Us) (i:Nat):Bool:=decide (us[i]?=some 0) && (decide (tags[i]?=some none) || decide (tags[i]?=some (some (sc 1))))
noncomputable def nx (tags:List (Option Str)) (us:Us):Nat->Nat->Nat
  | 0,i=>i
  | k+1,i=>if frB tags us i then i else nx tags us k (i+1)
noncomputable def poS (tags:List (Option Str)) (st:Nat×Us×Pl) (n:Str):Nat×Us×Pl :=
  if (Ao st.2.2 n).isSome then st else
    let p:=nx tags st.2.1 (tags.length - st.1) st.1
    if p<tags.length then (p,st.2.1.set p 2,st.2.2++[(n,p)]) else (p,st.2)
section
variable {d:Nat} {K:KV} {X:KX} {H:Hp} {ru rp:Addr} {fs:List Str} {tags:List (Option Str)} {us:Us} {ps:Pl} {n:Str} {i:Nat}
theorem nx_le:∀ k i,nx tags us k i<=i+k
  | 0,i=>Nat.le_refl _
  | k+1,i=>by
    unfold nx;split
    . exact Nat.le_add_right _ _
    . exact Nat.le_trans (nx_le k (i+1)) (Nat.le_of_eq (Nat.add_right_comm i 1 k))
theorem nx_out:nx tags us (tags.length - i) i=if i<tags.length then (if frB tags us i then i else nx tags us (tags.length - (i+1)) (i+1)) else i:=by
  by_cases h:i<tags.length
  . rw [if_pos h,show tags.length - i=(tags.length - (i+1))+1 from (r_sd ‹_›)];rfl
  . rw [if_neg h,Nat.sub_eq_zero_of_le (Nat.le_of_not_lt h)];rfl
theorem poS_s {i p:Nat} (h:Ao ps n=some p):poS tags (i,us,ps) n=(i,us,ps):=by unfold poS;dsimp only;rw [h];rfl
theorem poS_n {i:Nat} (h:Ao ps n=none):poS tags (i,us,ps) n=(let p:=nx tags us (tags.length - i) i;if p<tags.length then (p,us.set p 2,ps++[(n,p)]) else (p,us,ps)):=by unfold poS;dsimp only;rw [h];rfl
theorem is_free_c (hd:1<=d) (n2:ru≠rp) (hu:us.length=tags.length) (ht:tags.length<=20) (hi:i<tags.length) (hk:K (.bool (frB tags us i)) (hm H ru rp us ps)):AD d (.ref 244) [mtV fs tags ru rp,.int (i:Int)] K X (hm H ru rp us ps):=by
  refine AE f244 AQ (m:=[some _,some _]) (d0 hd rfl) rfl rfl ?_;obtain ⟨g,hg⟩:∃ g,tags[i]?=some g:=⟨_,List.getElem?_eq_getElem hi⟩
  obtain ⟨u,hu'⟩:∃ u,us[i]?=some u:=⟨_,List.getElem?_eq_getElem (hu▸hi)⟩
  unfold frB at hk;replace hk:=hg▸hk;replace hk:=hu'▸hk;dsimp [q244_0];refine ⟨rfl,subR (Bj n2) (r_tl ‹_› ‹_› (by decide)) (us_get hu') ?_⟩;dsimp;by_cases e:u=0
  . replace hk:=(decide_eq_true (congrArg some e))▸hk;rw [Bool.true_and] at hk;refine brE (decide_eq_true e) (brT ⟨rfl,(DJ ‹_› ‹_› (by decide)),?_⟩);refine wl (tag_get hg ..) ?_;cases g with
    | none=>exact brT (.keep hk)
    | some s=>refine brF ⟨rfl,(DJ ‹_› ‹_› (by decide)),?_⟩;refine wl (BE ..) ?_;refine wl (eq_tv ..) ?_;refine .keep ?_;replace hk:=(show decide (some (some s)=some (none:Option Str))=false from rfl)▸hk;rw [Bool.false_or] at hk;have:decide ((some s:Option Str)=some (sc 1))=decide (some (some s)=some (some (sc 1))):=decide_eq_decide.mpr ⟨congrArg some,Option.some.inj⟩;rw [this];exact hk
  . refine brE (decide_eq_false e) (brF (.keep ?_));replace hk:=(decide_eq_false (fun q=>e (Option.some.inj q)))▸hk;rw [Bool.false_and] at hk;exact hk
inductive WhJ (H:Hp) (fs:List Str) (tags:List (Option Str)) (ru rp:Addr) (us:Us) (ps:Pl) (n:Str) (o:Nat):Nat->Lm->Hp->Prop
  | mk (i:Nat) (hi:i<=tags.length) (h:nx tags us (tags.length - i) i=o):WhJ H fs tags ru rp us ps n o (tags.length - i) [some (mtV fs tags ru rp),some (.int (i:Int)),some (.str n)] (hm H ru rp us ps)
theorem po_while {i:Nat} {N:Lm->Hp->Prop} {R:KV} {E:KS} (hd:1<=d) (n2:ru≠rp) (hu:us.length=tags.length) (ht:tags.length<=20) (hi:i<=tags.length)
    (h:N [some (mtV fs tags ru rp),some (.int (nx tags us (tags.length - i) i:Nat)),some (.str n)] (hm H ru rp us ps)) :
    whlP d none (.bop .And (.cons (.cmp .Lt (.loc 1) (.len (.attr (.loc 0) 2))) (.cons (.not (.meth (.loc 0) 6 (.cons (.loc 1) .nil))) .nil))) q237_6 N R E [some (mtV fs tags ru rp),some (.int (i:Int)),some (.str n)] (hm H ru rp us ps):=by
  refine whl_by (WhJ H fs tags ru rp us ps n (nx tags us (tags.length - i) i)) _ (.mk i hi rfl) ?_;intro k m H' hJ;cases hJ with | mk j hj e
  dsimp;refine ⟨rfl,by rw [List.length_map];exact AN ‹_› (by decide),?_⟩;rw [List.length_map];rw [nx_out] at e;by_cases l:j<tags.length
  . refine brE (decide_eq_true (r_ci ‹_›)) (brT ?_);refine ⟨rfl,is_free_c hd n2 hu ht l ?_⟩;rw [if_pos l] at e;cases q:frB tags us j with
    | true=>rw [q,if_pos rfl] at e;subst e;exact brF h
    | false=>rw [q,if_neg Bool.false_ne_true] at e;refine brT ?_;dsimp [q237_6];refine ⟨_,?_,.mk (j+1) l e⟩;exact r_sl ‹_›
  . refine brE (decide_eq_false fun q=>l (Int.ofNat_lt.mp q)) (brF (brF ?_));rw [if_neg l] at e;subst e;exact h
theorem ps_l {N:Lm->Hp->Prop} {R:KV} {E:KS} {ws:List V} {H0:Hp} {l:List Str} {i:Nat} {x2:Option V} {o:Nat×Us×Pl} (hd:1<=d) (n2:ru≠rp) (ht:tags.length<=20) (h:∀ x2,N [some (mtV fs tags ru rp),some (.int (o.1:Int)),x2] (hm H ru rp o.2.1 o.2.2))
    (hi:i<=tags.length) (hu:us.length=tags.length) (hl:ps.length+l.length<=1000) (hn:∀ n∈l,n≠sc 18) (hf:l.foldl (poS tags) (i,us,ps)=o) :
    AX d none (.one 2) q237_2 (.lst ws) H0 N R E (l.map .str) [some (mtV fs tags ru rp),some (.int (i:Int)),x2] (hm H ru rp us ps):=by
  induction l generalizing i us ps x2 with
  | nil=>cases hf;exact Ay trivial (h _)
  | cons n l ih =>
    refine Az trivial fun M hM=>?_;replace hl:=List.length_cons▸hl;replace hf:=List.foldl_cons▸hf;have hn':∀ k∈l,k≠sc 18:=fun k hk=>hn k (.tail _ hk);dsimp [q237_2];refine brE (decide_eq_false (hn n (.head _))) (brF ?_);dsimp [q237_4];refine ⟨rfl,inD DS ?_⟩;refine wl (dV_at ..) ?_;refine wl (Option.isSome_map ..) ?_;cases e3:Ao ps n with
    | some p=>replace hf:=poS_s e3▸hf;exact brF (hM _ _ (ih hi hu (r_p hl) hn' hf))
    | none =>
      replace hf:=poS_n e3▸hf;dsimp only at hf;refine brT ?_;dsimp [q237_5];refine po_while hd n2 hu ht hi ?_;have le:nx tags us (tags.length - i) i<=tags.length:=by have:=nx_le (tags:=tags) (us:=us) (tags.length - i) i;rw [Nat.add_sub_cancel' hi] at this;exact this
      generalize nx tags us (tags.length - i) i=p at hf le ⊢;dsimp [q237_7];refine ⟨rfl,by rw [List.length_map];exact AN ‹_› (by decide),?_⟩;refine wl (List.length_map ..) ?_;by_cases lt:p<tags.length
      . replace hf:=if_pos lt▸hf;refine brE (decide_eq_true (r_ci ‹_›)) (brT ?_);dsimp [q237_8];refine ⟨rfl,setD DS (by unfold plD dV;rw [List.length_map];exact r_pt hl (by decide)) ?_⟩;refine wl (Do ..) ?_;refine wl (show put (plD ps) n (.int (p:Int))=plD (ps++[(n,p)]) from dV_put e3 ..) ?_;dsimp [q237_9];refine ⟨rfl,setL (Bj n2) (by rw [List.length_map,hu];exact lt) (r_tl ‹_› ‹_› (by decide)) ?_⟩;exact wl (hm_set n2 ..) (hM _ _ (ih le (by rw [List.length_set];exact hu) (by rw [List.length_append];exact r_p1 hl) hn' hf))
      . replace hf:=if_neg lt▸hf;refine brE (decide_eq_false fun q=>lt (Int.ofNat_lt.mp q)) (brF ?_);exact hM _ _ (ih le hu (r_p hl) hn' hf)
theorem positional_c (hd:2<=d) (n2:ru≠rp) (hu:us.length=tags.length) (ht:tags.length<=20) (hl:ps.length+fs.length<=1000) (hn:∀ n∈fs,n≠sc 18) {o:Nat×Us×Pl} (hf:fs.foldl (poS tags) (0,us,ps)=o) (hk:K .none (hm H ru rp o.2.1 o.2.2)):AD d (.ref 237) [mtV fs tags ru rp] K X (hm H ru rp us ps):=by refine AE f237 AQ (m:=[some _,none,none]) (d0 hd rfl) rfl rfl ?_;dsimp [q237_0,q237_1];exact ⟨rfl,AG (dle hd rfl) (ps_l (i:=0) (dle hd rfl) n2 ht (fun Y=>.keep hk) (Nat.zero_le _) hu hl hn hf)⟩
end
noncomputable abbrev Ar:=List (Option Str×V)
noncomputable abbrev arV (as:Ar):V:=.lst (as.map fun x=>.tup [tv x.1,x.2])
noncomputable def tkV (as:Ar) (ps:Pl) (n:Str):V:=match Ao ps n with | some i=>(match as[i]? with | some x=>x.2 | none=>.none) | none=>.none
structure Mat (as:Ar) (fs:List Str) (ps:Pl):Prop where
  la:as.length<=20
  lf:fs.length<=20
  dots:∀ n∈fs,n≠sc 18
  run:∃ us1 ps1 i us,exA (as.map (·.1)) fs (List.replicate as.length 0,[])=some (us1,ps1)/\us1.length=as.length/\ps1.length<=100/\Full us1 (as.map (·.1))/\fs.foldl (poS (as.map (·.1))) (0,us1,ps1)=(i,us,ps)/\us.length=as.length/\∀ u∈us,u≠0
  inn:∀ x∈ps,x.2<as.length
  ok:∀ x∈as,∀ a,x.2≠.ref a
section
variable {d:Nat} {K:KV} {X:KX} {H:Hp} {ru rp:Addr} {fs:List Str} {tags:List (Option Str)} {us:Us} {ps:Pl} {n:Str} {as:Ar}
theorem flt_t {l:List V}:l.filter (fun Y=>true)=l:=List.filter_eq_self.mpr fun Y Y=>rfl
theorem flt_f:∀ {l:List V},l.filter (fun Y=>false)=[]
  | []=>rfl
  | _::l=>flt_f (l:=l)
theorem rest_c (hd:2<=d) (n2:ru≠rp) (hu:us.length=tags.length) (ht:tags.length<=20) (hz:∀ u∈us,u≠0) (hk:∀ r,hm H ru rp us ps r=none->K (.ref r) (upd (hm H ru rp us ps) r (.lst []))):AD d (.ref 249) [mtV fs tags ru rp] K X (hm H ru rp us ps):=by
  refine AE f249 AQ (m:=[some _]) (d0 hd rfl) rfl rfl ?_;dsimp [q249_0];refine ⟨rfl,by rw [List.length_map];exact AN ‹_› (by decide),by rw [List.length_map];exact r_il ‹_› (by decide),?_⟩;refine wl (List.length_map ..) ?_;refine Br (fun v=>v) (fun Y=>false) (dle hd rfl) (by rw [List.length_map,List.length_range];exact AN ‹_› (by decide)) ?_ (fun v Y e=>by cases e) (fun v Y e=>by cases e) ?_
  . intro v hv P hP;obtain ⟨i,hi,rfl⟩:=List.mem_map.mp hv;have hi:=List.mem_range.mp hi;obtain ⟨u,hu'⟩:∃ u,us[i]?=some u:=⟨_,List.getElem?_eq_getElem (hu▸hi)⟩
    dsimp;refine ⟨rfl,subR (Bj n2) (r_tl ‹_› ‹_› (by decide)) (us_get hu') ?_⟩;dsimp;exact wl (decide_eq_false (hz u (List.mem_of_getElem? hu')) ..) (hP)
  . exact wl (flt_f ..) (fun r hr=>AB (.keep (hk r hr)))
theorem match_names_c (hd:5<=d) (hm:Mat as fs ps) (hk:K (.tup [.dct (plD ps),.lst []]) H):AD d (.ref 281) [ssV fs,arV as,.none] K X H:=by
  obtain ⟨us1,ps1,i,us,h1,hb,h2',h3,h4,h5,h6⟩:=hm.run;have hla:=hm.la;have hlf:=hm.lf;have lt:(as.map (·.1)).length=as.length:=List.length_map ..;refine AE f281 vec_dv (m:=[some _,some _,some _,none,none]) (d0 hd rfl) rfl rfl ?_;dsimp [q281_0];refine Br (fun v=>match v with | .tup [t,_]=>t | _=>.none) (fun Y=>true) (dle hd rfl) (by rw [List.length_map];exact AN ‹_› (by decide)) (fun v Y P h=>h) ?_ ?_ ?_
  . intro v hv _ P hP;obtain ⟨x,_,rfl⟩:=List.mem_map.mp hv;exact ⟨by decide,hP⟩
  . intro v hv _ P hP;obtain ⟨x,_,rfl⟩:=List.mem_map.mp hv;dsimp only at hP ⊢;rw [cv_tv];exact hP
  refine wl (flt_t ..) ?_;refine wl (List.map_map ..) ?_;intro r0 hr0;refine AF hr0 ?_;rw [show (as.map ((fun v=>match v with | .tup [t,_]=>t | _=>.none) ∘ fun x:Option Str×V=>V.tup [tv x.1,x.2]))=(as.map (·.1)).map tv from by rw [List.map_map];rfl];refine matching_c (dle hd rfl) (r_el ‹_› ‹_› (by decide)) fun ru rp hru hrp n2=>?_;refine wl (lt ..) ?_;dsimp [q281_1];refine ⟨rfl,exact_c (dle hd rfl) n2 (by rw [List.length_replicate,lt]) (r_el ‹_› ‹_› (by decide)) (Nat.zero_le _) hlf hm.dots h1 ?_⟩;dsimp [q281_2];refine ⟨rfl,partial_c (dle hd rfl) n2 (hb.trans lt.symm) (r_el ‹_› ‹_› (by decide)) h3 hm.dots ?_⟩;dsimp [q281_3];refine ⟨rfl,positional_c (dle hd rfl) n2 (hb.trans lt.symm) (r_el ‹_› ‹_› (by decide)) (r_2 ‹_› ‹_› (by decide)) hm.dots h4 ?_⟩;dsimp [q281_4];refine ⟨rfl,rest_c (dle hd rfl) n2 (h5.trans lt.symm) (r_el ‹_› ‹_› (by decide)) h6 fun r hr=>AF hr ?_⟩;dsimp [q281_5];refine ⟨by decide,brF (brF ?_)⟩;dsimp [q281_7];refine ⟨rfl,DX DS ?_⟩;refine ⟨by decide,.to (fun a v ha=>?_) hk⟩;unfold Mine.hm h2 upd del;dsimp only [BE];by_cases q:a=rp
  . rw [q,hrp] at ha;cases ha
  . refine wl (if_neg q ..) ?_;refine wl (if_neg q ..) ?_;by_cases q2:a=ru
    . rw [q2,hru] at ha;cases ha
    . rw [if_neg q2];exact ha
theorem cv_ok {v:V} {K:KV} (h:∀ a,v≠.ref a):cv v H K=K v H:=by cases v<;>first | rfl | exact absurd rfl (h _)
theorem look_in {ps:Pl} {i:Nat} (e:Ao ps n=some i):∃ x∈ps,x.2=i:=by
  unfold Ao at e;cases q:ps.find? fun x=>decide (x.1=n) with
  | none=>rw [q] at e;cases e
  | some x=>rw [q] at e;cases e;exact ⟨x,List.mem_of_find?_eq_some q,rfl⟩
theorem tk_l {N:Lm->Hp->Prop} {R:KV} {E:KS} {ws:List V} {H0:Hp} {l l':List Str} {r:Addr} {x6:Option V} (hm:Mat as fs ps) (h:∀ x6,N [some (arV as),some (ssV fs),some .none,some (.dct (plD ps)),some (.lst []),some (.ref r),x6] (upd H r (.lst (fs.map (tkV as ps))))) (hf:l'++l=fs) :
    AX d none (.one 6) q287_3 (.lst ws) H0 N R E (l.map .str) [some (arV as),some (ssV fs),some .none,some (.dct (plD ps)),some (.lst []),some (.ref r),x6] (upd H r (.lst (l'.map (tkV as ps)))):=by
  induction l generalizing l' x6 with
  | nil=>rw [List.append_nil] at hf;cases hf;exact Ay trivial (h _)
  | cons n l ih =>
    refine Az trivial fun M hM=>?_;have hn:n∈fs:=hf▸List.mem_append_right _ (.head _);have hll:l'.length<1000000:=Nat.lt_of_le_of_lt (show l'.length<=fs.length by rw [<- hf,List.length_append];exact Nat.le_add_right ..) (Nat.lt_of_le_of_lt hm.lf (by decide));have ih:=hM _ _ (ih (l':=l'++[n]) (x6:=some (.str n)) (by rw [List.append_assoc];exact hf));replace ih:=List.map_append▸ih;replace ih:=List.map_singleton▸ih;dsimp [q287_3];refine brE (decide_eq_false (hm.dots n hn)) (brF ?_);dsimp [q287_5];refine wl (dV_at ..) ?_;refine wl (Option.isSome_map ..) ?_;unfold tkV at ih ⊢;cases q:Ao ps n with
    | none=>replace ih:=q▸ih;refine brF ?_;dsimp [q287_7];refine apL1 (AA ..) (by rw [List.length_map];exact hll) AS ?_;exact ih
    | some i =>
      replace ih:=q▸ih;refine brT ?_;dsimp [q287_6];refine wl (CF (AA ..) ..) ?_;refine wl (dV_at ..) ?_;refine wl (q ..) ?_;obtain ⟨y,hy,hyi⟩:=look_in q;have hi:i<as.length:=hyi▸hm.inn y hy;obtain ⟨x,hx⟩:∃ x,as[i]?=some x:=⟨_,List.getElem?_eq_getElem hi⟩
      dsimp only at ih;replace ih:=hx▸ih;dsimp;refine ⟨rfl,DJ hi hm.la (by decide),?_⟩;refine wl (List.getElem?_map ..) ?_;refine wl (hx ..) ?_;dsimp;refine ⟨by decide,?_⟩;refine wl (cv_ok (hm.ok x (List.mem_of_getElem? hx)) ..) ?_;dsimp;refine CH (AA ..) (by rw [List.length_map];exact hll) ?_;exact wl (AS ..) (ih)
theorem take_c (hd:6<=d) (hm:Mat as fs ps) (hk:K (.lst (fs.map (tkV as ps))) H):AD d (.ref 287) [arV as,ssV fs] K X H:=by refine AE f287 vec_dv (m:=[some _,some _,some _,none,none,none,none]) (d0 hd rfl) rfl rfl ?_;dsimp [q287_0];refine ⟨dle hd rfl,by rw [List.length_map];exact AN hm.lf (by decide),fun r0 hr0=>AF hr0 (match_names_c (dle hd rfl) hm ?_)⟩;dsimp [q287_1];refine ⟨Nat.zero_le _,fun r hr=>AB ?_⟩;dsimp [q287_2];exact AG (dle hd rfl) (tk_l (l':=[]) hm (fun Y=>BX (AA ..) (Sub.refl.upd hr) hr hk) rfl)
end
section
variable {d:Nat} {K:KV} {X:KX} {m:Lm} {H:Hp} {cur:Option Str} {N:Lm->Hp->Prop} {R:KV} {E:KS} {t:Tg} {b:Mine.C} {o:V} {ov v:V} {xs:List V} {i:Nat}
theorem lenG (h:look H ov=some (.lst xs)) (hl:xs.length<=1000000) (k:K (.int xs.length) H):lenV ov K H:=by unfold lenV;rw [h];exact And.intro hl k
theorem subG (h:look H ov=some (.lst xs)) (hl:i<2 ^ 63) (hx:xs[i]?=some v) (k:K v H):subV ov (.int (i:Int)) K H:=by unfold subV;rw [h];refine And.intro (r_i2 hl (by decide)) ?_;rw [Int.toNat_natCast,hx];exact k
theorem srcG (h:look H ov=some (.lst xs)):srcV ov H=some xs:=by unfold srcV;rw [h];rfl
theorem handG (h:look H ov=some (.lst xs)):Bd ov=true:=by cases ov<;>first | rfl | cases h
theorem DT (hd:0<d) (n:Nat) (J:Nat->Lm->Hp->Prop) (h0:J 0 m H) (hs:∀ i m H',i<n->J i m H'->AL o H H'/\BL t (.int (i:Int)) m (fun m=>vcS d cur b (fun m H=>J (i+1) m H) R E m H')) (he:∀ m H',J n m H'->AL o H H'/\N m H') :
    frsP d cur t b o ((List.range n).map fun i=>.int (Int.ofNat i)) N R E m H:=by
  refine ⟨hd,J,h0,fun i v m H' hv hJ=>?_,fun m H' hJ=>?_⟩
  . replace hv:=(List.getElem?_map)▸hv;by_cases h:i<n
    . rw [List.getElem?_range h] at hv;cases hv;exact hs i m H' h hJ
    . rw [List.getElem?_eq_none (by rw [List.length_range];exact r_nl ‹_›)] at hv;cases hv
  . rw [List.length_map,List.length_range] at hJ;exact he _ _ hJ
theorem frs_map {α:Type} {l:List α} {f:α->V} (hd:0<d) (J:Nat->Lm->Hp->Prop) (h0:J 0 m H) (hs:∀ i x m H',l[i]?=some x->J i m H'->AL o H H'/\BL t (f x) m (fun m=>vcS d cur b (fun m H=>J (i+1) m H) R E m H')) (he:∀ m H',J l.length m H'->AL o H H'/\N m H') :
    frsP d cur t b o (l.map f) N R E m H:=by
  refine ⟨hd,J,h0,fun i v m H' hv hJ=>?_,fun m H' hJ=>?_⟩
  . replace hv:=(List.getElem?_map)▸hv;cases q:l[i]? with
    | none=>rw [q] at hv;cases hv
    | some x=>rw [q] at hv;cases hv;exact hs i x m H' q hJ
  . rw [List.length_map] at hJ;exact he _ _ hJ
theorem take_s {α β:Type} {l:List α} {f:α->β} {x:α} (h:l[i]?=some x):(l.take (i+1)).map f=(l.take i).map f++[f x]:=by rw [List.take_succ,h,List.map_append];rfl
theorem names_of_c {k:Nat} {iv a:V} (hd:3<=d) (hk:k=22\/k=23) (h:(a = .none/\K .none H)\/∃ kn L an,a = .dct [(sc 3,vec kn L an)]/\L.length<=1000/\∀ r,H r=none->K (.ref r) (upd H r (.lst L))):AD d (.ref 33) [Cb (sc k) iv a] K X H:=by
  refine AE f33 AQ (m:=[some _,none,none,none,none]) (d0 hd rfl) rfl rfl ?_;have e0:decide (sc k=sc 0)=false:=by rcases hk with rfl | rfl<;>exact dq rfl
  have e2:decide (sc k=sc 2)=false:=by rcases hk with rfl | rfl<;>exact dq rfl
  dsimp [q33_0];refine ⟨rfl,brE e0 (brF ?_)⟩;dsimp [q33_5];refine ⟨rfl,brE e2 (brF ?_)⟩;dsimp [q33_7];have h43:decide (sc 3=sc 4)=false:=dq rfl;refine dim_of_c (dle hd rfl) ?_ ?_
  . rcases h with ⟨h,_⟩ | ⟨kn,L,an,h,_⟩
    . exact .inl h
    . exact .inr ⟨_,h,by rw [Af,if_neg (of_decide_eq_false h43)];rfl⟩
  dsimp [q33_8];refine brF (brF ?_);dsimp [q33_11];rcases h with ⟨rfl,h⟩ | ⟨kn,L,an,rfl,hl,h⟩
  . refine Bx (dle hd rfl) ?_;dsimp [q33_12];refine brT ?_;dsimp [q33_13];exact .keep h
  . refine Bx (dle hd rfl) ?_;dsimp;refine wl (Af ..) ?_;refine wl (if_pos rfl ..) ?_;dsimp [q33_12];refine brF ?_;dsimp [q33_14];exact ⟨rfl,(AN ‹_› (by decide)),fun r hr=>AB (.keep (h r hr))⟩
theorem BC {s w:Str} {a:V} (hd:1<=d) (hk:K (.str s) H):AD d (.ref 1049) [vec (sc 22) [.str s] a,.str w] K X H:=by refine AE f1049 AQ (m:=[some _,some _]) (d0 hd rfl) rfl rfl ?_;dsimp [q1049_0];refine brF ?_;dsimp [q1049_2];refine ⟨rfl,brE (by rw [decide_eq_true rfl];rfl) (brF ⟨rfl,by decide,brF ⟨rfl,by decide,brF ?_⟩⟩)⟩;dsimp [q1049_4];exact ⟨rfl,by decide,.keep hk⟩
theorem share_c {k:Str} {its:List V} {a:V} (hd:1<=d) (hk:K (vec k its a) H):AD d (.ref 725) [vec k its a] K X H:=by refine AE f725 AQ (m:=[some _]) (d0 hd rfl) rfl rfl ?_;dsimp [q725_0];refine ⟨rfl,brT ?_⟩;dsimp [q725_1];refine ⟨by decide,rfl,?_⟩;dsimp [q725_2];exact .keep hk
end
noncomputable abbrev Pr:=List (Str×Str)
def naV (L:Pr) (a:V):Prop:=(a = .none/\∀ x∈L,x.1=sc 1)\/(∃ an,a = .dct [(sc 3,vec (sc 22) (L.map fun x=>.str x.1) an)])
section
variable {d:Nat} {K:KV} {X:KX} {m:Lm} {H:Hp} {N:Lm->Hp->Prop} {R:KV} {E:KS} {iv a:V} {L:Pr}
inductive TpJ (H:Hp) (L:Pr) (v nv:V) (r:Addr):Nat->Lm->Hp->Prop
  | mk {i:Nat} (x3 x4 x5:Option V):TpJ H L v nv r i [some v,some nv,some (.ref r),x3,x4,x5] (upd H r (.lst ((L.take i).map prV)))
set_option tactic.hygienic true in
theorem DG (hd:4<=d) (hl:L.length<=20) (hv:look H iv=some (.lst (L.map fun x=>.str x.2))) (ha:naV L a) (hk:K (Ab L) H):AD d (.ref 1056) [Cb (sc 22) iv a] K X H:=by
  refine AE f1056 AQ (m:=[some _,none,none,none,none,none]) (d0 hd rfl) rfl rfl ?_;have ll:(L.map fun x=>V.str x.2).length<=20:=by rw [List.length_map];exact hl
  dsimp [q1056_0];refine brF ⟨rfl,brE (dq rfl) (brF ?_)⟩;dsimp [q1056_2];refine ⟨rfl,brE (congrArg not (decide_eq_true rfl)) (brF (brF ?_))⟩;dsimp [q1056_4];have key:∀ nv,(nv = .none/\(∀ x∈L,x.1=sc 1)\/nv = .lst (L.map fun x=>.str x.1))->vcS (d - 1) none q1056_5 (fun Y H=>drp (K .none) H) (fun v H=>drp (K v) H) (fun x Y H=>drp (X x) H) [some (Cb (sc 22) iv a),some nv,none,none,none,none] H:=fun nv hn=>by
    dsimp [q1056_5];refine ⟨Nat.zero_le _,fun r hr=>AB ?_⟩;have hv':∀ ys,look (upd H r (.lst ys)) iv=some (.lst (L.map fun x=>.str x.2)):=fun ys=>by
      cases iv<;>first | exact hv | skip
      rename_i q;rw [DQ] at hv ⊢;rw [AC (fun e=>by rw [e,hr] at hv;cases hv)];exact hv
    dsimp [q1056_6];refine ⟨handG hv,lenG (hv' _) (AN ‹_› (by decide)) ?_⟩;dsimp;refine wl (List.length_map ..) ?_;refine ⟨(r_il ‹_› (by decide)),DT (dle hd rfl) L.length (TpJ H L (Cb (sc 22) iv a) nv r) (.mk _ _ _) ?_ ?_⟩
    . intro i m H' hi hJ;cases hJ with | mk x3 x4 x5
      refine ⟨trivial,?_⟩;obtain ⟨x,hx⟩:∃ x,L[i]?=some x:=⟨_,List.getElem?_eq_getElem hi⟩
      dsimp [q1056_7];refine ⟨handG hv,subG (v:=.str x.2) (hv' _) (r_tl ‹_› ‹_› (by decide)) (by rw [List.getElem?_map,hx];rfl) ?_⟩;dsimp [q1056_8];refine ⟨rfl,brE (dq rfl) (brF ?_)⟩;dsimp [q1056_10];have fin:vcS (d - 1) none q1056_11 (fun m H'=>TpJ H L (Cb (sc 22) iv a) nv r (i+1) m H') (fun v H=>drp (K v) H) (fun x Y H=>drp (X x) H) [some (Cb (sc 22) iv a),some nv,some (.ref r),some (.int (i:Int)),some (.str x.2),some (.str x.1)] (upd H r (.lst ((L.take i).map prV))):=by dsimp [q1056_11];refine wl (CF (AA ..) ..) ?_;refine ⟨rfl,by decide,CH (xs:=(L.take i).map prV) (AA ..) (by rw [List.length_map,List.length_take];exact r_ml ‹_› (by decide)) ?_⟩;refine wl (AS ..) ?_;exact wr (take_s hx ..) (.mk _ _ _)
      rcases hn with ⟨rfl,hn⟩ | rfl
      . replace fin:=(hn x (List.mem_of_getElem? hx))▸fin;exact brT (brT fin)
      . refine brF ⟨(r_i22 ‹_› ‹_› (by decide)),?_⟩;dsimp;refine wl (List.getElem?_map ..) ?_;exact wl (hx ..) (brF ⟨(DJ ‹_› ‹_› (by decide)),fin⟩)
    . intro m H' hJ;cases hJ with | mk x3 x4 x5
      refine ⟨trivial,?_⟩;exact wl (List.take_length ..) (BX (AA ..) (Sub.refl.upd hr) hr hk)
  refine names_of_c (dle hd rfl) (.inl rfl) ?_;rcases ha with ⟨rfl,ha⟩ | ⟨an,rfl⟩
  . exact .inl ⟨rfl,key _ (.inl ⟨rfl,ha⟩)⟩
  . exact .inr ⟨_,_,_,rfl,by rw [List.length_map];exact AN ‹_› (by decide),fun r hr=>AF hr (key _ (.inr rfl))⟩
theorem text_none_c (hd:1<=d) (hk:K (.lst []) H):AD d (.ref 1056) [.none] K X H:=by refine AE f1056 AQ (m:=[some _,none,none,none,none,none]) (d0 hd rfl) rfl rfl ?_;dsimp [q1056_0];refine brT (brT ?_);dsimp [q1056_1];exact ⟨Nat.zero_le _,fun r hr=>AF hr (.keep hk)⟩
end
noncomputable def l2 (H:Hp) (r3 r4:Addr) (xs ys:List V):Hp:=upd (upd H r3 (.lst xs)) r4 (.lst ys)
noncomputable abbrev slV (L:Pr):V:=vec (sc 22) (L.map fun x=>.str x.2) (.dct [(sc 3,vec (sc 22) (L.map fun x=>.str x.1) .none)])
section
variable {d:Nat} {K:KV} {X:KX} {m:Lm} {H:Hp} {N:Lm->Hp->Prop} {R:KV} {E:KS} {iv a v:V} {L:Pr} {r3 r4:Addr} {xs ys:List V} {ab:List Str}
theorem l2_l (h:r3≠r4):l2 H r3 r4 xs ys r3=some (.lst xs):=by unfold l2;rw [AC h,AA]
theorem l2_r:l2 H r3 r4 xs ys r4=some (.lst ys):=AA ..
theorem l2_setl (h:r3≠r4):upd (l2 H r3 r4 xs ys) r3 (.lst xs')=l2 H r3 r4 xs' ys:=DE h
theorem l2_setr:upd (l2 H r3 r4 xs ys) r4 (.lst ys')=l2 H r3 r4 xs ys':=AS
theorem l2_sub (a:H r3=none) (b:H r4=none):Sub H (l2 H r3 r4 xs ys):=(Sub.refl.upd a).upd b
theorem CN {H':Hp} (s:Sub H H') (h:look H iv=some v):look H' iv=some v:=by cases iv<;>first | exact h | exact s _ _ h
inductive CpJ (H:Hp) (L:Pr) (sv cv:V) (r3 r4:Addr):Nat->Lm->Hp->Prop
  | mk {i:Nat} (x5 x6:Option V):CpJ H L sv cv r3 r4 i [some .none,some sv,some cv,some (.ref r3),some (.ref r4),x5,x6,none] (l2 H r3 r4 ((L.take i).map prV) [])
inductive CpK (H:Hp) (ab:List Str) (sv cv:V) (r3 r4:Addr) (xs:List V):Nat->Lm->Hp->Prop
  | mk {i:Nat} (x5 x6:Option V):CpK H ab sv cv r3 r4 xs i [some .none,some sv,some cv,some (.ref r3),some (.ref r4),x5,x6,none] (l2 H r3 r4 xs ((ab.take i).map .str))
theorem cp_end {sv cv:V} {x5 x6:Option V} (hd:1<=d) (h3:H r3=none) (h4:H r4=none) (n3:r3≠r4) (hab:ab.length<=20) (hvi:∀ x∈ab,x≠sc 59) (hk:K (.tup [.lst xs,ssV ab,.bool false]) H) :
    vcS d none q1061_10 (fun Y H=>drp (K .none) H) (fun v H=>drp (K v) H) (fun x Y H=>drp (X x) H) [some .none,some sv,some cv,some (.ref r3),some (.ref r4),x5,x6,none] (l2 H r3 r4 xs (ab.map .str)):=by
  dsimp [q1061_10];refine inL l2_r ?_;refine wl (show ab.contains (sc 59)=false from by simpa using fun h=>hvi _ h rfl ..) ?_;dsimp [q1061_11];refine DX (l2_l n3) ?_;have g:del (l2 H r3 r4 xs (ab.map .str)) r3 r4=some (.lst (ab.map .str)):=by unfold del;rw [if_neg (Ne.symm n3)];exact l2_r
  dsimp;refine wl (Co g ..) ?_;dsimp only [BE];refine Br (fun v=>v) (fun Y=>true) hd (by rw [List.length_map];exact AN ‹_› (by decide)) ?_ ?_ ?_ ?_
  . intro v hv P hP;obtain ⟨x,hx,rfl⟩:=List.mem_map.mp hv;dsimp;rw [decide_eq_false (hvi x hx)];exact hP
  . intro v hv _ P hP;exact hP
  . intro v hv _ P hP;obtain ⟨x,hx,rfl⟩:=List.mem_map.mp hv;exact hP
  . refine wl (flt_t ..) ?_;refine wl (List.map_id' ..) ?_;refine fun r hr=>AF hr ?_;refine ⟨by decide,.to (fun b w hb=>?_) hk⟩;unfold del l2 upd;by_cases q:b=r3
    . rw [q,h3] at hb;cases hb
    . refine wl (if_neg q ..) ?_;refine wl (if_neg q ..) ?_;by_cases q4:b=r4
      . rw [q4,h4] at hb;cases hb
      . rw [if_neg q4];exact hb
theorem class_parts_c (hd:5<=d) (hL:L.length<=20) (hn:∀ x∈L,x.1≠sc 1) (hab:ab.length<=20) (hvi:∀ x∈ab,x≠sc 59) (hv:look H iv=some (ssV ab)) (hk:K (.tup [Ab L,ssV ab,.bool false]) H):AD d (.ref 1061) [.none,slV L,Cb (sc 22) iv .none] K X H:=by
  refine AE f1061 AQ (m:=[some _,some _,some _,none,none,none,none,none]) (d0 hd rfl) rfl rfl ?_;dsimp [q1061_0];refine ⟨Nat.zero_le _,fun r3 h3=>AB ?_⟩;dsimp [q1061_1];refine ⟨Nat.zero_le _,fun r4 h4=>AB ?_⟩;obtain ⟨n3,h4⟩:=AI h4;have n3:=Ne.symm n3;dsimp [q1061_2];refine text_none_c (dle hd rfl) ?_;refine AG (dle hd rfl) ⟨trivial,?_⟩;dsimp [q1061_6];refine DG (L:=L) (dle hd rfl) hL rfl (.inr ⟨_,rfl⟩) ?_;refine frs_map (dle hd rfl) (CpJ H L (slV L) (Cb (sc 22) iv .none) r3 r4) (.mk _ _) ?_ ?_
  . intro i x m H' hx hJ;cases hJ with | mk x5 x6
    refine ⟨trivial,?_⟩;have hi:i<L.length:=(List.getElem?_eq_some_iff.mp hx).1;dsimp [q1061_7];refine wl (CF (l2_l n3) ..) ?_;refine ⟨rfl,brE (decide_eq_false (hn x (List.mem_of_getElem? hx))) (brF ⟨by decide,CH (l2_l n3) (by rw [List.length_map,List.length_take];exact r_ml ‹_› (by decide)) ?_⟩)⟩;refine wl (l2_setl n3 ..) ?_;exact wr (take_s hx ..) (.mk _ _)
  . intro m H' hJ;cases hJ with | mk x5 x6
    refine wl (List.take_length ..) ?_;refine ⟨trivial,?_⟩;dsimp [q1061_8];refine DG (L:=ab.map fun x=>(sc 1,x)) (dle hd rfl) (by rw [List.length_map];exact hab) (by rw [List.map_map];exact CN (l2_sub h3 h4) hv) (.inl ⟨rfl,fun x hx=>by obtain ⟨y,_,rfl⟩:=List.mem_map.mp hx;rfl⟩) ?_;dsimp;refine wl (List.map_map ..) ?_;refine frs_map (dle hd rfl) (CpK H ab (slV L) (Cb (sc 22) iv .none) r3 r4 (L.map prV)) (.mk _ _) ?_ ?_
    . intro i x m H' hx hJ;cases hJ with | mk x5 x6
      refine ⟨trivial,?_⟩;have hi:i<ab.length:=(List.getElem?_eq_some_iff.mp hx).1;dsimp [q1061_9];refine wl (CF l2_r ..) ?_;refine ⟨rfl,CH l2_r (by rw [List.length_map,List.length_take];exact r_ml ‹_› (by decide)) ?_⟩;refine wl (l2_setr ..) ?_;exact wr (take_s hx ..) (.mk _ _)
    . intro m H' hJ;cases hJ with | mk x5 x6
      exact wl (List.take_length ..) (⟨trivial,cp_end (dle hd rfl) h3 h4 n3 hab hvi hk⟩)
end
noncomputable abbrev Pt:=List (Str×Nat)
noncomputable def prA (P:Pt):V:=if P=[] then .none else vec (sc 23) (P.map fun x=>pvV x.2) (.dct [(sc 3,vec (sc 22) (P.map fun x=>.str x.1) .none)])
section
variable {d:Nat} {K:KV} {X:KX} {m:Lm} {H:Hp} {N:Lm->Hp->Prop} {R:KV} {E:KS} {P:Pt}
inductive PpJ (H:Hp) (P:Pt) (v nv:V) (r:Addr):Nat->Lm->Hp->Prop
  | mk {i:Nat} (x3 x4:Option V):PpJ H P v nv r i [some v,some nv,some (.ref r),x3,x4] (upd H r (.dct (ptV (P.take i))))
theorem nd_take {x:Str×Nat} {i:Nat} (hnd:(P.map (·.1)).Nodup) (hx:P[i]?=some x):Ao (P.take i) x.1=none:=by unfold Ao;rw [Option.map_eq_none_iff,List.find?_eq_none];intro y hy e;obtain ⟨hi,rfl⟩:=List.getElem?_eq_some_iff.mp hx;have q:=List.take_append_drop i P;rw [List.drop_eq_getElem_cons hi] at q;rw [<- q,List.map_append,List.nodup_append] at hnd;exact hnd.2.2 _ (List.mem_map_of_mem hy) _ (.head _) (of_decide_eq_true e)
theorem DL (hd:4<=d) (hl:P.length<=20) (hnd:(P.map (·.1)).Nodup) (hk:K (.dct (ptV P)) H):AD d (.ref 1068) [prA P] K X H:=by
  refine AE f1068 AQ (m:=[some _,none,none,none,none]) (d0 hd rfl) rfl rfl ?_;unfold prA;by_cases e:P=[]
  . subst e;refine wl (if_pos rfl ..) ?_;dsimp [q1068_0];refine brT (brT ?_);dsimp [q1068_1];exact ⟨by decide,rfl,fun r hr=>AF hr (.keep hk)⟩
  . refine wl (if_neg e ..) ?_;dsimp [q1068_0];refine brF ⟨rfl,brE (dq rfl) (brF ?_)⟩;dsimp [q1068_2];refine names_of_c (dle hd rfl) (.inr rfl) (.inr ⟨_,_,_,rfl,by rw [List.length_map];exact AN ‹_› (by decide),fun r hr=>AF hr ?_⟩);dsimp [q1068_3];refine brF ?_;dsimp [q1068_7];refine ⟨by decide,rfl,fun r hr=>AB ?_⟩;dsimp [q1068_8];refine ⟨by rw [List.length_map];exact AN ‹_› (by decide),by rw [List.length_map];exact r_il ‹_› (by decide),?_⟩;refine wl (List.length_map ..) ?_;refine DT (dle hd rfl) P.length (PpJ H P _ _ r) (.mk _ _) ?_ ?_
    . intro i m H' hi hJ;cases hJ with | mk x3 x4
      refine ⟨trivial,?_⟩;obtain ⟨x,hx⟩:∃ x,P[i]?=some x:=⟨_,List.getElem?_eq_getElem hi⟩
      dsimp [q1068_9];refine ⟨rfl,(DJ ‹_› ‹_› (by decide)),?_⟩;refine wl (List.getElem?_map ..) ?_;refine wl (hx ..) ?_;dsimp [q1068_10];refine ⟨rfl,brE (congrArg not (decide_eq_true rfl)) (brF ?_)⟩;dsimp [q1068_12];refine share_c (dle hd rfl) ?_;dsimp;refine ⟨(DJ ‹_› ‹_› (by decide)),?_⟩;refine wl (List.getElem?_map ..) ?_;refine wl (hx ..) ?_;refine setD (v:=pvV x.2) (AA ..) (by unfold ptV;rw [List.length_map,List.length_take];exact r_ml ‹_› (by decide)) ?_;rw [AS,show put (ptV (P.take i)) x.1 (pvV x.2)=ptV (P.take i++[x]) from dV_put (nd_take hnd hx),show P.take i++[x]=P.take (i+1) from by rw [List.take_succ,hx];rfl];exact .mk _ _
    . intro m H' hJ;cases hJ with | mk x3 x4
      refine wl (List.take_length ..) ?_;refine ⟨trivial,?_⟩;exact BX (AA ..) (Sub.refl.upd hr) hr hk
end
noncomputable abbrev mtE:V:=.obj 843 [(31,.dct [])]
noncomputable abbrev s4E (t:Addr):List (Nat×V):=[(10,.ref t),(32,mtE),(33,.none)]
section
variable {d:Nat} {K:KV} {X:KX} {m:Lm} {H:Hp} {N:Lm->Hp->Prop} {R:KV} {E:KS}
theorem mt_make2:∀ p,BG p 843 786=true:=fun p=>by kernel_rfl
theorem tab_make:∀ p,BG p 409 343=true:=fun p=>by kernel_rfl
theorem s4_make:∀ p,BG p 878 875=true:=fun p=>by kernel_rfl
theorem env_make:∀ p,BG p 595 592=true:=fun p=>by kernel_rfl
theorem bi_make:∀ p,BG p 573 570=true:=fun p=>by kernel_rfl
theorem ev_make:∀ p,BG p 1444 1253=true:=fun p=>by kernel_rfl
theorem mtable_c (hd:2<=d) (hk:K mtE H):AD d (.ref 843) [] (fun v H=>cv v H K) X H:=by refine Bi (by decide) mt_make2 (d0 hd rfl) fun r hr=>BY f786 AQ (m:=[some (.ref r)]) (dle hd rfl) rfl rfl ?_;dsimp [q786_0];refine ⟨by decide,rfl,fun r1 h1=>AF h1 ?_⟩;refine AM rfl rfl ?_;exact .keep ⟨rfl,AF hr hk⟩
theorem ctable_c (hd:2<=d) (hk:∀ t tc,H t=none->H tc=none->t≠tc->K (.ref t) (upd (upd H t (.obj 409 [(10,.ref tc),(11,.dct [])])) tc (.dct []))):AD d (.ref 409) [] K X H:=by refine Bi (by decide) tab_make (d0 hd rfl) fun t ht=>BY f343 AQ (m:=[some (.ref t)]) (dle hd rfl) rfl rfl ?_;dsimp [q343_0];refine ⟨by decide,rfl,fun tc htc=>AB ?_⟩;obtain ⟨n,htc⟩:=AI htc;refine setO rfl ((AC (Ne.symm n)).trans (AA ..)) rfl ?_;dsimp [q343_1];refine ⟨by decide,rfl,fun r1 h1=>AF h1 ?_⟩;obtain ⟨n1,h1⟩:=AI h1;refine setO rfl (AA ..) rfl ?_;refine wl (AS ..) ?_;exact wl (DE (Ne.symm n) ..) (.keep ⟨rfl,hk t tc ht htc (Ne.symm n)⟩)
theorem upd_in {rs t tc:Addr} {x y z w:V} (n1:rs≠t) (n2:rs≠tc):upd (upd (upd (upd H rs x) t y) tc z) rs w=upd (upd (upd H rs w) t y) tc z:=by
  funext a;unfold upd
  by_cases q:a=rs
  . subst q;rw [if_pos rfl,if_neg n2,if_neg n1,if_pos rfl]
  . refine wl (if_neg q ..) ?_;by_cases q1:a=tc
    . refine wl (if_pos q1 ..) ?_;exact wl (if_pos q1 ..) rfl
    . refine wl (if_neg q1 ..) ?_;refine wl (if_neg q1 ..) ?_;by_cases q2:a=t
      . refine wl (if_pos q2 ..) ?_;exact wl (if_pos q2 ..) rfl
      . refine wl (if_neg q2 ..) ?_;refine wl (if_neg q2 ..) ?_;refine wl (if_neg q ..) ?_;exact wl (if_neg q ..) rfl
theorem s4state_c (hd:4<=d) (hk:∀ rs t tc,H rs=none->H t=none->H tc=none->t≠tc->rs≠t->rs≠tc->K (.ref rs) (upd (upd (upd H rs (.obj 878 (s4E t))) t (.obj 409 [(10,.ref tc),(11,.dct [])])) tc (.dct []))):AD d (.ref 878) [] K X H:=by refine Bi (by decide) s4_make (d0 hd rfl) fun rs hrs=>BY f875 AQ (m:=[some (.ref rs)]) (dle hd rfl) rfl rfl ?_;dsimp [q875_0];refine ctable_c (dle (n:=3) (dle hd rfl) rfl) fun t tc ht htc n=>AB ?_;obtain ⟨n1,ht⟩:=AI ht;obtain ⟨n2,htc⟩:=AI htc;refine setO rfl (((AC (Ne.symm n2)).trans (AC (Ne.symm n1))).trans (AA ..)) rfl ?_;dsimp [q875_1];refine mtable_c (dle (n:=3) (dle hd rfl) rfl) ?_;refine setO rfl (AA ..) rfl ?_;dsimp [q875_2];refine setO rfl (AA ..) rfl ?_;refine wl (AS ..) ?_;refine wl (AS ..) ?_;exact wl (upd_in (Ne.symm n1) (Ne.symm n2) ..) (.keep ⟨rfl,hk rs t tc hrs ht htc n (Ne.symm n1) (Ne.symm n2)⟩)
end
noncomputable abbrev enV (n:Int) (p:V):V:=.obj 595 [(1,.str (sc 2)),(27,.int n),(28,p),(0,.none),(3,.dct []),(29,.bool false),(30,.dct [])]
noncomputable def evE (b:Bool) (s:V):List (Nat×V):=[(34,.int 100),(35,.int 40),(36,.int 0),(17,.int 2),(16,enV 0 .none),(18,enV 1 (enV 0 .none)),(37,.lst []),(38,.lst []),(39,.lst []),(40,.lst []),(41,.lst []),(42,.int 0),(19,.bool b),(43,.none),(44,.none),(45,.none),(46,.none),(47,.none),(13,s)]
section
variable {d:Nat} {K:KV} {X:KX} {m:Lm} {H:Hp} {N:Lm->Hp->Prop} {R:KV} {E:KS} {p:V} {k:Int} {ri:Addr} {es:List (Nat×V)}
theorem env_dv:∀ G,VRs G [.none] [Value.none]:=vec_dv
theorem environment_c (hd:2<=d) (hp:∀ K:KV,∀ H,K p H->cv p H K) (hk:K (enV k p) H):AD d (.ref 595) [.int k,p] (fun v H=>cv v H K) X H:=by refine Bi (by decide) env_make (d0 hd rfl) fun r hr=>BY f592 env_dv (m:=[some (.ref r),some (.int k),some p,some .none]) (dle hd rfl) rfl rfl ?_;dsimp [q592_0];refine AM rfl rfl ?_;dsimp [q592_1];refine AM rfl rfl ?_;dsimp [q592_2];refine hp _ _ (AM rfl rfl ?_);dsimp [q592_3];refine AM rfl rfl ?_;dsimp [q592_4];refine ⟨by decide,rfl,fun r1 h1=>AF h1 (AM rfl rfl ?_)⟩;dsimp [q592_5];refine AM rfl rfl ?_;dsimp [q592_6];refine ⟨by decide,rfl,fun r1 h1=>AF h1 (AM rfl rfl ?_)⟩;exact .keep ⟨rfl,AF hr hk⟩
theorem new_env_c (hd:3<=d) (hp:∀ K:KV,∀ H,K p H->cv p H K) (e:H ri=some (.obj 1444 es)) (hl:Nat.blt es.length 900=true) (ek:at? es 17=some (.int k)) (hk:K (enV k p) (upd H ri (.obj 1444 (put es 17 (.int (k+1)))))):AD d (.ref 1260) [.ref ri,p] K X H:=by refine AE f1260 AQ (m:=[some _,some _,none]) (d0 hd rfl) rfl rfl ?_;dsimp [q1260_0];refine BA e ek rfl ?_;dsimp;refine hp _ _ (environment_c (dle hd rfl) hp ?_);dsimp [q1260_1];refine BA e ek rfl ?_;dsimp;refine setO rfl e hl ?_;dsimp [q1260_2];exact .keep hk
end
section
variable {d:Nat} {K:KV} {X:KX} {m:Lm} {H:Hp} {N:Lm->Hp->Prop} {R:KV} {E:KS} {ri:Addr}
theorem ev_dv:∀ G,VRs G [.int 20000,.int 40] [.int 20000 1966,.int 40 1967]:=fun G=>.cons ⟨_,rfl⟩ (.cons ⟨_,rfl⟩ .nil)
theorem Ag {r:Addr} {es:List (Nat×V)} {x:Lm} {n:Nat} {v:V} {K:Lm->Hp->Prop} (hl:Nat.blt es.length 900=true) (k:K x (upd H r (.obj 1444 (put es n v)))):setC (.ref r) n v (K x) (upd H r (.obj 1444 es)):=AM rfl hl k
theorem evaluator_c (hd:6<=d) (hk:∀ ri,H ri=none->K (.ref ri) (upd H ri (.obj 1444 (evE true .none)))):AD d (.ref 1444) [.int 100] K X H:=by refine Bi (by decide) ev_make (d0 hd rfl) fun r hr=>BY f1253 ev_dv (m:=[some (.ref r),some (.int 100),some (.int 40)]) (dle hd rfl) rfl rfl ?_;dsimp [q1253_0];refine Ag rfl ?_;dsimp [q1253_1];refine Ag rfl ?_;dsimp [q1253_2];refine Ag rfl ?_;dsimp [q1253_3];refine Ag rfl ?_;dsimp [q1253_4];refine rcO1 (AA ..) mth_1444_18 (new_env_c (dle (n:=5) (dle hd rfl) rfl) (fun Y Y h=>h) (AA ..) rfl rfl ?_);refine wl (AS ..) ?_;refine Ag rfl ?_;dsimp [q1253_5];refine wl (rcvO (AA ..) mth_1444_18 ..) ?_;refine ⟨rfl,BA (AA ..) rfl rfl ?_⟩;refine new_env_c (dle (n:=5) (dle hd rfl) rfl) (fun Y Y h=>h) (AA ..) rfl rfl ?_;refine wl (AS ..) ?_;refine Ag rfl ?_;dsimp [q1253_6];refine ⟨by decide,fun r1 h1=>AF h1 (Ag rfl ?_)⟩;dsimp [q1253_7];refine ⟨by decide,fun r1 h1=>AF h1 (Ag rfl ?_)⟩;dsimp [q1253_8];refine ⟨by decide,fun r1 h1=>AF h1 (Ag rfl ?_)⟩;dsimp [q1253_9];refine ⟨by decide,fun r1 h1=>AF h1 (Ag rfl ?_)⟩;dsimp [q1253_10];refine ⟨by decide,fun r1 h1=>AF h1 (Ag rfl ?_)⟩;dsimp [q1253_11];refine Ag rfl ?_;dsimp [q1253_12];refine Ag rfl ?_;dsimp [q1253_13];refine Ag rfl ?_;dsimp [q1253_14];refine Ag rfl ?_;dsimp [q1253_15];refine Ag rfl ?_;dsimp [q1253_16];refine Ag rfl ?_;dsimp [q1253_17];refine Ag rfl ?_;dsimp [q1253_18];refine AM rfl rfl ?_;exact .keep ⟨rfl,hk r hr⟩
end
noncomputable abbrev Q3:=Addr×Addr×Addr
structure Made (H:Hp) (ri:Addr) (q:Q3) (b:Bool) (T:Tb):Prop where
  i:H ri=some (.obj 1444 (evE b (.ref q.1)))
  s:H q.1=some (.obj 878 (s4E q.2.1))
  t:TabAt H q.2.1 q.2.2 T
inductive Sv (H:Hp) (ri:Addr) (b:Bool):Option Q3->Tb->Prop
  | fresh (h:H ri=some (.obj 1444 (evE b .none))):Sv H ri b none []
  | made {q:Q3} {T:Tb} (h:Made H ri q b T):Sv H ri b (some q) T
def Kp (H H':Hp) (A:List Addr):Prop:=∀ a v,a∉A->H a=some v->H' a=some v
section
variable {d:Nat} {K:KV} {X:KX} {m:Lm} {H H' H'':Hp} {N:Lm->Hp->Prop} {R:KV} {E:KS} {ri:Addr} {b:Bool} {md:Option Q3} {T:Tb} {q:Q3} {A:List Addr} {x:Str}
theorem Kp.refl:Kp H H A:=fun Y Y Y h=>h
theorem Kp.mono {B:List Addr} (h:Kp H H' A) (s:∀ a∈A,a∈B):Kp H H' B:=fun a v n e=>h a v (fun i=>n (s a i)) e
theorem Kp.upd {a:Addr} {v:V} (h:Kp H H' A) (i:a∈A):Kp H (Mine.upd H' a v) A:=fun c w n e=>by have hq:c≠a:=fun q=>n (by rw [q];exact i);rw [AC hq];exact h c w n e
theorem Kp.new {a:Addr} {v:V} (h:Kp H H' A) (i:H a=none):Kp H (Mine.upd H' a v) A:=fun c w n e=>by
  have hq:c≠a:=fun q=>by rw [q,i] at e;cases e
  rw [AC hq];exact h c w n e
theorem ev13 {s:V}:at? (evE b s) 13=some s:=rfl
theorem ev13p {s s':V}:put (evE b s) 13 s'=evE b s':=rfl
theorem ev19 {s:V}:at? (evE b s) 19=some (.bool b):=rfl
theorem ev19p {s:V} {b':Bool}:put (evE b s) 19 (.bool b')=evE b' s:=rfl
theorem ev18 {s:V}:at? (evE b s) 18=some (enV 1 (enV 0 .none)):=rfl
theorem BS (hd:5<=d) (h:Sv H ri b md T) (hk:∀ H' q,Made H' ri q b T->Kp H H' [ri]->(md=some q\/(md=none/\H q.2.2=none))->K (.ref q.1) H'):AD d (.ref 889) [.ref ri] K X H:=by
  refine AE f889 AQ (m:=[some _]) (d0 hd rfl) rfl rfl ?_;dsimp [q889_0];cases h with
  | made h=>refine BA h.i ev13 rfl (brF ?_);dsimp [q889_2];exact BA h.i ev13 rfl (AB (.keep (hk H _ h .refl (.inl rfl))))
  | fresh h =>
    refine BA h ev13 rfl (brT ?_);dsimp [q889_1];refine s4state_c (dle hd rfl) fun rs t tc hrs ht htc n n1 n2=>AB ?_;have nr:∀ {a},H a=none->ri≠a:=fun e q=>by rw [<- q,h] at e;cases e
    refine setO rfl (((AC (nr htc)).trans (AC (nr ht))).trans ((AC (nr hrs)).trans h)) rfl ?_;refine wl (ev13p ..) ?_;dsimp [q889_2];refine BA (AA ..) ev13 rfl (AB (.keep (hk _ (rs,t,tc) ⟨AA ..,?_,⟨?_,?_⟩⟩ ?_ (.inr ⟨rfl,htc⟩))))
    . exact ((AC (Ne.symm (nr hrs))).trans (AC n2)).trans ((AC n1).trans (AA ..))
    . exact (AC (Ne.symm (nr ht))).trans ((AC n).trans (AA ..))
    . exact (AC (Ne.symm (nr htc))).trans (AA ..)
    . exact (((Kp.refl.new hrs).new ht).new htc).upd (.head _)
theorem builtin_c (hd:2<=d) (hk:∀ es,K (.obj 573 es) H):AD d (.ref 573) [.str x,.bool false,.any,.str (sc 1)] (fun v H=>cv v H K) X H:=by refine Bi (by decide) bi_make (d0 hd rfl) fun r hr=>BY f570 AQ (m:=[some (.ref r),some (.str x),some (.bool false),some .any,some (.str (sc 1))]) (dle hd rfl) rfl rfl ?_;dsimp [q570_0];refine brF (AM rfl rfl ?_);dsimp [q570_1];refine AM rfl rfl ?_;dsimp [q570_2];refine AM rfl rfl ?_;dsimp [q570_3];refine AM rfl rfl ?_;dsimp [q570_4];refine AM rfl rfl ?_;dsimp [q570_5];refine AM rfl rfl ?_;exact .keep ⟨rfl,AF hr (hk _)⟩
theorem generator_c (hd:3<=d) (hx:Sh x) (hk:∀ es,K (.obj 573 es) H):AD d (.ref 1082) [.str x] K X H:=by refine AE f1082 AQ (m:=[some _,none]) (d0 hd rfl) rfl rfl ?_;dsimp [q1082_0,q1082_1];have h1:=scl (i:=64) (by decide);have h2:x.length<=300:=hx;refine ⟨(r_2 ‹_› ‹_› (by decide)),builtin_c (dle hd rfl) fun es=>.keep (hk es)⟩
theorem quiet_c {es:List (Nat×V)} {n:Addr} {v:List (Nat×V)} (hd:1<=d) (h:H ri=some (.obj 1444 es)) (hl:Nat.blt es.length 900=true) (hk:K (.obj n v) (upd H ri (.obj 1444 (put es 19 (.bool false))))):AD d (.ref 1042) [.ref ri,.obj n v] K X H:=by refine AE f1042 AQ (m:=[some _,some _]) (d0 hd rfl) rfl rfl ?_;dsimp [q1042_0];refine setO rfl h hl ?_;dsimp [q1042_1];exact .keep hk
end
def isS (s:Str):Prop:=s=sc 89\/s=sc 90\/s=sc 91\/s=sc 92
def isC (s:Str):Prop:=s=sc 86\/s=sc 87\/s=sc 88
structure Ok (T:Tb):Prop where
  c:Clo T
  s:∀ n c,AH T n=some c->∀ x∈c.slots,isS x.1
  n:(T.map (·.1)).Nodup
theorem isS.sh {s:Str} (h:isS s):Sh s:=by rcases h with rfl | rfl | rfl | rfl<;>exact Sh.sc rfl
theorem isC.n {s:Str} (h:isC s):isN s:=by rcases h with h | h | h<;>simp [isN,h]
theorem Ok.sh {T:Tb} (h:Ok T) (p:Str):∀ x∈AO T p,Sh x.1:=slF_p (fun n c e x hx=>(h.s n c e x hx).sh) fun x hx=>by cases hx
theorem look_mem {T:Tb} {n:Str} (h:n∈T.map (·.1)):∃ c,AH T n=some c:=by
  obtain ⟨x,hx,rfl⟩:=List.mem_map.mp h;unfold AH;cases q:T.find? fun y=>decide (y.1=x.1) with
  | none=>exact absurd (decide_eq_true rfl) (List.find?_eq_none.mp q x hx)
  | some y=>exact ⟨_,rfl⟩
theorem mem_look {T:Tb} {n:Str} {c:TC} (h:AH T n=some c):(n,c)∈T:=by
  unfold AH at h;cases q:T.find? fun y=>decide (y.1=n) with
  | none=>rw [q] at h;cases h
  | some y=>rw [q] at h;cases h;have:=List.find?_some q;exact wr (of_decide_eq_true this ..) (List.mem_of_find?_eq_some q)
theorem Ok.len {T:Tb} (h:Ok T):T.length<=3:=by
  have:T.map (·.1) ⊆ [sc 86,sc 87,sc 88]:=fun x hx=>by obtain ⟨c,hc⟩:=look_mem hx;rcases h.c.key x c hc with rfl | rfl | rfl<;>simp
  have:=h.n.length_le_of_subset this;rwa [List.length_map] at this
theorem put_key {T:Tb} {n:Str} {c:TC} (h:(T.any fun x=>decide (x.1=n))=true):(Ae T n c).map (·.1)=T.map (·.1):=by unfold Ae;refine wl (if_pos h ..) ?_;refine wl (List.map_map ..) ?_;refine List.map_congr_left fun x Y=>?_;show (if x.1=n then (x.1,c) else x).1=x.1;split<;>rfl
theorem put_nd {T:Tb} {n:Str} {c:TC} (h:(T.map (·.1)).Nodup):((Ae T n c).map (·.1)).Nodup:=by
  by_cases q:(T.any fun x=>decide (x.1=n))=true
  . rw [put_key q];exact h
  . unfold Ae;refine wl (if_neg q ..) ?_;refine wl (List.map_append ..) ?_;rw [List.nodup_append];refine ⟨h,(by simp),fun a ha b hb e=>?_⟩;replace e:=List.mem_singleton.mp hb▸e;obtain ⟨y,hy,rfl⟩:=List.mem_map.mp ha;exact q (List.any_eq_true.mpr ⟨y,hy,decide_eq_true e⟩)
theorem Ok.put {T:Tb} {n:Str} {c:TC} (h:Ok T) (hn:isC n) (hl:c.above.length<=2) (hu:∀ p∈c.above,∃ c',AH T p=some c') (hs:c.slots.length<=3/\∀ x∈c.slots,isS x.1/\isK x.2):Ok (Ae T n c):=by
  have e:∀ m c',AH (Ae T n c) m=some c'->c'=c/\m=n\/AH T m=some c':=fun m c' q=>by
    rw [BW] at q;split at q
    . rename_i e;cases q;exact .inl ⟨rfl,e⟩
    . exact .inr q
  refine ⟨⟨fun m c' q=>?_,fun m c' q=>?_,fun m c' q p hp=>?_,fun m c' q=>?_⟩,fun m c' q x hx=>?_,put_nd h.n⟩
  . rcases e m c' q with ⟨rfl,_⟩ | q
    . exact hl
    . exact h.c.len m c' q
  . rcases e m c' q with ⟨_,rfl⟩ | q
    . exact hn
    . exact h.c.key m c' q
  . refine wl (BW ..) ?_;split
    . exact ⟨_,rfl⟩
    . rcases e m c' q with ⟨rfl,_⟩ | q
      . exact hu p hp
      . exact h.c.up m c' q p hp
  . rcases e m c' q with ⟨rfl,_⟩ | q
    . exact ⟨hs.1,fun x hx=>(hs.2 x hx).2⟩
    . exact h.c.sl m c' q
  . rcases e m c' q with ⟨rfl,_⟩ | q
    . exact (hs.2 x hx).1
    . exact h.s m c' q x hx
theorem Ok.nil:Ok []:=⟨⟨fun Y Y h=>(by cases h),fun Y Y h=>(by cases h),fun Y Y h=>(by cases h),fun Y Y h=>(by cases h)⟩,fun Y Y h=>(by cases h),.nil⟩
theorem put_back {T:Tb} {n:Str} {c o:TC} (h:(T.map (·.1)).Nodup) (e:AH T n=some o):Ae (Ae T n c) n o=T:=by
  have hm:=mem_look e;have a:(T.any fun x=>decide (x.1=n))=true:=List.any_eq_true.mpr ⟨_,hm,decide_eq_true rfl⟩;have a2:((Ae T n c).any fun x=>decide (x.1=n))=true:=by
    have:n∈(Ae T n c).map (·.1):=by rw [put_key a];exact List.mem_map_of_mem hm
    obtain ⟨y,hy,q⟩:=List.mem_map.mp this;exact List.any_eq_true.mpr ⟨y,hy,decide_eq_true q⟩
  rw [Ae];refine wl (if_pos a2 ..) ?_;rw [Ae];refine wl (if_pos a ..) ?_;refine wl (List.map_map ..) ?_;refine (List.map_congr_left fun x hx=>?_).trans (List.map_id T);show (if (if x.1=n then (x.1,c) else x).1=n then ((if x.1=n then (x.1,c) else x).1,o) else (if x.1=n then (x.1,c) else x))=x;by_cases q:x.1=n
  . refine wl (if_pos q ..) ?_;refine wl (if_pos q ..) ?_;have:x=(n,o):=by
      have:∀ (T:Tb),(T.map (·.1)).Nodup->x∈T->(n,o)∈T->x=(n,o):=fun T=>by
        induction T with
        | nil=>intro _ h;cases h
        | cons y T ih =>
          intro nd h1 h2;replace nd:=List.map_cons▸nd;rw [List.nodup_cons] at nd;cases h1 with
          | head =>
            cases h2 with
            | head=>rfl
            | tail _ h2=>exact absurd (List.mem_map.mpr ⟨_,h2,q.symm⟩) nd.1
          | tail _ h1 =>
            cases h2 with
            | head=>exact absurd (List.mem_map.mpr ⟨_,h1,q⟩) nd.1
            | tail _ h2=>exact ih nd.2 h1 h2
      exact this T h hx hm
    exact wl (this ..) rfl
  . refine wl (if_neg q ..) ?_;exact wl (if_neg q ..) rfl
theorem put_gone {T:Tb} {n:Str} {c:TC} (e:AH T n=none):((Cm (Ae T n c)).filter fun kv => !decide (kv.1=n))=Cm T:=by
  have a:∀ x∈T,¬ x.1=n:=fun x hx q=>by obtain ⟨c,hc⟩:=look_mem (List.mem_map.mpr ⟨x,hx,q⟩);rw [e] at hc;cases hc
  have a1:¬ (T.any fun x=>decide (x.1=n))=true:=fun h=>by obtain ⟨x,hx,q⟩:=List.any_eq_true.mp h;exact a x hx (of_decide_eq_true q)
  unfold Ae Cm;refine wl (if_neg a1 ..) ?_;refine wl (List.map_append ..) ?_;refine wl (List.filter_append ..) ?_;have:(List.filter (fun kv => !decide (kv.1=n)) (List.map (fun x:Str×TC=>(x.1,tcV x.1 x.2)) [(n,c)]))=[]:=by rw [List.map_cons,List.map_nil,List.filter_cons,if_neg (by simp)];rfl
  refine wl (this ..) ?_;refine wl (List.append_nil ..) ?_;refine List.filter_eq_self.mpr fun y hy=>?_;obtain ⟨x,hx,rfl⟩:=List.mem_map.mp hy;simpa using a x hx
noncomputable def F12:List Str:=[65,66,67,68,69,70,71,72,73,74,75,58].map sc
noncomputable def asA (v1 v2 v3:V) (P:Pt):Ar:=[(some (sc 65),v1),(some (sc 58),v2),(some (sc 68),v3)]++if P=[] then [] else [(some (sc 67),prA P)]
section
variable {d:Nat} {K:KV} {X:KX} {H:Hp} {v1 v2 v3 v4:V} {tags:List (Option Str)} {as:Ar} {fs:List Str} {ps:Pl} {P:Pt}
theorem full_rep:Full (List.replicate tags.length 2) tags:=fun i hi=>.inl (by rw [List.getElem?_replicate,if_pos hi])
noncomputable def tkO (as:Ar):Option Nat->V
  | some i=>(match as[i]? with | some x=>x.2 | none=>.none)
  | none=>.none
theorem tk_map {l:List (Option Nat)} (h:fs.map (Ao ps)=l):fs.map (tkV as ps)=l.map (tkO as):=by rw [<- h,List.map_map];rfl
theorem x3:exA [some (sc 65),some (sc 58),some (sc 68)] F12 (List.replicate 3 0,[])=some (List.replicate 3 2,[(sc 65,0),(sc 68,2),(sc 58,1)]):=by decide +kernel
theorem y3:F12.foldl (poS [some (sc 65),some (sc 58),some (sc 68)]) (0,List.replicate 3 2,[(sc 65,0),(sc 68,2),(sc 58,1)])=(3,List.replicate 3 2,[(sc 65,0),(sc 68,2),(sc 58,1)]):=by decide +kernel
theorem z3:F12.map (Ao [(sc 65,0),(sc 68,2),(sc 58,1)])=[some 0,none,none,some 2,none,none,none,none,none,none,none,some 1]:=by decide +kernel
theorem x4:exA [some (sc 65),some (sc 58),some (sc 68),some (sc 67)] F12 (List.replicate 4 0,[])=some (List.replicate 4 2,[(sc 65,0),(sc 67,3),(sc 68,2),(sc 58,1)]):=by decide +kernel
theorem y4:F12.foldl (poS [some (sc 65),some (sc 58),some (sc 68),some (sc 67)]) (0,List.replicate 4 2,[(sc 65,0),(sc 67,3),(sc 68,2),(sc 58,1)])=(4,List.replicate 4 2,[(sc 65,0),(sc 67,3),(sc 68,2),(sc 58,1)]):=by decide +kernel
theorem z4:F12.map (Ao [(sc 65,0),(sc 67,3),(sc 68,2),(sc 58,1)])=[some 0,none,some 3,some 2,none,none,none,none,none,none,none,some 1]:=by decide +kernel
theorem f12_dots:∀ n∈F12,n≠sc 18:=by decide +kernel
theorem rep_ne {n:Nat}:∀ u∈List.replicate n (2:Int),u≠0:=fun u hu=>by rw [List.eq_of_mem_replicate hu];decide
theorem prA_nr (P:Pt) (a:Addr):prA P≠.ref a:=by unfold prA;split<;>exact V.noConfusion
theorem take_a (hd:6<=d) (h1:∀ a,v1≠.ref a) (h2:∀ a,v2≠.ref a) (h3:∀ a,v3≠.ref a) (hk:K (.lst [v1,.none,prA P,v3,.none,.none,.none,.none,.none,.none,.none,v2]) H):AD d (.ref 287) [arV (asA v1 v2 v3 P),ssV F12] K X H:=by
  unfold asA;by_cases e:P=[]
  . subst e;refine take_c hd (ps:=[(sc 65,0),(sc 68,2),(sc 58,1)]) ⟨Nat.le_of_ble_eq_true rfl,Nat.le_of_ble_eq_true rfl,f12_dots,⟨_,_,_,_,x3,rfl,by decide,full_rep (tags:=[some (sc 65),some (sc 58),some (sc 68)]),y3,rfl,rep_ne⟩,?_,?_⟩ ?_
    . intro x hx;show x.2<3;simp only [List.mem_cons,List.not_mem_nil,or_false] at hx;rcases hx with rfl | rfl | rfl<;>exact Nat.le_of_ble_eq_true rfl
    . intro x hx;cases hx with
      | head=>exact h1
      | tail _ hx=>cases hx with
        | head=>exact h2
        | tail _ hx=>cases hx with
          | head=>exact h3
          | tail _ hx=>cases hx
    . rw [tk_map z3];exact hk
  . refine wl (if_neg e ..) ?_;refine take_c hd (ps:=[(sc 65,0),(sc 67,3),(sc 68,2),(sc 58,1)]) ⟨Nat.le_of_ble_eq_true rfl,Nat.le_of_ble_eq_true rfl,f12_dots,⟨_,_,_,_,x4,rfl,by decide,full_rep (tags:=[some (sc 65),some (sc 58),some (sc 68),some (sc 67)]),y4,rfl,rep_ne⟩,?_,?_⟩ ?_
    . intro x hx;show x.2<4;simp only [List.mem_cons,List.not_mem_nil,or_false] at hx;rcases hx with rfl | rfl | rfl | rfl<;>exact Nat.le_of_ble_eq_true rfl
    . intro x hx;cases hx with
      | head=>exact h1
      | tail _ hx=>cases hx with
        | head=>exact h2
        | tail _ hx=>cases hx with
          | head=>exact h3
          | tail _ hx=>cases hx with
            | head=>exact prA_nr P
            | tail _ hx=>cases hx
    . rw [tk_map z4];exact hk
end
noncomputable def mkC (L:Pr) (ab:List Str) (P:Pt):TC:=⟨L,ab,L.isEmpty && ab.isEmpty && P.isEmpty,ptV P⟩
noncomputable def Dv (T:Tb) (n:Str) (L:Pr) (ab:List Str) (P:Pt):Option Str:=match Ds T n L ab with
  | some m=>some m
  | none=>prM (AO (Ae T n (mkC L ab P)) n) n P
noncomputable def fr (ri:Addr) (md:Option Q3):List Addr:=match md with | some q=>[ri,q.2.2] | none=>[ri]
def Nx (H:Hp) (md:Option Q3) (q:Q3):Prop:=md=some q\/(md=none/\H q.2.2=none)
section
variable {d:Nat} {K:KV} {X:KX} {m:Lm} {H H':Hp} {N:Lm->Hp->Prop} {R:KV} {E:KS} {ri:Addr} {b:Bool} {md:Option Q3} {T T':Tb} {q:Q3} {n:Str} {L:Pr} {ab:List Str} {P:Pt} {iv e:V}
theorem Made.put (h:Made H ri q b T):Made (upd H q.2.2 (.dct (Cm T'))) ri q b T':=by
  have g:∀ {a C:Addr} {es:List (Nat×V)},H a=some (.obj C es)->a≠q.2.2:=fun e i=>by rw [i,h.t.c] at e;cases e
  exact ⟨(AC (g h.i)).trans h.i,(AC (g h.s)).trans h.s,⟨(AC (g h.t.t)).trans h.t.t,AA ..⟩⟩
theorem Ck:∀ a∈[ri],a∈fr ri md:=fun a h=>by cases md<;>(rw [List.mem_singleton.mp h];exact .head _)
theorem Made.vis {b':Bool} (h:Made H ri q b T):Made (upd H ri (.obj 1444 (evE b' (.ref q.1)))) ri q b' T:=by
  have g:∀ {a:Addr} {v:V},H a=some v->v≠.obj 1444 (evE b (.ref q.1))->a≠ri:=fun e n i=>by rw [i,h.i] at e;cases e;exact n rfl
  exact ⟨AA ..,(AC (g h.s fun e=>by injection e with e;cases e)).trans h.s,⟨(AC (g h.t.t fun e=>by injection e with e;cases e)).trans h.t.t,(AC (g h.t.c V.noConfusion)).trans h.t.c⟩⟩
theorem Kp.i {v:V} (h:Kp H H' (fr ri md)):Kp H (Mine.upd H' ri v) (fr ri md):=h.upd (Ck _ (.head _))
theorem Kp.tc {v:V} (h:Kp H H' (fr ri md)) (x:Nx H md q):Kp H (Mine.upd H' q.2.2 v) (fr ri md):=by
  rcases x with rfl | ⟨rfl,e⟩
  . exact h.upd (.tail _ (.head _))
  . exact h.new e
theorem delD {a:Addr} {ds:List (Str×V)} {k:Str} {P:Hp->Prop} (e:H a=some (.dct ds)) (h:ds.length<=1000000) (hs:(at? ds k).isSome=true) (q:P (upd H a (.dct (ds.filter fun kv => !decide (kv.1=k))))):delI (.ref a) (.str k) P H:=by show oX (H a) _;rw [e];exact And.intro h (And.intro hs q)
noncomputable abbrev bsM (ri:Addr) (av e fv:V) (n:Str) (L:Pr) (ab:List Str) (vt:Bool) (P:Pt) (x9 x10 x11 x12:Option V):Lm:=[some (.ref ri),some av,some e,some fv,some (.str n),some (Ab L),some (ssV ab),some (.bool vt),some (.dct (ptV P)),x9,x10,x11,x12]
theorem bs_virt {av fv:V} {x9 x10 x11 x12:Option V} (hL:L.length<=3) (hab:ab.length<=2) (hP:P.length<=3) (k:vcS d none q1089_6 N R E (bsM ri av e fv n L ab (L.isEmpty && ab.isEmpty && P.isEmpty) P x9 x10 x11 x12) H) :
    vcS d none q1089_4 N R E (bsM ri av e fv n L ab false P x9 x10 x11 x12) H:=by
  dsimp [q1089_4];refine ⟨by rw [List.length_map];exact AN ‹_› (by decide),?_⟩;refine wl (List.length_map ..) ?_;cases L with
  | cons x L=>exact brE (decide_eq_false r_n0) (brF (brF k))
  | nil =>
    refine brT ⟨by rw [List.length_map];exact AN ‹_› (by decide),?_⟩;refine wl (List.length_map ..) ?_;cases ab with
    | cons x L=>exact brE (decide_eq_false r_n0) (brF (brF k))
    | nil =>
      refine brT ?_;have lp:lenV (.dct (ptV P)) (fun v H=>CG .Eq v (.int 0) (fun t=>asB (fun t H=>(t=true->vcS d none q1089_5 (fun m H=>vcS d none q1089_6 N R E m H) R E (bsM ri av e fv n [] [] false P x9 x10 x11 x12) H)/\(t=false->vcS d none q1089_6 N R E (bsM ri av e fv n [] [] false P x9 x10 x11 x12) H)) (.bool t)) H) H:=by
        refine And.intro (by unfold ptV;rw [List.length_map];exact AN ‹_› (by decide)) ?_;dsimp;cases P with
        | cons x L=>exact brE (decide_eq_false (by unfold ptV;rw [List.length_map];exact r_n0)) (brF k)
        | nil=>exact brT k
      exact lp
theorem b_setClass_c (hd:11<=d) (h:Sv H ri b md T) (ok:Ok T) (hn:isC n) (hL:L.length<=3) (hLs:∀ x∈L,isS x.1/\isK x.2) (hab:ab.length<=2) (habn:∀ p∈ab,isN p) (hv:look H iv=some (ssV ab))
    (hP:P.length<=3) (hnd:(P.map (·.1)).Nodup) (hPk:∀ x∈P,(x.2=15\/x.2=22)/\Sh x.1)
    (hk:∀ H' q es,Dv T n L ab P=none->Made H' ri q false (Ae T n (mkC L ab P))->Kp H H' (fr ri md)->Nx H md q->K (.obj 573 es) H')
    (hx:∀ H' q s,Dv T n L ab P=some s->Made H' ri q b T->Kp H H' (fr ri md)->Nx H md q->X s H') :
    AD d (.ref 1089) [.ref ri,arV (asA (vec (sc 22) [.str n] .none) (slV L) (Cb (sc 22) iv .none) P),e] K X H:=by
  refine AE f1089 AQ (m:=[some _,some _,some _,none,none,none,none,none,none,none,none,none,none]) (d0 hd rfl) rfl rfl ?_;dsimp [q1089_0];refine ⟨by decide,fun r hr=>AF hr (take_a (dle hd rfl) (fun Y=>V.noConfusion) (fun Y=>V.noConfusion) (fun Y=>V.noConfusion) ?_)⟩;dsimp [q1089_1];refine ⟨by decide,BC (dle hd rfl) ?_⟩;dsimp [q1089_2];refine ⟨dle hd rfl,by decide,by decide,by decide,class_parts_c (dle hd rfl) (AN ‹_› (by decide)) (fun x hx=>?_) (AN ‹_› (by decide)) (fun x hx=>?_) hv ?_⟩
  . rcases (hLs x hx).1 with e | e | e | e<;>rw [e]<;>exact of_decide_eq_false (dq rfl)
  . rcases habn x hx with e | e | e | e<;>rw [e]<;>exact of_decide_eq_false (dq rfl)
  dsimp [q1089_3];refine ⟨by decide,?_⟩;refine wl (cv_ok (prA_nr P) ..) ?_;dsimp;refine DL (dle hd rfl) (AN ‹_› (by decide)) hnd ?_;dsimp;refine bs_virt hL hab hP ?_;dsimp [q1089_6];refine ⟨by decide,?_⟩;dsimp [q1089_7];refine brF (brF ?_);dsimp [q1089_9];refine AB ?_;dsimp;refine BS (dle hd rfl) h fun H1 q h1 k1 x1=>?_;refine BA h1.s rfl rfl (AB ?_);dsimp [q1089_10];refine rcO1 h1.t.t mth_409_2 (get_c (dle hd rfl) h1.t ?_);refine wl (cv_ok (by cases AH T n<;>exact fun Y=>V.noConfusion) ..) ?_;dsimp [q1089_11];refine s4class_c (c:=mkC L ab P) (dle hd rfl) fun r hr=>AF hr ?_;dsimp [q1089_12];refine rcO1 h1.t.t mth_409_17 (define_c (c:=mkC L ab P) (dle hd rfl) h1.t ok.c (Nat.le_trans ok.len (by decide)) hL (fun x hx=>⟨(hLs x hx).2,(hLs x hx).1.sh⟩) hn.n habn ok.sh (fun e1=>?_) fun s e1=>?_)
  . dsimp [q1089_13];refine ⟨dle hd rfl,rfl,?_⟩;have hab0:abM T n ab=none:=by
      cases q:abM T n ab with
      | none=>rfl
      | some s=>unfold Ds at e1;rw [show (mkC L ab P).above=ab from rfl,q] at e1;cases e1
    have ok2:Ok (Ae T n (mkC L ab P)):=ok.put hn hab (abM_in hab0) ⟨hL,hLs⟩;have h2:Made (upd H1 q.2.2 (.dct (Cm (Ae T n (mkC L ab P))))) ri q b (Ae T n (mkC L ab P)):=h1.put;have k2:Kp H (upd H1 q.2.2 (.dct (Cm (Ae T n (mkC L ab P))))) (fr ri md):=(k1.mono Ck).tc x1;have hb:Dv T n L ab P=prM (AO (Ae T n (mkC L ab P)) n) n P:=by unfold Dv;rw [show Ds T n L ab=none from e1]
    dsimp [q1089_14];refine AB ?_;dsimp;refine Da (c:=mkC L ab P) (P:=P) (dle (n:=10) (dle hd rfl) rfl) h2.t ok2.c ⟨mkC L ab P,by rw [BW,if_pos rfl]⟩ hn.n.sh rfl hnd hPk (fun e2=>?_) fun s e2=>?_
    . dsimp [q1089_19];refine AB ?_;dsimp;refine generator_c (dle hd rfl) hn.n.sh fun es=>?_;dsimp;refine quiet_c (dle hd rfl) h2.i rfl ?_;exact wl (ev19p ..) (.keep (hk _ q es (hb.trans e2) h2.vis k2.i x1))
    . dsimp [q1089_15];cases e3:AH T n with
      | none=>refine brT ?_;dsimp [q1089_16];refine BA h2.t.t rfl rfl (delD (AA ..) (by rw [tab_len];have:=ok2.len;exact AN ‹_› (by decide)) (by rw [Dw,BW,if_pos rfl];rfl) ?_);refine wl (AS ..) ?_;exact wl (put_gone e3 ..) (.keep (hx _ q s (hb.trans e2) h1.put ((k1.mono Ck).tc x1) x1))
      | some o=>refine brF ?_;dsimp [q1089_17];refine BA h2.t.t rfl rfl (setD (AA ..) (by rw [tab_len];exact Bq ok2.len (by decide)) ?_);refine wl (AS ..) ?_;refine wr (tab_put ..) ?_;exact wl (put_back ok.n e3 ..) (.keep (hx _ q s (hb.trans e2) h1.put ((k1.mono Ck).tc x1) x1))
  . exact .keep (hx _ q s (by unfold Dv;rw [show Ds T n L ab=some s from e1]) h1 (k1.mono Ck) x1)
end
noncomputable abbrev txV (n:Str):V:=vec (sc 22) [.str n] .none
noncomputable abbrev fgV (b:Bool):V:=vec (sc 21) [.int (if b then 1 else 0)] .none
section
variable {d:Nat} {K:KV} {X:KX} {H:Hp} {ri:Addr} {b:Bool} {md:Option Q3} {T:Tb} {q:Q3} {n n':Str} {e:V} {its:List V}
theorem x1:exA [none] [sc 65] (List.replicate 1 0,[])=some ([0],[]):=by decide +kernel
theorem y1:[sc 65].foldl (poS [none]) (0,[0],[])=(0,[2],[(sc 65,0)]):=by decide +kernel
theorem z1:[sc 65].map (Ao [(sc 65,0)])=[some 0]:=by decide +kernel
theorem x2:exA [none,none] [sc 76,sc 77] (List.replicate 2 0,[])=some ([0,0],[]):=by decide +kernel
theorem y2:[sc 76,sc 77].foldl (poS [none,none]) (0,[0,0],[])=(1,[2,2],[(sc 76,0),(sc 77,1)]):=by decide +kernel
theorem z2:[sc 76,sc 77].map (Ao [(sc 76,0),(sc 77,1)])=[some 0,some 1]:=by decide +kernel
theorem take_1 (hd:6<=d) (hk:K (.lst [txV n]) H):AD d (.ref 287) [arV [(none,txV n)],ssV [sc 65]] K X H:=by
  refine take_c hd (ps:=[(sc 65,0)]) ⟨Nat.le_of_ble_eq_true rfl,Nat.le_of_ble_eq_true rfl,by decide +kernel,⟨_,_,_,_,x1,rfl,Nat.zero_le _,fun i hi=>.inr ?_,y1,rfl,by decide⟩,?_,?_⟩ ?_
  . have:i=0:=Nat.lt_one_iff.mp hi;subst this;rfl
  . intro x hx;rw [List.mem_singleton.mp hx];exact Nat.zero_lt_one
  . intro x hx;rw [List.mem_singleton.mp hx];exact fun Y=>V.noConfusion
  . rw [tk_map z1];exact hk
theorem take_2 (hd:6<=d) (hk:K (.lst [txV n,txV n']) H):AD d (.ref 287) [arV [(none,txV n),(none,txV n')],ssV [sc 76,sc 77]] K X H:=by
  refine take_c hd (ps:=[(sc 76,0),(sc 77,1)]) ⟨Nat.le_of_ble_eq_true rfl,Nat.le_of_ble_eq_true rfl,by decide +kernel,⟨_,_,_,_,x2,rfl,Nat.zero_le _,fun i hi=>.inr ?_,y2,rfl,by decide⟩,?_,?_⟩ ?_
  . have:i=0\/i=1:=by have:i<2:=hi;exact r_lt2 ‹_›
    rcases this with rfl | rfl<;>rfl
  . intro x hx;show x.2<2;simp only [List.mem_cons,List.not_mem_nil,or_false] at hx;rcases hx with rfl | rfl<;>exact Nat.le_of_ble_eq_true rfl
  . intro x hx;simp only [List.mem_cons,List.not_mem_nil,or_false] at hx;rcases hx with rfl | rfl<;>exact fun Y=>V.noConfusion
  . rw [tk_map z2];exact hk
theorem flag_c (hd:3<=d) (hk:K (fgV b) H):AD d (.ref 690) [.bool b] K X H:=by
  refine AE f690 AQ (m:=[some _]) (d0 hd rfl) rfl rfl ?_;dsimp [q690_0];refine brF ?_;dsimp [q690_2];have key:∀ i:Int,K (vec (sc 21) [.int i] .none) H->Ak (.lst [.int i]) (fun v H=>cv v H fun v H=>AD (d - 1) (.ref 487) [.str (sc 21),v] (fun v H=>cv v H fun v H=>drp (K v) H) (fun x H=>drp (X x) H) H) H:=fun i k r hr =>
    AF hr (Cl (dle hd rfl) fun r hr=>BH hr (.keep k))
  cases b with
  | true=>exact brT ⟨by decide,key 1 hk⟩
  | false=>exact brF ⟨by decide,key 0 hk⟩
theorem CT (hd:3<=d) (hl:its.length<=100) (hk:∀ r,H r=none->K (.ref r) (upd H r (.obj 487 [(1,.str (sc 22)),(4,.lst its),(0,.none),(22,.bool false),(23,.bool false)]))):AD d (.ref 683) [.lst its] K X H:=by refine AE f683 AQ (m:=[some _]) (d0 hd rfl) rfl rfl ?_;dsimp [q683_0];exact ⟨(AN ‹_› (by decide)),fun r hr=>AF hr (Cl (dle hd rfl) fun r hr=>AB (.keep (hk r hr)))⟩
theorem b_isVirtual_c (hd:7<=d) (h:Sv H ri b md T) (hk:∀ H' q,Made H' ri q b T->Kp H H' (fr ri md)->Nx H md q->K (fgV (match AH T n with | some c=>c.virt | none=>false)) H'):AD d (.ref 1110) [.ref ri,arV [(none,txV n)],e] K X H:=by
  refine AE f1110 AQ (m:=[some _,some _,some _,none]) (d0 hd rfl) rfl rfl ?_;dsimp [q1110_0];refine AB ?_;dsimp;refine BS (dle hd rfl) h fun H1 q h1 k1 x1=>?_;refine BA h1.s rfl rfl ?_;refine wl (rcvO h1.t.t mth_409_2 ..) ?_;refine ⟨rfl,by decide,fun r hr=>AF hr (take_1 (dle hd rfl) ?_)⟩;dsimp;refine ⟨by decide,BC (dle hd rfl) ?_⟩;dsimp;refine get_c (dle hd rfl) h1.t ?_;refine wl (cv_ok (by cases AH T n<;>exact fun Y=>V.noConfusion) ..) ?_;dsimp [q1110_1];have hk:=hk _ q h1 (k1.mono Ck) x1;cases e:AH T n with
  | none=>replace hk:=e▸hk;exact brF (flag_c (dle hd rfl) (.keep hk))
  | some c=>replace hk:=e▸hk;exact brT ⟨rfl,flag_c (dle hd rfl) (.keep hk)⟩
theorem b_isClass_c (hd:7<=d) (h:Sv H ri b md T) (hn:isN n) (hk:∀ H' q,Made H' ri q b T->Kp H H' (fr ri md)->Nx H md q->K (fgV (AH T n).isSome) H'):AD d (.ref 1117) [.ref ri,arV [(none,txV n)],e] K X H:=by refine AE f1117 AQ (m:=[some _,some _,some _]) (d0 hd rfl) rfl rfl ?_;dsimp [q1117_0];refine AB ?_;dsimp;refine BS (dle hd rfl) h fun H1 q h1 k1 x1=>?_;refine BA h1.s rfl rfl ?_;refine wl (rcvO h1.t.t mth_409_11 ..) ?_;refine ⟨rfl,by decide,fun r hr=>AF hr (take_1 (dle hd rfl) ?_)⟩;dsimp;refine ⟨by decide,BC (dle hd rfl) ?_⟩;dsimp;refine known_c (dle hd rfl) h1.t ?_;refine wl (hn.nb ..) ?_;exact wl (Bool.or_false ..) (flag_c (dle hd rfl) (.keep (hk _ q h1 (k1.mono Ck) x1)))
theorem b_extends_c (hd:7<=d) (h:Sv H ri b md T) (hc:Clo T) (hn:Kn T n) (hk:∀ H' q,Made H' ri q b T->Kp H H' (fr ri md)->Nx H md q->K (fgV (CC T n n').isSome) H'):AD d (.ref 1124) [.ref ri,arV [(none,txV n),(none,txV n')],e] K X H:=by
  refine AE f1124 AQ (m:=[some _,some _,some _,none,none,none]) (d0 hd rfl) rfl rfl ?_;dsimp [q1124_0];refine ⟨by decide,fun r hr=>AF hr (take_2 (dle hd rfl) ?_)⟩;dsimp [q1124_1];refine AB ?_;dsimp;refine BS (dle hd rfl) h fun H1 q h1 k1 x1=>?_;refine BA h1.s rfl rfl (AB ?_);dsimp [q1124_2];refine wl (rcvO h1.t.t Cu ..) ?_;refine ⟨rfl,by decide,BC (dle hd rfl) ?_⟩;dsimp;refine ⟨by decide,BC (dle hd rfl) ?_⟩;refine Cz (dle hd rfl) h1.t hc hn ?_;have hk:=hk _ q h1 (k1.mono Ck) x1;cases e:CC T n n' with
  | none=>replace hk:=e▸hk;dsimp [q1124_3];exact flag_c (dle hd rfl) (.keep hk)
  | some c=>replace hk:=e▸hk;dsimp [q1124_3];exact flag_c (dle hd rfl) (.keep hk)
end
section
variable {d:Nat} {K:KV} {X:KX} {H:Hp} {ri:Addr} {b:Bool} {md:Option Q3} {T:Tb} {q:Q3} {n n':Str} {e:V} {its:List V}
theorem slcF {xs ys:List V} {a b:Option V} (h:xs.length<=1000000) (e:cutV xs a b=some ys) (k:Ak (.lst ys) K H):slcV (.lst xs) a b K H:=by exact slcO rfl h e k
theorem Cg (hd:2<=d) (hk:K (.tup [txV n,.lst []]) H):AD d (.ref 1103) [arV [(none,txV n)],.str (sc 78)] K X H:=by refine AE f1103 AQ (m:=[some (.lst [.tup [.none,txV n]]),some (.str (sc 78)),none]) (d0 hd rfl) rfl rfl ?_;dsimp [q1103_0];refine ⟨by decide,by decide,AG (items:=[.int 0]) (dle hd rfl) ⟨trivial,?_⟩⟩;dsimp [q1103_1];refine ⟨by decide,by decide,brF ⟨trivial,?_⟩⟩;dsimp [q1103_3];refine ⟨by decide,by decide,AG (items:=[.int 0]) (dle hd rfl) ⟨trivial,?_⟩⟩;dsimp [q1103_4];refine ⟨by decide,by decide,brT (brT ?_)⟩;dsimp [q1103_5];have l1:[V.tup [.none,txV n]].length<=1000000:=Nat.le_of_ble_eq_true rfl;refine ⟨by decide,by decide,slcF (ys:=[]) l1 rfl fun r1 h1=>?_⟩;dsimp;refine slcF (ys:=[]) l1 rfl fun r2 h2=>?_;obtain ⟨n2,h2⟩:=AI h2;refine addRR ((AC (Ne.symm n2)).trans (AA ..)) (AA ..) (by decide) fun r3 h3=>AF h3 ?_;exact ⟨by decide,.to ((Sub.refl.upd h1).upd h2) hk⟩
theorem slot_rows_c (hd:7<=d) (h:Sv H ri b md T) (hc:Clo T) (hn:InT T n) (hk:∀ H' q,Made H' ri q b T->Kp H H' (fr ri md)->Nx H md q->K (Ab (AO T n)) H'):AD d (.ref 1131) [.ref ri,txV n] K X H:=by refine AE f1131 AQ (m:=[some _,some _,none]) (d0 hd rfl) rfl rfl ?_;dsimp [q1131_0];refine ⟨rfl,brE (dq rfl) (brF (BC (dle hd rfl) ?_))⟩;dsimp [q1131_1];refine AB ?_;dsimp;refine BS (dle hd rfl) h fun H1 q h1 k1 x1=>?_;refine BA h1.s rfl rfl ?_;exact rcO1 h1.t.t Cr (Cp (dle hd rfl) h1.t hc hn (.keep (hk _ q h1 (k1.mono Ck) x1)))
theorem b_slotNames_c (hd:8<=d) (h:Sv H ri b md T) (hc:Clo T) (hn:InT T n) (hk:∀ H' q,Made H' ri q b T->Kp H H' (fr ri md)->Nx H md q->K (vec (sc 22) ((AO T n).map fun x=>.str x.1) .none) H'):AD d (.ref 1136) [.ref ri,arV [(none,txV n)],e] K X H:=by
  refine AE f1136 AQ (m:=[some _,some _,some _]) (d0 hd rfl) rfl rfl ?_;have hl:=Bp hc hn;dsimp [q1136_0];refine AB ?_;dsimp;refine Cg (dle hd rfl) ?_;dsimp;refine ⟨by decide,slot_rows_c (dle hd rfl) h hc hn fun H1 q h1 k1 x1=>?_⟩;refine Br (fun v=>match v with | .tup [t,_]=>t | _=>.none) (fun Y=>true) (dle hd rfl) (by rw [List.length_map];exact AN ‹_› (by decide)) (fun v Y P h=>h) ?_ ?_ ?_
  . intro v hv _ P hP;obtain ⟨x,_,rfl⟩:=List.mem_map.mp hv;exact ⟨by decide,hP⟩
  . intro v hv _ P hP;obtain ⟨x,_,rfl⟩:=List.mem_map.mp hv;exact hP
  refine wl (flt_t ..) ?_;exact wl (List.map_map ..) (fun r hr=>AF hr (CT (dle hd rfl) (by rw [List.length_map];exact AN ‹_› (by decide)) fun r hr=>BH hr (.keep (hk _ q h1 k1 x1))))
end
section
variable {d:Nat} {K:KV} {X:KX} {H:Hp} {ri:Addr} {b:Bool} {md:Option Q3} {T:Tb} {q:Q3} {n n':Str} {e:V} {its:List V} {S:Pr} {o:V} {m:Lm} {mask:List Bool}
noncomputable def nmA (S:Pr):V:=if S=[] then .none else .dct [(sc 3,vec (sc 22) (S.map fun x=>.str x.1) .none)]
theorem Bs (hd:0<d) (hl:S.length<=100) (k:Ak (.lst (S.map fun x=>.str x.1)) K H):compV d o (S.map prV) (vcE d (.sub (.loc 0) (.cst (.int 0)))) (vcC d .nil) mask m K H:=by
  refine Br (fun v=>match v with | .tup [t,_]=>t | _=>.none) (fun Y=>true) hd (by rw [List.length_map];exact AN ‹_› (by decide)) (fun v Y P h=>h) ?_ ?_ ?_
  . intro v hv _ P hP;obtain ⟨x,_,rfl⟩:=List.mem_map.mp hv;exact ⟨by decide,hP⟩
  . intro v hv _ P hP;obtain ⟨x,_,rfl⟩:=List.mem_map.mp hv;exact hP
  refine wl (flt_t ..) ?_;exact wl (List.map_map ..) (k)
theorem comp_snd (hd:0<d) (hl:S.length<=100) (k:Ak (.lst (S.map fun x=>.str x.2)) K H):compV d o (S.map prV) (vcE d (.sub (.loc 0) (.cst (.int 1)))) (vcC d .nil) mask m K H:=by
  refine Br (fun v=>match v with | .tup [_,t]=>t | _=>.none) (fun Y=>true) hd (by rw [List.length_map];exact AN ‹_› (by decide)) (fun v Y P h=>h) ?_ ?_ ?_
  . intro v hv _ P hP;obtain ⟨x,_,rfl⟩:=List.mem_map.mp hv;exact ⟨by decide,hP⟩
  . intro v hv _ P hP;obtain ⟨x,_,rfl⟩:=List.mem_map.mp hv;exact hP
  refine wl (flt_t ..) ?_;exact wl (List.map_map ..) (k)
theorem b_getSlots_c (hd:8<=d) (h:Sv H ri b md T) (hc:Clo T) (hn:InT T n) (hk:∀ H' q,Made H' ri q b T->Kp H H' (fr ri md)->Nx H md q->K (vec (sc 22) ((AO T n).map fun x=>.str x.2) (nmA (AO T n))) H'):AD d (.ref 1141) [.ref ri,arV [(none,txV n)],e] K X H:=by
  refine AE f1141 AQ (m:=[some _,some _,some _,none,none]) (d0 hd rfl) rfl rfl ?_;have hl:=Bp hc hn;dsimp [q1141_0];refine AB ?_;dsimp;refine Cg (dle hd rfl) ?_;dsimp;refine ⟨by decide,slot_rows_c (dle hd rfl) h hc hn fun H1 q h1 k1 x1=>?_⟩;have hk:=hk _ q h1 k1 x1;generalize AO T n=S at hk hl;dsimp [q1141_1];refine comp_snd (dle hd rfl) (AN ‹_› (by decide)) fun r hr=>AF hr ?_;refine CT (dle hd rfl) (by rw [List.length_map];exact AN ‹_› (by decide)) fun r hr=>AB ?_;dsimp [q1141_2];refine ⟨by rw [List.length_map];exact AN ‹_› (by decide),?_⟩;unfold nmA at hk;cases S with
  | nil=>exact brF (BH hr (.keep hk))
  | cons x S=>refine brE (decide_eq_true (by rw [List.length_map];exact r_gp (Nat.succ_pos _))) (brT ?_);dsimp [q1141_3];refine ⟨by decide,?_⟩;refine Bs (S:=x::S) (dle hd rfl) (AN ‹_› (by decide)) fun r2 hr2=>AF hr2 ?_;refine CT (dle hd rfl) (by rw [List.length_map];exact AN ‹_› (by decide)) fun r2 hr2=>BH hr2 ?_;refine ⟨rfl,fun r3 hr3=>AF hr3 ?_⟩;refine setO rfl (AA ..) rfl ?_;exact wl (AS ..) (BH hr (.keep hk))
end
noncomputable abbrev isL (l:List Int):V:=.lst (l.map .int)
structure WOne (H:Hp) (ds:List (Str×V)) (n:Str) (c:TC):Prop where
  w:∃ es va vs,at? ds n=some (.dct es)/\at? es (sc 79)=some va/\look H va=some (ssV c.above)/\at? es (sc 58)=some vs/\look H vs=some (Ab c.slots)
structure WAt (H:Hp) (ds:List (Str×V)) (T:Tb):Prop where
  no:∀ n,AH T n=none->at? ds n=none
  one:∀ n c,AH T n=some c->WOne H ds n c
section
variable {d:Nat} {K:KV} {X:KX} {H H':Hp} {w rc:Addr} {T:Tb} {n n':Str} {cs:List Int} {most:Nat} {ds:List (Str×V)} {xs:List V} {v:V} {a:Addr} {L:Pr}
theorem popK (e:H a=some (.lst xs)) (hl:xs.length<=1000000) (h:xs.getLast?=some v) (k:K v (upd H a (.lst xs.dropLast))):Bc d (some .l) (.ref a) 1 [] K X H:=by show oX (H a) _;rw [e];refine And.intro rfl (And.intro hl ?_);rw [h];exact k
theorem rcvP (e:H a=some (.lst xs)):rcv H (.ref a) 1=some .l:=by show (H a).bind _=_;rw [e];rfl
theorem cork_c (hd:1<=d) (e:H rc=some (isL cs)) (hl:cs.length<=1000) (hm:0<most) (hk:∀ (i:Nat) cs',i<most->cs'.length<=1000->K (.int (i:Int)) (upd H rc (isL cs'))):AD d (.ref 1469) [.ref rc,.int (most:Int)] K X H:=by
  refine AE f1469 AQ (m:=[some _,some _]) (d0 hd rfl) rfl rfl ?_;dsimp [q1469_0];refine lenR e (by rw [List.length_map];exact AN ‹_› (by decide)) ?_;dsimp;refine wl (List.length_map ..) ?_;cases q:cs.getLast? with
  | none=>rw [List.getLast?_eq_none_iff] at q;subst q;refine brF (.keep ?_);have:=hk 0 [] hm (Nat.zero_le _);rwa [upd_id e] at this
  | some x =>
    have hne:0<cs.length:=by cases cs with
      | nil=>cases q
      | cons=>exact Nat.succ_pos _
    refine brE (decide_eq_true (r_gp hne)) (brT ?_);refine wl (rcvP e ..) ?_;refine ⟨rfl,popK (v:=.int x) e (by rw [List.length_map];exact AN ‹_› (by decide)) (by rw [List.getLast?_map,q];rfl) ?_⟩;dsimp;have hm':(0:Int)<most:=Int.ofNat_lt.mpr ‹_›;refine ⟨Int.ne_of_gt hm',.keep ?_⟩;have h1:=Int.fmod_nonneg_of_pos x hm';have h2:=Int.fmod_lt_of_pos x hm';have:=hk (x.fmod most).toNat cs.dropLast ((Int.toNat_lt h1).mpr h2) (by rw [List.length_dropLast];exact r_s1 ‹_› (by decide));replace this:=Int.toNat_of_nonneg h1▸this;rwa [<- List.map_dropLast]
theorem Bw (hd:3<=d) (hk:K (txV n) H):AD d (.ref 1476) [.str n] K X H:=by refine AE f1476 AQ (m:=[some _]) (d0 hd rfl) rfl rfl ?_;dsimp [q1476_0];exact ⟨by decide,fun r hr=>AF hr (Cl (dle hd rfl) fun r hr=>BH hr (.keep hk))⟩
theorem law_texts_c (hd:3<=d) (hk:K (slV L) H):AD d (.ref 1483) [.lst (L.map fun x=>.str x.2),.lst (L.map fun x=>.str x.1)] K X H:=by refine AE f1483 AQ (m:=[some _,some _]) (d0 hd rfl) rfl rfl ?_;dsimp [q1483_0];refine ⟨by decide,Cl (dle hd rfl) fun r hr=>BH hr ?_⟩;refine ⟨rfl,fun r hr=>AF hr ?_⟩;exact vec_c (dle hd rfl) fun r hr=>BH hr (.keep hk)
theorem WOne.sub {c:TC} (h:WOne H ds n c) (s:Sub H H'):WOne H' ds n c:=by obtain ⟨es,va,vs,h1,h2,h3,h4,h5⟩:=h.w;exact ⟨es,va,vs,h1,h2,CN s h3,h4,CN s h5⟩
theorem WAt.sub (h:WAt H ds T) (s:Sub H H'):WAt H' ds T:=⟨h.no,fun n c e=>(h.one n c e).sub s⟩
set_option tactic.hygienic true in
theorem Dj {o:V} {r:Addr} (h:look H o=some v) (hr:H r=none) {x y:V}:AL o (upd H r x) (upd H r y):=by
  cases o<;>first | trivial | skip
  rename_i a;replace h:=DQ▸h;have:a≠r:=fun q=>by rw [q,hr] at h;cases h
  show upd H r y a=upd H r x a;refine wl (AC this ..) ?_;exact wl (AC this ..) rfl
end
noncomputable def nms (rs:List (Str×Int)):List Str:=rs.map (·.1)
section
variable {d:Nat} {K:KV} {X:KX} {H H':Hp} {w r2:Addr} {T:Tb} {n n':Str} {ds:List (Str×V)} {xs:List V} {v:V} {a:Addr}
structure LaI (T:Tb) (i:Nat) (rs:List (Str×Int)):Prop where
  hi:i<=rs.length
  hr:RowsOk T rs
  ht:∀ x∈rs,InT T x.1
theorem LaI.add {i:Nat} {rs:List (Str×Int)} {p:Str} {k:Int} (s:LaI T i rs) (hp:InT T p) (h:p∉nms rs):LaI T i (rs++[(p,k)]) :=
  ⟨by rw [List.length_append];exact Nat.le_trans s.hi (Nat.le_add_right ..),s.hr.add (.inl hp) h,fun y hy=>(List.mem_append.mp hy).elim (s.ht y) fun hy=>by rw [List.mem_singleton.mp hy];exact hp⟩
noncomputable abbrev laM (w:Addr) (n:Str) (r2:Addr) (i:Nat) (x4:Option V):Lm:=[some (.ref w),some (.str n),some (.ref r2),some (.int (i:Int)),x4]
inductive LaJ (H:Hp) (T:Tb) (n:Str) (w r2:Addr) (tot:List (Str×Int)):Nat->Lm->Hp->Prop
  | mk (i:Nat) (rs:List (Str×Int)) (x4:Option V) (s:LaI T i rs) (hb:bfs (Aj T) (8 - i) i rs=tot):LaJ H T n w r2 tot (8 - i) (laM w n r2 i x4) (upd H r2 (ssV (nms rs)))
theorem nms_get {rs:List (Str×Int)} {i:Nat} {x:Str×Int} (h:rs[i]?=some x):((nms rs).map V.str)[i]?=some (.str x.1):=by unfold nms;rw [List.getElem?_map,List.getElem?_map,h];rfl
theorem nms_len {rs:List (Str×Int)}:((nms rs).map V.str).length=rs.length:=by unfold nms;rw [List.length_map,List.length_map]
theorem WAt.has {K:Bool->Hp->Prop} (h:WAt H ds T) (e:H w=some (.dct ds)) (k:K (AH T n).isSome H):oB (Dn (.ref w) (.str n) H) K H:=by
  refine inD e ?_;cases q:AH T n with
  | none=>rw [q] at k;rw [h.no n q];exact k
  | some c=>rw [q] at k;obtain ⟨es,va,vs,h1,_⟩:=(h.one n c q).w;rw [h1];exact k
section
variable {N:Lm->Hp->Prop} {R:KV} {E:KS} {i j:Nat} {k:Int} {tot rs:List (Str×Int)} {o:V} {H0:Hp} {x4:Option V}
theorem la_in (st:∀ v,AL o H0 (upd H r2 v)) (hc:Clo T) (h:∀ x4,LaI T j tot->N (laM w n r2 i x4) (upd H r2 (ssV (nms tot)))) {ps:List Str} (hp:∀ p∈ps,InT T p) (s:LaI T j rs) (hf:ps.foldl (BN k) rs=tot) :
    AX d none (.one 4) q1490_4 o H0 N R E (ps.map .str) (laM w n r2 i x4) (upd H r2 (ssV (nms rs))):=by
  induction ps generalizing rs x4 with
  | nil=>cases hf;exact Ay (st _) (h _ s)
  | cons p ps ih =>
    refine Az (st _) fun M hM=>?_;have np:=(hp p (.head _)).any hc;have hp':=fun q hq=>hp q (.tail _ hq);replace hf:=List.foldl_cons▸hf;dsimp [q1490_4];refine inL (AA ..) ?_;by_cases ep:p∈nms rs
    . rw [BN,if_pos (.inr ep)] at hf;exact wl (List.contains_iff_mem.mpr ep ..) (brF (hM _ _ (ih hp' s hf)))
    . rw [BN,if_neg fun q=>q.elim np ep] at hf;refine wl (show (nms rs).contains p=false from by simpa using ep) ?_;refine brT ?_;dsimp [q1490_5];refine apL1 (AA ..) (by rw [nms_len];exact Nat.lt_of_le_of_lt (s.hr.len hc) (by decide)) rfl ?_;rw [AS,show ((nms rs).map V.str)++[V.str p]=(nms (rs++[(p,k)])).map .str from by unfold nms;rw [List.map_append,List.map_append];rfl];exact hM _ _ (ih hp' (s.add (hp p (.head _)) ep) hf)
theorem la_while (hd:1<=d) (e:H w=some (.dct ds)) (hw:WAt H ds T) (hc:Clo T) (hr2:H r2=none) (h:∀ i x4,N (laM w n r2 i x4) (upd H r2 (ssV (nms tot)))) (s:LaI T i rs) (hb:bfs (Aj T) (8 - i) i rs=tot) :
    whlP d none (.cmp .Lt (.loc 3) (.len (.loc 2))) q1490_3 N R E (laM w n r2 i x4) (upd H r2 (ssV (nms rs))):=by
  refine whl_by (LaJ H T n w r2 tot) _ (.mk i rs x4 s hb) ?_;rintro k m H' ⟨i,rs,x4,s,hb⟩;have hl:=s.hr.len hc;dsimp;refine lenR (AA ..) (by rw [nms_len];exact AN ‹_› (by decide)) ?_;refine wl (nms_len ..) ?_;by_cases lt:i<rs.length
  . refine brE (decide_eq_true (Int.ofNat_lt.mpr lt)) (brT ?_);have l8:=Nat.lt_of_lt_of_le lt hl;have l63:i<2 ^ 63:=Nat.lt_of_lt_of_le l8 (by decide);obtain ⟨x,hx⟩:∃ x,rs[i]?=some x:=⟨_,List.getElem?_eq_getElem lt⟩
    have sb:Sub H (upd H r2 (ssV (nms rs))):=Sub.refl.upd hr2;have ix:=s.ht x (List.mem_of_getElem? hx);obtain ⟨c,hcx⟩:=ix;obtain ⟨es,va,vs,h1,h2,h3,_⟩:=(hw.one _ c hcx).w;dsimp [q1490_3];refine subR (AA ..) l63 (nms_get hx) ?_;dsimp;refine (hw.sub sb).has (sb _ _ e) ?_;refine wl (hcx ..) ?_;refine brT (subR (AA ..) l63 (nms_get hx) (subD (sb _ _ e) h1 ?_));dsimp;refine wl (h2 ..) ?_;dsimp;refine wl (srcG (CN sb h3) ..) ?_;have hpar:Aj T x.1=c.above:=by unfold Aj;rw [hcx]
    refine AG (d0 hd rfl) (la_in (j:=i+1) (k:=x.2+1) (fun v=>Dj h3 hr2) hc (fun x4 s'=>?_) (hpar▸InT.par hc ⟨c,hcx⟩) {s with hi:=lt} rfl);dsimp [q1490_6];refine ⟨8 - (i+1),r_sl l8,.mk _ _ _ s' ?_⟩;refine wr (hb ..) ?_;refine wl (r_sd l8 ..) ?_;rw [bfs];refine wl (hx ..) ?_;dsimp only [BE];exact wl (hpar ..) rfl
  . rw [bfs_end (Nat.le_of_not_lt lt)] at hb;cases hb;exact brE (decide_eq_false fun q=>lt (Int.ofNat_lt.mp q)) (brF (h _ _))
end
theorem CP (hd:2<=d) (e:H w=some (.dct ds)) (hw:WAt H ds T) (hc:Clo T) (hn:InT T n) (hk:K (ssV (nms (upM T n))) H):AD d (.ref 1490) [.ref w,.str n] K X H:=by refine AE f1490 AQ (m:=[some (.ref w),some (.str n),none,none,none]) (d0 hd rfl) rfl rfl ?_;dsimp [q1490_0];refine ⟨by decide,fun r2 hr2=>AB ?_⟩;dsimp [q1490_1,q1490_2];refine la_while (i:=0) (rs:=[(n,0)]) (tot:=upM T n) (dle hd rfl) e hw hc hr2 (fun i x4=>?_) ⟨Nat.zero_le _,one_ok (.inl hn),fun x hx=>by rw [List.mem_singleton.mp hx];exact hn⟩ rfl;dsimp [q1490_7];exact BX (AA ..) (Sub.refl.upd hr2) hr2 hk
end
section
variable {d:Nat} {K:KV} {X:KX} {H H':Hp} {w r2:Addr} {T:Tb} {n n':Str} {ds:List (Str×V)} {xs:List V} {v o:V} {a:Addr}
set_option tactic.hygienic true in
theorem Kp.look (h:Kp H H' [r2]) (hr:H r2=none) (e:look H o=some v):look H' o=some v:=by
  cases o<;>first | exact e | skip
  rename_i b;rw [DQ] at e ⊢;exact h _ _ (fun q=>by rw [List.mem_singleton.mp q,hr] at e;cases e) e
theorem Kp.sub (h:Kp H H' [r2]) (hr:H r2=none):Sub H H':=fun b v e=>h _ _ (fun q=>by rw [List.mem_singleton.mp q,hr] at e;cases e) e
set_option tactic.hygienic true in
theorem stays_look {H0:Hp} (e:look H o=some v) (h:Sub H H0) (h':Sub H H'):AL o H0 H':=by
  cases o<;>first | trivial | skip
  rename_i b;show H' b=H0 b;refine wl (h _ _ e ..) ?_;exact wl (h' _ _ e ..) rfl
noncomputable abbrev lsA (w:Addr) (n:Str) (r2:Addr) (x3 x4 x5:Option V):Lm:=[some (.ref w),some (.str n),some (.ref r2),x3,x4,x5]
section
variable {N:Lm->Hp->Prop} {R:KV} {E:KS} {acc ps tot:Pr} {ns:List (Str×Int)} {ws:List V} {H0 H1:Hp} {x3 x4 x5:Option V}
theorem ls_in (hd:0<d) (hr2:H r2=none) (h5:look H o=some v) (s0:Sub H H0) (h:∀ H' x4 x5,Kp H H' [r2]->H' r2=some (Ab tot)->N (lsA w n r2 x3 x4 x5) H') (hk:Kp H H1 [r2]) (hr:H1 r2=some (Ab acc)) (hl:acc.length+ps.length<=100) (hf:ps.foldl Ce acc=tot) :
    AX d none (.two 4 5) q1495_3 o H0 N R E (ps.map prV) (lsA w n r2 x3 x4 x5) H1:=by
  induction ps generalizing acc H1 x4 x5 with
  | nil=>cases hf;exact Ay (stays_look h5 s0 (hk.sub hr2)) (h _ _ _ hk hr)
  | cons p ps ih =>
    refine Az (stays_look h5 s0 (hk.sub hr2)) fun M hM=>?_;replace hl:=List.length_cons▸hl;replace hf:=List.foldl_cons▸hf;dsimp [q1495_3];refine wl (Co hr ..) ?_;dsimp only [BE];refine Bs hd (r_pl hl (by decide)) fun r4 hr4=>?_;have g4:r2≠r4:=fun q=>by rw [<- q,hr] at hr4;cases hr4
    have k4:Kp H (upd H1 r4 (.lst (acc.map fun x=>.str x.1))) [r2]:=fun b v nb eb=>by have:=hk b v nb eb;rw [AC (fun q=>by rw [q,hr4] at this;cases this)];exact this
    have g2:upd H1 r4 (.lst (acc.map fun x=>.str x.1)) r2=some (Ab acc):=(AC g4).trans hr;refine inL (l:=acc.map (·.1)) (by rw [AA,List.map_map];rfl) ?_;by_cases ep:p.1∈acc.map (·.1)
    . rw [Ce] at hf;replace hf:=if_pos ep▸hf;exact wl (List.contains_iff_mem.mpr ep ..) (brF (hM _ _ (ih k4 g2 (r_p hl) hf)))
    . rw [Ce] at hf;replace hf:=if_neg ep▸hf;refine wl (show (acc.map (·.1)).contains p.1=false from by simpa using ep) ?_;refine brT ?_;dsimp [q1495_4];refine wl (CF g2 ..) ?_;refine ⟨rfl,by decide,CH g2 (by rw [List.length_map];exact r_pt hl (by decide)) ?_⟩;refine hM _ _ (ih (k4.upd (.head _)) ?_ (by rw [List.length_append];exact r_p1 hl) hf);rw [AA];exact congrArg (fun l=>some (V.lst l)) (List.map_append (f:=prV) (l₁:=acc) (l₂:=[p])).symm
theorem ls_out (hd:0<d) (e:H w=some (.dct ds)) (hw:WAt H ds T) (hc:Clo T) (hr2:H r2=none) (h:∀ H' x3 x4 x5,Kp H H' [r2]->H' r2=some (Ab tot)->N (lsA w n r2 x3 x4 x5) H') (ht:∀ x∈ns,InT T x.1) (hk:Kp H H1 [r2]) (hr:H1 r2=some (Ab acc)) (hl:acc.length+3 * ns.length<=30) (hf:slF T acc ns=tot) :
    AX d none (.one 3) q1495_2 (.lst ws) H0 N R E ((nms ns).map .str) (lsA w n r2 x3 x4 x5) H1:=by
  induction ns generalizing acc H1 x3 x4 x5 with
  | nil=>cases hf;exact Ay trivial (h _ _ _ _ hk hr)
  | cons x ns ih=>refine Az trivial fun M hM=>?_;obtain ⟨c,hcx⟩:=ht x (.head _);obtain ⟨es,va,vs,h1,_,_,h4,h5⟩:=(hw.one _ c hcx).w;dsimp [q1495_2];refine subD (hk.sub hr2 _ _ e) h1 ?_;dsimp;refine wl (h4 ..) ?_;dsimp;refine wl (srcG (hk.look hr2 h5) ..) ?_;replace hl:=List.length_cons▸hl;have hcl:=(hc.sl _ c hcx).1;refine AG hd (ls_in hd hr2 h5 (hk.sub hr2) (fun H' x4 x5 k r=>hM _ _ (ih (fun y hy=>ht y (.tail _ hy)) k r (r_st hl (addS_len (ps:=c.slots) (acc:=acc)) hcl) ?_)) hk hr (r_sq hl hcl (by decide)) rfl);refine wr (hf ..) ?_;rw [slF,slF];refine wl (List.foldl_cons ..) ?_;exact wl (show slR T x.1=c.slots by unfold slR;rw [hcx]) rfl
end
theorem CO (hd:3<=d) (e:H w=some (.dct ds)) (hw:WAt H ds T) (hc:Clo T) (hn:InT T n) (hk:K (Ab (AO T n)) H):AD d (.ref 1495) [.ref w,.str n] K X H:=by refine AE f1495 AQ (m:=[some (.ref w),some (.str n),none,none,none,none]) (d0 hd rfl) rfl rfl ?_;dsimp [q1495_0];refine ⟨by decide,fun r2 hr2=>AB ?_⟩;dsimp [q1495_1];refine AB ?_;dsimp;have sb:Sub H (upd H r2 (.lst [])):=Sub.refl.upd hr2;refine CP (dle hd rfl) (sb _ _ e) (hw.sub sb) hc hn ?_;dsimp;have hl:=(up_ok hc (.inl hn)).len hc;exact AG (dle hd rfl) (ls_out (acc:=[]) (dle hd rfl) e hw hc hr2 (fun H' x3 x4 x5 k r=>BX r (k.sub hr2) hr2 hk) (up_in hc hn) (Kp.refl.upd (.head _)) (AA ..) (r_mul hl (by decide)) rfl)
end
theorem s43:sc 43=sc 80++sc 52:=by decide +kernel
theorem s81:sc 81=sc 60++sc 52:=by decide +kernel
theorem s82:sc 82=sc 44++sc 61:=by decide +kernel
theorem s83:sc 83=sc 62++sc 52:=by decide +kernel
theorem s85:sc 84++sc 85=sc 44++sc 63:=by decide +kernel
section
variable {d:Nat} {K:KV} {X:KX} {H H':Hp} {w rL ra rp r7:Addr} {T:Tb} {n p s t:Str} {ds:List (Str×V)} {xs:List V} {v o:V} {a:Addr} {m:Lm} {e f:Mine.X} {k:Nat} {N:Lm->Hp->Prop} {R:KV} {E:KS} {ab:List Str} {L PP:Pr} {x5 x6 x7 x8 x9 x10 x11:Option V}
theorem mGone_eq:mGone p n=sc 42++p++sc 80++sc 52++n++sc 44:=by simp only [mGone,DB,Str.empty_append,s43,Str.append_assoc]
theorem mOwn_eq:mOwn n=sc 45++n++sc 46:=by simp only [mOwn,DB,Str.empty_append]
theorem mRep_eq:mRep s n=sc 48++s++sc 49++n++sc 44:=by simp only [mRep,DB,Str.empty_append]
theorem mClash_eq:mClash s n p=sc 50++s++sc 49++n++sc 51++p++sc 44:=by simp only [mClash,DB,Str.empty_append]
theorem mHas_eq:mHas n s=sc 81++n++sc 82++sc 52++s++sc 44:=by simp only [mHas,DB,Str.empty_append,s81,s82,Str.append_assoc]
theorem mKind_eq:mKind n s=sc 83++n++sc 84++sc 85++s:=by simp only [mKind,DB,Str.empty_append,s83,Str.append_assoc];rw [<- Str.append_assoc (sc 84),s85,Str.append_assoc]
structure Sg (d:Nat) (X:KX) (m:Lm) (H:Hp) (e:Mine.X) (k:Nat) (s:Str):Prop where
  h:∀ K:KV,K (.str s) H->vcE d e K X m H
  l:s.length<=300 * k
theorem Sg.lit {i:Nat} (h:Nat.blt i 97=true):Sg d X m H (.cst (.str (sc i))) 1 (sc i):=⟨fun Y k=>k,Sh.sc h⟩
theorem Sg.loc {i:Nat} (e:m[i]?=some (some (.str s))) (h:s.length<=300 * k):Sg d X m H (.loc i) k s:=⟨fun Y k=>by rw [Df,e];exact k,h⟩
theorem Sg.add {k':Nat} (h:Sg d X m H e k s) (h':Sg d X m H f k' t) (hl:Nat.ble (k+k') 1000=true):Sg d X m H (.bin .Add e f) (k+k') (s++t):=by have h3:s.length+t.length<=300 * (k+k'):=Nat.mul_add 300 k k'▸Nat.add_le_add h.l h'.l;exact ⟨fun K q=>by rw [E_bin];exact h.h _ (h'.h _ ⟨Nat.le_trans h3 (Nat.le_trans (Nat.mul_le_mul_left 300 (Nat.le_of_ble_eq_true hl)) (by decide)),q⟩),by rw [Str.length_append];exact h3⟩
theorem Sg.ret (h:Sg d (fun x H=>E x m H) m H e k s) (q:R (.str s) H):vcS d none (.seq (.ret e) .skip) N R E m H:=by rw [De,S_ret];exact h.h _ q
theorem len3 {a b c:Str} (ha:Sh a) (hb:Sh b) (hc:Sh c):(a++b++c).length<=300 * 3:=by unfold Sh at ha hb hc;rw [Str.length_append,Str.length_append];exact r_3 ‹_› ‹_› ‹_› (by decide)
noncomputable abbrev faM (w:Addr) (n:Str) (rL ra rp:Addr) (x5 x6 x7 x8 x9 x10 x11:Option V):Lm:=[some (.ref w),some (.str n),some (.ref rL),some (.ref ra),some (.ref rp),x5,x6,x7,x8,x9,x10,x11]
theorem fa_1 (hd:3<=d) (e:H w=some (.dct ds)) (hw:WAt H ds T) (hc:Clo T) (hn:Sh n) (hab:∀ p∈ab,Sh p) (hR:∀ s,abM T n ab=some s->R (.str s) H) (hN:abM T n ab=none->∀ x5 x6,N (faM w n rL ra rp x5 x6 x7 x8 x9 x10 x11) H) :
    frsP d none (.one 5) q1502_1 (.ref ra) (ab.map .str) N R E (faM w n rL ra rp x5 x6 x7 x8 x9 x10 x11) H:=by
  refine AG (d0 hd rfl) ?_;generalize h:abM T n ab=o at hR hN
  induction ab generalizing x5 x6 with
  | nil=>exact Ay rfl (hN h.symm _ _)
  | cons p l ih =>
      refine Az rfl fun M hM=>?_;replace h:=Dd▸h;have hp:=hab p (.head _);dsimp [q1502_1];refine hw.has e ?_;cases q:AH T p with
      | none=>replace h:=q▸h;refine brT ?_;unfold q1502_2;refine wl (De ..) ?_;refine wl (S_asg ..) ?_;refine Sg.h (Sg.add (.add (.lit rfl) (.loc (k:=1) rfl hp) rfl) (.lit rfl) rfl) _ ?_;unfold q1502_3;refine Sg.ret (N:=N) (s:=mGone p n) (k:=6) ?_ (hR _ h.symm);exact wl (mGone_eq ..) (.add (.add (.add (.loc (k:=3) rfl (len3 (Sh.sc rfl) hp (Sh.sc rfl))) (.lit rfl) rfl) (.loc (k:=1) rfl hn) rfl) (.lit rfl) rfl)
      | some c =>
        replace h:=q▸h;dsimp only [Option.isNone] at h;replace h:=if_neg Bool.false_ne_true▸h;refine brF ?_;dsimp [q1502_4];by_cases ep:p=n
        . refine brE (decide_eq_true ep) (brT (brT ?_));rw [if_pos (.inl ep)] at h;refine Sg.ret (N:=N) (s:=mOwn n) (k:=3) ?_ (hR _ h.symm);exact wl (mOwn_eq ..) (.add (.add (.lit rfl) (.loc (k:=1) rfl hn) rfl) (.lit rfl) rfl)
        . refine brE (decide_eq_false ep) (brF (AB ?_));dsimp;refine CP (Nat.le_trans (by decide) hd) e hw hc ⟨c,q⟩ ?_;dsimp;refine wl (strs_map ..) ?_;dsimp only [Option.map,oB_some];by_cases en:n∈nms (upM T p)
          . rw [if_pos (.inr en)] at h;refine wl (show (nms (upM T p)).contains n=true from by simpa using en ..) ?_;refine brT ?_;refine Sg.ret (N:=N) (s:=mOwn n) (k:=3) ?_ (hR _ h.symm);exact wl (mOwn_eq ..) (.add (.add (.lit rfl) (.loc (k:=1) rfl hn) rfl) (.lit rfl) rfl)
          . rw [if_neg (fun q=>q.elim ep en)] at h;refine wl (show (nms (upM T p)).contains n=false from by simpa using en) ?_;exact brF (hM _ _ (ih (fun q hq=>hab q (.tail _ hq)) h))
end
section
variable {d:Nat} {H H':Hp} {w rL ra rp r7:Addr} {T:Tb} {n p s t:Str} {ds:List (Str×V)} {N:Lm->Hp->Prop} {R:KV} {E:KS} {ab:List Str} {L PP:Pr} {x5 x6 x7 x8 x9 x10 x11:Option V}
theorem fa_2 (hd:1<=d) (hL:H rL=some (Ab L)) (h7:H r7=none) (hn:Sh n) (hl:L.length<=3) (hs:∀ x∈L,Sh x.1) (hR:∀ s v,Cc n [] L=some s->R (.str s) (upd H r7 v)) (hN:Cc n [] L=none->∀ x8 x9,N (faM w n rL ra rp x5 x6 (some (.ref r7)) x8 x9 x10 x11) (upd H r7 (.dct (prD L)))) :
    frsP d none (.two 8 9) q1502_8 (.ref rL) (L.map prV) N R E (faM w n rL ra rp x5 x6 (some (.ref r7)) x8 x9 x10 x11) (upd H r7 (.dct [])):=by
  generalize ho:Cc n [] L=o at hR hN;refine AG (d0 hd rfl) ((?_:∀ ps seen x8 x9,Cc n seen ps=o->seen++ps=L->AX d none (.two 8 9) q1502_8 (.ref rL) _ N R E (ps.map prV) (faM w n rL ra rp x5 x6 (some (.ref r7)) x8 x9 x10 x11) (upd H r7 (.dct (prD seen)))) L [] _ _ ho rfl);clear ho;intro ps
  induction ps with
  | nil=>intro seen x8 x9 hf ha;rw [List.append_nil] at ha;subst ha;exact Ay (Dj (o:=.ref rL) hL h7) (hN hf.symm _ _)
  | cons x ps ih =>
      intro seen x8 x9 hf ha;refine Az (Dj (o:=.ref rL) hL h7) fun M hM=>?_;have hx:Sh x.1:=hs x (by rw [<- ha];exact List.mem_append.mpr (.inr (.head _)));have hsl:seen.length<=L.length:=by rw [<- ha,List.length_append];exact Nat.le_add_right _ _
      rw [Dk] at hf;dsimp [q1502_8];refine inD (AA ..) ?_;rw [Bg,Option.isSome_map,lookP_none];by_cases e:x.1∈seen.map (·.1)
      . rw [if_pos e] at hf;refine brE (decide_eq_true e) (brT ?_);refine Sg.ret (N:=N) (s:=mRep x.1 n) (k:=5) ?_ (hR _ _ hf.symm);rw [mRep_eq];exact .add (.add (.add (.add (.lit rfl) (.loc (k:=1) rfl hx) rfl) (.lit rfl) rfl) (.loc (k:=1) rfl hn) rfl) (.lit rfl) rfl
      . rw [if_neg e] at hf;refine brE (decide_eq_false e) (brF ?_);dsimp [q1502_10];refine setD (AA ..) (by unfold prD;rw [List.length_map];exact Bq (Nat.le_trans hsl ‹_›) (by decide)) ?_;rw [AS,prD_put e];exact hM _ _ (ih _ _ _ hf (by rw [List.append_assoc];exact ha))
theorem fa_4 {q:Pr} {ws:List V} (hd:1<=d) (h7:H r7=some (.dct (prD L))) (hn:Sh n) (hp:Sh p) (hq:∀ x∈q,Sh x.1) (hR:∀ s,clP n L p q=some s->R (.str s) H) (hN:clP n L p q=none->∀ x8 x9,N (faM w n rL ra rp (some (.str p)) x6 (some (.ref r7)) x8 x9 x10 x11) H) :
    frsP d none (.two 8 9) q1502_13 (.lst ws) (q.map prV) N R E (faM w n rL ra rp (some (.str p)) x6 (some (.ref r7)) x8 x9 x10 x11) H:=by
  generalize hf:clP n L p q=o at hR hN;refine AG (d0 hd rfl) ?_
  induction q generalizing x8 x9 with
  | nil=>exact Ay trivial (hN hf.symm _ _)
  | cons x ps ih =>
      refine Az trivial fun M hM=>?_;have nx:=fun h=>hM _ _ (ih (x8:=some (.str x.1)) (x9:=some (.str x.2)) (fun y hy=>hq y (.tail _ hy)) h);rw [clP] at hf;dsimp [q1502_13];refine inD h7 ?_;refine wl (Bg ..) ?_;refine wl (Option.isSome_map ..) ?_;cases e:CA L x.1 with
      | none=>rw [e] at hf;exact brF (brF (nx hf))
      | some k =>
        replace hf:=e▸hf;dsimp only at hf;refine brT (subD h7 (by rw [Bg,e];rfl) ?_);dsimp;by_cases e1:k=x.2
        . rw [if_neg (fun q=>q.1 e1)] at hf;exact brE (congrArg not (decide_eq_true e1)) (brF (brF (nx hf)))
        . refine brE (congrArg not (decide_eq_false e1)) (brT ?_);by_cases e2:x.2=sc 26
          . rw [if_neg (fun q=>q.2 e2)] at hf;exact brE (congrArg not (decide_eq_true e2)) (brF (nx hf))
          . rw [if_pos ⟨e1,e2⟩] at hf;refine brE (congrArg not (decide_eq_false e2)) (brT ?_);refine Sg.ret (N:=N) (s:=mClash x.1 n p) (k:=7) ?_ (hR _ hf.symm);exact wl (mClash_eq ..) (.add (.add (.add (.add (.add (.add (.lit rfl) (.loc (k:=1) rfl (hq x (.head _))) rfl) (.lit rfl) rfl) (.loc (k:=1) rfl hn) rfl) (.lit rfl) rfl) (.loc (k:=1) rfl hp) rfl) (.lit rfl) rfl)
theorem fa_3 (hd:4<=d) (e:H w=some (.dct ds)) (hw:WAt H ds T) (hc:Clo T) (hT:∀ p,∀ x∈AO T p,Sh x.1) (h7:H r7=some (.dct (prD L))) (hn:Sh n) (hi:∀ p∈ab,InT T p/\Sh p) (hR:∀ s,clM T n L ab=some s->R (.str s) H) (hN:clM T n L ab=none->∀ x5 x8 x9,N (faM w n rL ra rp x5 x6 (some (.ref r7)) x8 x9 x10 x11) H) :
    frsP d none (.one 5) q1502_12 (.ref ra) (ab.map .str) N R E (faM w n rL ra rp x5 x6 (some (.ref r7)) x8 x9 x10 x11) H:=by
  generalize hf:clM T n L ab=o at hR hN;refine AG (d0 hd rfl) ?_
  induction ab generalizing x5 x8 x9 with
  | nil=>exact Ay rfl (hN hf.symm _ _ _)
  | cons p ps ih =>
      refine Az rfl fun M hM=>?_;rw [clM] at hf;dsimp [q1502_12];refine AB ?_;dsimp;refine CO (Nat.le_trans (by decide) hd) e hw hc (hi p (.head _)).1 ?_;refine fa_4 (d0 hd rfl) h7 hn (hi p (.head _)).2 (hT p) (fun s h=>?_) fun h x8 x9=>?_
      . rw [h] at hf;exact hR s hf.symm
      . rw [h] at hf;exact hM _ _ (ih (fun q hq=>hi q (.tail _ hq)) hf)
end
noncomputable def pk (x:Str×Nat):Str×Str:=(x.1,sc (if x.2=15 then 17 else 22))
theorem pairs_prD:∀ S:Pr,Bh (S.map prV)=some (prD S)
  | []=>rfl
  | x::S=>by show (Bh (S.map prV)).map _=_;rw [pairs_prD S];rfl
theorem puts_prD:∀ {S acc:Pr},((acc++S).map (·.1)).Nodup->Cq (prD acc) (prD S)=prD (acc++S)
  | [],acc,_=>by rw [List.append_nil];rfl
  | x::S,acc,h=>by
    show Cq (put (prD acc) x.1 (.str x.2)) (prD S)=_;have hx:x.1∉acc.map (·.1):=fun hx=>by rw [List.map_append,List.nodup_append] at h;exact h.2.2 _ hx _ (.head _) rfl
    rw [prD_put hx,puts_prD (by rw [List.append_assoc];exact h),List.append_assoc];rfl
theorem cs_any {i:Nat} {k:Str} (h:i=15\/i=22) (hk:isK k):((csM i).any fun y=>decide (y.1=k))=[sc 26,sc (if i=15 then 17 else 22)].contains k:=by rcases h with rfl | rfl<;>rcases hk with rfl | rfl | rfl<;>decide +kernel
section
variable {d:Nat} {K:KV} {H H':Hp} {w rL ra rp r7:Addr} {T:Tb} {n p s t:Str} {ds:List (Str×V)} {N:Lm->Hp->Prop} {R:KV} {E:KS} {ab:List Str} {L S:Pr} {P:Pt} {c:TC} {x5 x6 x7 x8 x9 x10 x11:Option V}
theorem mkdF (hn:(S.map (·.1)).Nodup) (hl:S.length<=1000) (k:Ak (.dct (prD S)) K H):mkdV (Ab S) K H:=by show _/\oX (Bh (S.map prV)) _;refine wl (pairs_prD ..) ?_;refine wl (BE ..) ?_;exact wl (show Cq [] (prD S)=prD S from puts_prD (acc:=[]) hn ..) (⟨by rw [List.length_map];exact AN ‹_› (by decide),k⟩)
theorem mkdR {a:Addr} (e:H a=some (.dct ds)) (hl:ds.length<=1000) (k:Ak (.dct ds) K H):mkdV (.ref a) K H:=by show oX (H a) _;exact wl (e ..) (And.intro (AN hl (by decide)) k)
theorem WAt.put (h:WAt H ds T) {vs va:V} {tl:List (Str×V)} (hs:look H vs=some (Ab c.slots)) (ha:look H va=some (ssV c.above)):WAt H (put ds n (.dct ((sc 58,vs)::(sc 79,va)::tl))) (Ae T n c):=by
  refine ⟨fun m q=>?_,fun m c' q=>?_⟩
  . rw [BW] at q;split at q
    . cases q
    . rename_i e;rw [Bl,if_neg e];exact h.no m q
  . rw [BW] at q;split at q
    . rename_i e;cases q;refine ⟨_,va,vs,by rw [Bl,if_pos e],?_,ha,?_,hs⟩
      . refine wl (Af ..) ?_;refine wl (if_neg (of_decide_eq_false (dq rfl)) ..) ?_;refine wl (Af ..) ?_;exact wl (if_pos rfl ..) rfl
      . refine wl (Af ..) ?_;exact wl (if_pos rfl ..) rfl
    . rename_i e;obtain ⟨es,va,vs,h1,h2⟩:=(h.one m c' q).w;exact ⟨es,va,vs,by rw [Bl,if_neg e];exact h1,h2⟩
theorem fa_5 (hd:1<=d) (hp:H rp=some (Ab (P.map pk))) (hn:Sh n) (hS:∀ x∈S,isK x.2) (hi:∀ x∈P,(x.2=15\/x.2=22)/\Sh x.1) (hR:∀ H' s,Sub H H'->prM S n P=some s->R (.str s) H') (hN:∀ H' x6 x8 x9,Sub H H'->prM S n P=none->N (faM w n rL ra rp x5 x6 x7 x8 x9 x10 (some (.dct (prD S)))) H') :
    frsP d none (.two 8 9) q1502_19 (.ref rp) (P.map fun x=>prV (pk x)) N R E (faM w n rL ra rp x5 x6 x7 x8 x9 x10 (some (.dct (prD S)))) H:=by
  generalize hf:prM S n P=o at hR hN;refine AG (d0 hd rfl) ?_;refine (?_:∀ x6 x8 x9 H',Sub H H'->AX d none (.two 8 9) q1502_19 (.ref rp) H N R E (P.map fun x=>prV (pk x)) (faM w n rL ra rp x5 x6 x7 x8 x9 x10 (some (.dct (prD S)))) H') _ _ _ _ .refl;generalize P.map pk=l at hp
  induction P with
  | nil=>exact fun x6 x8 x9 H' s=>Ay ((s _ _ hp).trans hp.symm) (hN _ _ _ _ s hf.symm)
  | cons x ps ih =>
      intro x6 x8 x9 H' s;refine Az ((s _ _ hp).trans hp.symm) fun M hM=>?_;obtain ⟨hx1,hx2⟩:=hi x (.head _);rw [prM] at hf;dsimp [q1502_19];refine wl (show (pk x).1=x.1 from rfl ..) ?_;refine wl (Bg ..) ?_;refine wl (Option.isSome_map ..) ?_;cases e:CA S x.1 with
      | none=>replace hf:=e▸hf;refine brT ?_;unfold q1502_20;refine wl (De ..) ?_;refine wl (S_asg ..) ?_;refine Sg.h (Sg.add (.add (.lit rfl) (.loc (k:=1) rfl hn) rfl) (.lit rfl) rfl) _ ?_;unfold q1502_21;refine Sg.ret (N:=N) (s:=mHas n x.1) (k:=6) ?_ (hR _ _ s hf.symm);exact wl (mHas_eq ..) (.add (.add (.add (.loc (k:=3) rfl (len3 (Sh.sc rfl) hn (Sh.sc rfl))) (.lit rfl) rfl) (.loc (k:=1) rfl hx2) rfl) (.lit rfl) rfl)
      | some k =>
        replace hf:=e▸hf;dsimp only at hf;have hk:isK k:=by obtain ⟨y,hy,rfl⟩:=lookP_mem e;exact hS y hy
        replace hf:=cs_any hx1 hk▸hf;refine brF ?_;dsimp [q1502_22];refine wl (Bg ..) ?_;refine wl (e ..) ?_;refine ⟨by decide,fun r hr=>inL (l:=[sc 26,sc (if x.2=15 then 17 else 22)]) (AA ..) ?_⟩;have s':∀ v,Sub H (upd H' r v):=fun v=>s.upd (s.no hr);cases q:[sc 26,sc (if x.2=15 then 17 else 22)].contains k with
        | true=>replace hf:=q▸hf;replace hf:=if_pos rfl▸hf;exact brF (hM _ _ (ih (fun y hy=>hi y (.tail _ hy)) hf _ _ _ _ (s' _)))
        | false=>replace hf:=q▸hf;replace hf:=if_neg Bool.false_ne_true▸hf;refine brT ?_;unfold q1502_23;refine wl (De ..) ?_;refine wl (S_asg ..) ?_;refine Sg.h (Sg.add (.add (.lit rfl) (.loc (k:=1) rfl hn) rfl) (.lit rfl) rfl) _ ?_;unfold q1502_24;refine Sg.ret (N:=N) (s:=mKind n x.1) (k:=5) ?_ (hR _ _ (s' _) hf.symm);exact wl (mKind_eq ..) (.add (.add (.loc (k:=3) rfl (len3 (Sh.sc rfl) hn (Sh.sc rfl))) (.lit rfl) rfl) (.loc (k:=1) rfl hx2) rfl)
end
noncomputable def Dr (T:Tb) (n:Str) (L:Pr) (ab:List Str) (P:Pt):Str:=(Dv T n L ab P).getD (sc 1)
section
variable {d:Nat} {K:KV} {X:KX} {H H':Hp} {w rL ra rp r7:Addr} {T:Tb} {n p s t:Str} {ds:List (Str×V)} {ab:List Str} {L S:Pr} {P:Pt}
theorem due_ab (h:abM T n ab=some s):Dr T n L ab P=s:=by unfold Dr Dv Ds;rw [h];rfl
theorem due_rep (h0:abM T n ab=none) (h:Cc n [] L=some s):Dr T n L ab P=s:=by unfold Dr Dv Ds;rw [h0,h];rfl
theorem due_cl (h0:abM T n ab=none) (h1:Cc n [] L=none) (h:clM T n L ab=some s):Dr T n L ab P=s:=by unfold Dr Dv Ds;rw [h0,h1];dsimp only;rw [h];rfl
theorem due_pr (h0:abM T n ab=none) (h1:Cc n [] L=none) (h2:clM T n L ab=none):Dr T n L ab P=(prM (AO (Ae T n (mkC L ab P)) n) n P).getD (sc 1):=by unfold Dr Dv Ds;rw [h0,h1];dsimp only;rw [h2]
theorem law_fault_c (hd:5<=d) (ok:Ok T) (e:H w=some (.dct ds)) (hw:WAt H ds T) (hl:ds.length<=100) (hn:isC n) (hL:H rL=some (Ab L)) (ha:H ra=some (ssV ab)) (hp:H rp=some (Ab (P.map pk)))
    (hL3:L.length<=3) (hLs:∀ x∈L,isS x.1/\isK x.2) (hab:ab.length<=2) (habn:∀ p∈ab,isN p) (hi:∀ x∈P,(x.2=15\/x.2=22)/\Sh x.1) (hk:K (.str (Dr T n L ab P)) H) :
    AD d (.ref 1502) [.ref w,.str n,.ref rL,.ref ra,.ref rp] K X H:=by
  refine AE f1502 AQ (m:=faM w n rL ra rp none none none none none none none) (d0 hd rfl) rfl rfl ?_;have hsn:=hn.n.sh;dsimp [q1502_0];refine wl (Co ha ..) ?_;dsimp only [BE];refine fa_1 (dle hd rfl) e hw ok.c hsn (fun p hp=>(habn p hp).sh) (fun s h=>.keep ?_) fun h1 x5 x6=>?_
  . rw [due_ab h] at hk;exact hk
  dsimp [q1502_6];refine ⟨by decide,rfl,fun r7 h7=>AB ?_⟩;have s7:∀ v,Sub H (upd H r7 v):=fun v=>Sub.refl.upd h7;dsimp [q1502_7];refine wl (Co (s7 _ _ _ hL) ..) ?_;dsimp only [BE];refine fa_2 (dle hd rfl) hL h7 hsn hL3 (fun x hx=>(hLs x hx).1.sh) (fun s v h=>.to (s7 _) ?_) fun h2 x8 x9=>?_
  . rw [due_rep h1 h] at hk;exact hk
  dsimp [q1502_11];refine wl (Co (s7 _ _ _ ha) ..) ?_;dsimp only [BE];have hin:=abM_in h1;refine fa_3 (dle hd rfl) (s7 _ _ _ e) (hw.sub (s7 _)) ok.c ok.sh (AA ..) hsn (fun p hp=>⟨hin p hp,(habn p hp).sh⟩) (fun s h=>.to (s7 _) ?_) fun h3 x5 x8 x9=>?_
  . rw [due_cl h1 h2 h] at hk;exact hk
  dsimp [q1502_15];refine ⟨dle hd rfl,mkdR (s7 _ _ _ e) (AN ‹_› (by decide)) fun r10 h10=>AB ?_⟩;dsimp [q1502_16];refine ⟨by decide,AB ?_⟩;dsimp;refine AB ⟨rfl,fun rd hrd=>AF hrd ?_⟩;have s10:∀ v,Sub H (upd (upd H r7 (.dct (prD L))) r10 v):=fun v=>(s7 _).upd ((s7 _).no h10);refine setDe (AA ..) (Bq ‹_› (by decide)) AS ?_;dsimp [q1502_17];refine AB ?_;dsimp;have ok2:Ok (Ae T n (mkC L ab P)):=ok.put hn hab hin ⟨hL3,hLs⟩;have hin2:InT (Ae T n (mkC L ab P)) n:=⟨mkC L ab P,by rw [BW,if_pos rfl]⟩
  refine CO (dle hd rfl) (AA ..) ((hw.sub (s10 _)).put (c:=mkC L ab P) (vs:=.ref rL) (va:=.ref ra) (tl:=[]) (s10 _ _ _ hL) (s10 _ _ _ ha)) ok2.c hin2 ?_;refine ⟨dle hd rfl,mkdF slots_nd (Nat.le_trans (Bp ok2.c hin2) (by decide)) fun r11 h11=>AF h11 ?_⟩;dsimp [q1502_18];refine wl (Co (s10 _ _ _ hp) ..) ?_;dsimp only [BE];refine wl (List.map_map ..) ?_;replace hk:=due_pr h1 h2 h3▸hk;refine fa_5 (dle hd rfl) (s10 _ _ _ hp) hsn (slots_k ok2.c) hi (fun H' s sb h=>.to ((s10 _).trans sb) ?_) fun H' x6 x8 x9 sb h=>?_
  . rw [h] at hk;exact hk
  . replace hk:=h▸hk;dsimp [q1502_25];exact .to ((s10 _).trans sb) hk
end
def gd (s:Str):Prop:=PyData.canLay0 (.str s)=true
theorem isS.gd {s:Str} (h:isS s):gd s:=by rcases h with rfl | rfl | rfl | rfl<;>(unfold Mine.gd;decide +kernel)
theorem isK.gd {s:Str} (h:isK s):gd s:=by rcases h with rfl | rfl | rfl<;>(unfold Mine.gd;decide +kernel)
theorem isN.gd {s:Str} (h:isN s):gd s:=by rcases h with rfl | rfl | rfl | rfl<;>(unfold Mine.gd;decide +kernel)
theorem toDs_s:∀ l:List Str,Dh (l.map .str)=some (l.map .str)
  | []=>rfl
  | x::l=>by show (Dh (l.map .str)).map _=_;rw [toDs_s l];rfl
theorem toDs_p:∀ l:Pr,Dh (l.map prV)=some (l.map fun x=>.tuple [.str x.1,.str x.2])
  | []=>rfl
  | x::l=>by show (Dh (l.map prV)).map _=_;rw [toDs_p l];rfl
theorem sh_s:∀ {l:List Str},(∀ s∈l,gd s)->PyData.canLayAll0 (l.map .str)=true/\PyData.depthAll (l.map .str)=0/\PyData.eqvAll (l.map .str) (l.map .str)=true
  | [],_=>⟨rfl,rfl,rfl⟩
  | x::l,h=>by
    obtain ⟨a,b,c⟩:=sh_s fun s hs=>h s (.tail _ hs);have hx:PyData.canLay0 (.str x)=true:=h x (.head _);refine ⟨?_,?_,?_⟩
    . rw [List.map_cons,PyData.canLayAll0,hx,a];rfl
    . rw [List.map_cons,PyData.depthAll,b,PyData.depth];rfl
    . rw [List.map_cons,PyData.eqvAll,c,PyData.eqv,beq_self_eq_true];rfl
theorem sh_p:∀ {l:Pr},(∀ x∈l,gd x.1/\gd x.2)->PyData.canLayAll0 (l.map fun x=>.tuple [.str x.1,.str x.2])=true/\PyData.depthAll (l.map fun x=>.tuple [.str x.1,.str x.2])<=1:=by
  intro l
  induction l with
  | nil=>intro _;exact ⟨rfl,Nat.zero_le _⟩
  | cons x l IH =>
    intro h;obtain ⟨a,b⟩:=IH fun s hs=>h s (.tail _ hs);obtain ⟨h1,h2⟩:=h x (.head _);unfold gd at h1 h2;refine ⟨?_,?_⟩
    . rw [List.map_cons,PyData.canLayAll0,a,PyData.canLay0,PyData.canLayAll0,PyData.canLayAll0,PyData.canLayAll0,h1,h2];rfl
    . refine wl (List.map_cons ..) ?_;rw [PyData.depthAll];refine Nat.max_le.mpr ⟨?_,b⟩;exact Nat.le_of_ble_eq_true rfl
section
variable {H:Hp} {a b:V} {l:List Str} {S:Pr} {x:Int}
theorem eqD {xs ys:List V} {ds es:List PyData} (ha:look H a=some (.lst xs)) (hb:look H b=some (.lst ys)) (h1:Dh xs=some ds) (h2:Dh ys=some es) (c1:PyData.canLayAll0 ds=true) (d1:PyData.depthAll ds<=1) (c2:PyData.canLayAll0 es=true) (d2:PyData.depthAll es<=1):Bb a b H=some (PyData.eqvAll ds es):=by
  have hs:∀ {l:List PyData},PyData.canLayAll0 l=true->PyData.depthAll l<=1->SeqAt.shaped (.list l)=true:=fun {l} c d=>by unfold SeqAt.shaped;rw [PyData.canLay0,c,PyData.depth,decide_eq_true (r_a1 ‹_› (by decide))];rfl
  unfold Bb;refine wl (ha ..) ?_;refine wl (hb ..) ?_;show ((Dh xs).map PyData.list).bind (fun d=>((Dh ys).map PyData.list).bind _)=_;refine wl (h1 ..) ?_;refine wl (h2 ..) ?_;show (if SeqAt.shaped (.list ds) && SeqAt.shaped (.list es) then _ else _)=_;rw [hs c1 d1,hs c2 d2,PyData.eqv];rfl
theorem eq_strs (ha:look H a=some (ssV l)) (hb:look H b=some (ssV l)) (hg:∀ s∈l,gd s):Bb a b H=some true:=by obtain ⟨c,d,e⟩:=sh_s hg;refine wl (eqD ha hb (toDs_s l) (toDs_s l) c (Nat.le_trans (Nat.le_of_eq d) (Nat.zero_le 1)) c (Nat.le_trans (Nat.le_of_eq d) (Nat.zero_le 1)) ..) ?_;exact wl (e ..) rfl
theorem eq_one (ha:look H a=some (.lst [.int x])) (hb:look H b=some (.lst [.int x])):Bb a b H=some true:=by refine wl (eqD (ds:=[.int x]) (es:=[.int x]) ha hb rfl rfl rfl (Nat.zero_le _) rfl (Nat.zero_le _) ..) ?_;rw [PyData.eqvAll,PyData.eqv,PyData.eqvAll,beq_self_eq_true];rfl
theorem eq_snil (ha:look H a=some (ssV l)) (hb:look H b=some (.lst [])) (hg:∀ s∈l,gd s):Bb a b H=some l.isEmpty:=by obtain ⟨c,d,e⟩:=sh_s hg;refine wl (eqD (es:=[]) ha hb (toDs_s l) rfl c (Nat.le_trans (Nat.le_of_eq d) (Nat.zero_le 1)) rfl (Nat.zero_le _) ..) ?_;cases l<;>rfl
theorem eq_pnil (ha:look H a=some (Ab S)) (hb:look H b=some (.lst [])) (hg:∀ x∈S,gd x.1/\gd x.2):Bb a b H=some S.isEmpty:=by obtain ⟨c,d⟩:=sh_p hg;refine wl (eqD (es:=[]) ha hb (toDs_p S) rfl c d rfl (Nat.zero_le _) ..) ?_;cases S<;>rfl
end
noncomputable def weV (c:TC):V:=.dct [(sc 58,Ab c.slots),(sc 79,ssV c.above),(sc 96,.bool c.virt)]
noncomputable def wdE (T:Tb):List (Str×V):=T.map fun x=>(x.1,weV x.2)
def Tr (ri:Addr) (H:Hp) (md:Option Q3) (H':Hp) (md':Option Q3):Prop:=∀ a v,a∉fr ri md->H a=some v->a∉fr ri md'/\H' a=some v
section
variable {d:Nat} {K:KV} {X:KX} {H H' H'':Hp} {ri w r:Addr} {b:Bool} {md md' md'':Option Q3} {T:Tb} {q:Q3} {n n':Str} {v:V} {c:TC}
theorem wd_at (T:Tb) (n:Str):at? (wdE T) n=(AH T n).map weV:=by
  unfold wdE AH
  induction T with
  | nil=>rfl
  | cons x r ih =>
    refine wl (List.map_cons ..) ?_;refine wl (Af ..) ?_;refine wl (List.find?_cons ..) ?_;by_cases h:x.1=n
    . subst h;simp
    . simp only [h,if_false,decide_false];exact ih
theorem wd_WAt:WAt H (wdE T) T:=by
  refine ⟨fun n q=>by rw [wd_at,q];rfl,fun n c q=>⟨[(sc 58,Ab c.slots),(sc 79,ssV c.above),(sc 96,.bool c.virt)],ssV c.above,Ab c.slots,by rw [wd_at,q];rfl,?_,rfl,?_,rfl⟩⟩
  . refine wl (Af ..) ?_;refine wl (if_neg (of_decide_eq_false (dq rfl)) ..) ?_;refine wl (Af ..) ?_;exact wl (if_pos rfl ..) rfl
  . refine wl (Af ..) ?_;exact wl (if_pos rfl ..) rfl
theorem wd_put (T:Tb) (n:Str) (c:TC):wdE (Ae T n c)=put (wdE T) n (weV c):=by
  unfold Ae Mine.put wdE;refine wl (List.any_map ..) ?_;simp only [Function.comp_def];split
  . refine wl (List.map_map ..) ?_;refine wl (List.map_map ..) ?_;refine List.map_congr_left fun x Y=>?_;simp only [Function.comp];split
    . rename_i e;simp [e]
    . rename_i e;simp [e]
  . rw [List.map_append];rfl
theorem Tr.refl:Tr ri H md H md:=fun Y Y n e=>⟨n,e⟩
theorem Tr.trans (h:Tr ri H md H' md') (h':Tr ri H' md' H'' md''):Tr ri H md H'' md'':=fun a v n e=>by obtain ⟨n',e'⟩:=h a v n e;exact h' a v n' e'
theorem Tr.sub (s:Sub H H'):Tr ri H md H' md:=fun a v n e=>⟨n,s a v e⟩
theorem Tr.call (k:Kp H H' (fr ri md)) (x:Nx H md q):Tr ri H md H' (some q):=fun a v n e=>by
  refine ⟨?_,k a v n e⟩;rcases x with rfl | ⟨rfl,e0⟩
  . exact n
  . intro i;cases i with
    | head=>exact n (.head _)
    | tail _ i=>rw [List.mem_singleton.mp i,e0] at e;cases e
theorem Made.sub (h:Made H ri q b T) (s:Sub H H'):Made H' ri q b T:=⟨s _ _ h.i,s _ _ h.s,h.t.sub s⟩
theorem Sv.sub (h:Sv H ri b md T) (s:Sub H H'):Sv H' ri b md T:=by
  cases h with
  | fresh h=>exact .fresh (s _ _ h)
  | made h=>exact .made (h.sub s)
theorem Sv.off (h:Sv H ri b md T) (e:H r=none):r∉fr ri md:=fun i=>by
  cases h with
  | fresh h=>rw [List.mem_singleton.mp i,h] at e;cases e
  | made h =>
    cases i with
    | head=>rw [h.i] at e;cases e
    | tail _ i=>rw [List.mem_singleton.mp i,h.t.c] at e;cases e
structure Ls (ri w:Addr) (b:Bool) (T:Tb) (H0:Hp) (md0:Option Q3) (H:Hp) (md:Option Q3):Prop where
  sv:Sv H ri b md T
  tr:Tr ri H0 md0 H md
  ww:H w=some (.dct (wdE T))
  wn:w∉fr ri md
theorem Ls.sub {H0:Hp} {md0:Option Q3} (h:Ls ri w b T H0 md0 H md) (s:Sub H H'):Ls ri w b T H0 md0 H' md:=⟨h.sv.sub s,h.tr.trans (.sub s),s _ _ h.ww,h.wn⟩
theorem Ls.new {H0:Hp} {md0:Option Q3} (h:Ls ri w b T H0 md0 H md) (e:H r=none):Ls ri w b T H0 md0 (upd H r v) md:=h.sub (Sub.refl.upd e)
theorem Ls.call {H0:Hp} {md0:Option Q3} (h:Ls ri w b T H0 md0 H md) (m:Made H' ri q b T) (k:Kp H H' (fr ri md)) (x:Nx H md q):Ls ri w b T H0 md0 H' (some q) :=
  ⟨.made m,h.tr.trans (.call k x),((Tr.call k x) _ _ h.wn h.ww).2,((Tr.call k x) _ _ h.wn h.ww).1⟩
theorem cmp_fg {t0:Bool} {x:Int} (hx:x=if t0=true then 1 else 0) {P:Bool->Hp->Prop} (k:∀ r v,H r=none->P true (upd H r v)) :
    asB (fun t H=>(t=true->1<=1000000/\∀ r,H r=none->oB (Bb (.lst [.int x]) (.ref r) (upd H r (.lst [.int 1]))) P (upd H r (.lst [.int 1])))/\(t=false->1<=1000000/\∀ r,H r=none->oB (Bb (.lst [.int x]) (.ref r) (upd H r (.lst [.int 0]))) P (upd H r (.lst [.int 0])))) (.bool t0) H:=by
  cases t0 with
  | true=>refine brT ⟨by decide,fun r hr=>?_⟩;refine wl (show x=1 from hx ..) ?_;exact wl (eq_one (H:=upd H r (.lst [.int 1])) (a:=.lst [.int 1]) (b:=.ref r) (x:=1) rfl (AA ..) ..) (k r _ hr)
  | false=>refine brF ⟨by decide,fun r hr=>?_⟩;refine wl (show x=0 from hx ..) ?_;exact wl (eq_one (H:=upd H r (.lst [.int 0])) (a:=.lst [.int 0]) (b:=.ref r) (x:=0) rfl (AA ..) ..) (k r _ hr)
noncomputable abbrev lsM (ri w:Addr) (n:Str) (x3 x4 x5 x6 x7:Option V):Lm:=[some (.ref ri),some (.ref w),some (.str n),x3,x4,x5,x6,x7]
theorem same_a {x3 x4 x5 x6 x7:Option V} {H0:Hp} {md0:Option Q3} {N:Lm->Hp->Prop} {R:KV} {E:KS} (hd:8<=d) (h:Ls ri w b T H0 md0 H md) (hn:isN n) (hk:∀ H' q,Ls ri w b T H0 md0 H' (some q)->vcS d none q1512_6 N R E (lsM ri w n (some (arV [(none,txV n)])) x4 x5 x6 x7) H'):vcS d none q1512_1 N R E (lsM ri w n x3 x4 x5 x6 x7) H:=by
  dsimp [q1512_1];refine Bw (Nat.le_trans (by decide) hd) ?_;dsimp;refine ⟨by decide,by decide,fun r hr=>AF hr ?_⟩;dsimp [q1512_2];refine AB ?_;dsimp;refine b_isClass_c (Nat.le_trans (by decide) hd) h.sv hn fun H1 q1 m1 k1 x1=>?_;have l1:=h.call m1 k1 x1;dsimp;refine ⟨rfl,wd_WAt.has l1.ww ?_⟩;refine cmp_fg rfl fun r v hr=>brF ?_;have l2:=l1.new (v:=v) hr;dsimp [q1512_4];refine AB ?_;dsimp;refine b_isVirtual_c (Nat.le_trans (by decide) hd) l2.sv fun H1 q1 m1 k1 x1=>?_;have l1:=l2.call m1 k1 x1;dsimp;refine ⟨rfl,wd_WAt.has l1.ww ?_⟩;cases q:AH T n with
  | none=>refine brF ?_;exact cmp_fg rfl fun r v hr=>brF (hk _ _ (l1.new hr))
  | some c=>refine brT (subD l1.ww (by rw [wd_at,q];rfl) ?_);unfold weV;dsimp;refine wl (Af ..) ?_;refine wl (if_neg (of_decide_eq_false (dq rfl)) ..) ?_;refine wl (Af ..) ?_;refine wl (if_neg (of_decide_eq_false (dq rfl)) ..) ?_;refine wl (Af ..) ?_;exact wl (if_pos rfl ..) (cmp_fg rfl fun r v hr=>brF (hk _ _ (l1.new hr)))
end
section
variable {d:Nat} {K:KV} {X:KX} {H H' H'':Hp} {ri w r:Addr} {b:Bool} {md md' md'':Option Q3} {T:Tb} {q:Q3} {n n' o:Str} {v:V} {c:TC} {x3 x4 x5 x6 x7:Option V} {H0:Hp} {md0:Option Q3} {N:Lm->Hp->Prop} {R:KV} {E:KS} {S:Pr}
theorem ss_map {α:Type} {l:List α} {f:α->Str}:V.lst (l.map fun x=>.str (f x))=ssV (l.map f):=by unfold ssV;rw [List.map_map];rfl
theorem dist_up (hc:Clo T) (hn:InT T n) (ho:o≠sc 26):(CC T n o).isSome=(nms (upM T n)).contains o:=by
  by_cases e:n=o
  . subst e;have:n∈nms (upM T n):=by obtain ⟨l,h⟩:=bfs_pre (par:=Aj T) (f:=8) (i:=0) (rs:=[(n,0)]);unfold nms upM;rw [h];exact .head _
    refine wl (show (nms (upM T n)).contains n=true from by simpa using this ..) ?_;unfold CC;rw [if_pos rfl];rfl
  . refine wl (step_up hc hn e ho ..) ?_;unfold nms;simp
theorem Ok.gd {T:Tb} (h:Ok T) (p:Str):∀ x∈AO T p,Mine.gd x.1/\Mine.gd x.2:=slF_p (fun n c e x hx=>⟨(h.s n c e x hx).gd,((h.c.sl n c e).2 x hx).gd⟩) fun x hx=>by cases hx
theorem addFR {xs ys:List V} {a:Addr} (e:H a=some (.lst ys)) (h:xs.length+ys.length<=1000000) (k:Ak (.lst (xs++ys)) K H):DC .Add (.lst xs) (.ref a) K H:=by show oX (H a) _;rw [e];exact And.intro h k
theorem same_c (hd:8<=d) (ok:Ok T) (h:Ls ri w b T H0 md0 H (some q)) (hn:InT T n) (ho:isC o) (hk:∀ H' q' x7,Ls ri w b T H0 md0 H' (some q')->N (lsM ri w n (some (arV [(none,txV n)])) x4 x5 (some (.str o)) x7) H') :
    vcS d none q1512_16 N R E (lsM ri w n (some (arV [(none,txV n)])) x4 x5 (some (.str o)) x7) H:=by
  dsimp [q1512_16];refine Bw (Nat.le_trans (by decide) hd) ?_;dsimp;refine ⟨by decide,by decide,fun r hr=>?_⟩;have l1:=h.new (v:=.lst [.tup [.none,txV o]]) hr;refine addFR (AA ..) (Nat.le_of_ble_eq_true rfl) fun r2 hr2=>AF hr2 ?_;dsimp [q1512_17];refine AB ?_;dsimp;refine b_extends_c (n:=n) (n':=o) (Nat.le_trans (by decide) hd) l1.sv ok.c (.inl hn) fun H1 q1 m1 k1 x1=>?_;have l2:=l1.call m1 k1 x1;dsimp;refine ⟨rfl,AB ?_⟩;dsimp;refine CP (Nat.le_trans (by decide) hd) l2.ww wd_WAt ok.c hn ?_;dsimp;refine wl (strs_map ..) ?_;refine cmp_fg ?_ fun r v hr=>brF (hk _ _ _ (l2.new hr));exact wl (dist_up ok.c hn (by rcases ho with e | e | e<;>rw [e]<;>exact of_decide_eq_false (dq rfl)) ..) rfl
end
section
variable {d:Nat} {K:KV} {X:KX} {H H' H'':Hp} {ri w r:Addr} {b:Bool} {md md' md'':Option Q3} {T:Tb} {q:Q3} {n n' o:Str} {v:V} {c:TC} {x3 x4 x5 x6 x7:Option V} {H0:Hp} {md0:Option Q3} {N:Lm->Hp->Prop} {R:KV} {E:KS} {S:Pr}
theorem eq_new {f:Str×Str->Str} {xs:List V} (hx:xs=S.map fun x=>.str (f x)) (hg:∀ x∈S,gd (f x)):Bb (.lst xs) (.ref r) (upd H r (.lst (S.map fun x=>.str (f x))))=some true:=by
  subst hx;refine wl (ss_map ..) ?_;exact eq_strs (l:=S.map f) rfl (AA ..) fun s hs=>by obtain ⟨x,hx,rfl⟩:=List.mem_map.mp hs;exact hg x hx
theorem same_d (hd:8<=d) (ok:Ok T) (h:Ls ri w b T H0 md0 H (some q)) (hn:InT T n) (hk:∀ H' q' x6 x7,Ls ri w b T H0 md0 H' (some q')->N (lsM ri w n (some (arV [(none,txV n)])) x4 x5 x6 x7) H') :
    vcS d none q1512_15 N R E (lsM ri w n (some (arV [(none,txV n)])) x4 x5 x6 x7) H:=by
  dsimp [q1512_15];refine ⟨by decide,fun r hr=>?_⟩;have st:∀ {H'' q''},Ls ri w b T (upd H r (.lst [.str (sc 86),.str (sc 87),.str (sc 88)])) (some q) H'' (some q'')->AL (.ref r) (upd H r (.lst [.str (sc 86),.str (sc 87),.str (sc 88)])) H'':=fun {H'' q''} l=>by have:=(l.tr r _ (h.sv.off hr) (AA ..)).2;exact this.trans (AA ..).symm
  have l0:Ls ri w b T (upd H r (.lst [.str (sc 86),.str (sc 87),.str (sc 88)])) (some q) (upd H r (.lst [.str (sc 86),.str (sc 87),.str (sc 88)])) (some q):=⟨h.sv.sub (Sub.refl.upd hr),.refl,(Sub.refl.upd hr) _ _ h.ww,h.wn⟩
  refine wl (Co (AA ..) ..) ?_;dsimp only [BE];refine AG (Nat.le_trans (by decide) hd) ⟨rfl,same_c hd ok l0 hn (.inl rfl) fun H1 q1 x7 l1=>⟨st l1,same_c hd ok l1 hn (.inr (.inl rfl)) fun H2 q2 x7 l2=>⟨st l2,same_c hd ok l2 hn (.inr (.inr rfl)) fun H3 q3 x7 l3=>⟨st l3,hk _ _ _ _ ⟨l3.sv,(h.tr.trans (.sub (Sub.refl.upd hr))).trans l3.tr,l3.ww,l3.wn⟩⟩⟩⟩⟩
theorem same_b (hd:9<=d) (ok:Ok T) (h:Ls ri w b T H0 md0 H (some q)) (hk:∀ H' q' x4 x5 x6 x7,Ls ri w b T H0 md0 H' (some q')->N (lsM ri w n (some (arV [(none,txV n)])) x4 x5 x6 x7) H') :
    vcS d none q1512_6 N R E (lsM ri w n (some (arV [(none,txV n)])) x4 x5 x6 x7) H:=by
  dsimp [q1512_6];refine wd_WAt.has h.ww ?_;cases e:AH T n with
  | none=>exact brF (hk _ _ _ _ _ _ h)
  | some c =>
    refine brT ?_;have hn:InT T n:=⟨c,e⟩
    have hl:=Bp ok.c hn;have hg:=ok.gd n;dsimp [q1512_7];refine AB ?_;dsimp;refine CO (Nat.le_trans (by decide) hd) h.ww wd_WAt ok.c hn ?_;dsimp [q1512_8];refine AB ?_;dsimp;refine b_slotNames_c (Nat.le_trans (by decide) hd) h.sv ok.c hn fun H1 q1 m1 k1 x1=>?_;have l1:=h.call m1 k1 x1;dsimp;refine ⟨rfl,Bs (Nat.le_trans (by decide) hd) (AN ‹_› (by decide)) fun r hr=>?_⟩;dsimp only [CG];refine wl (eq_new rfl fun x hx=>(hg x hx).1 ..) ?_;refine brF ?_;have l2:=l1.new (v:=.lst ((AO T n).map fun x=>.str x.1)) hr;dsimp [q1512_10];refine AB ?_;dsimp;refine b_getSlots_c (Nat.le_trans (by decide) hd) l2.sv ok.c hn fun H3 q3 m3 k3 x3=>?_;have l3:=l2.call m3 k3 x3;dsimp [q1512_11];refine ⟨rfl,comp_snd (Nat.le_trans (by decide) hd) (AN ‹_› (by decide)) fun r hr=>?_⟩;dsimp only [CG];refine wl (eq_new rfl fun x hx=>(hg x hx).2 ..) ?_;refine brF ?_;have l4:=l3.new (v:=.lst ((AO T n).map fun x=>.str x.2)) hr;generalize upd H3 r (.lst ((AO T n).map fun x=>.str x.2))=H4 at l4 ⊢;dsimp [q1512_13];refine ⟨by decide,fun r hr=>?_⟩;have l5:=l4.new (v:=.lst []) hr;refine wl (eq_pnil (H:=upd H4 r (.lst [])) (a:=Ab (AO T n)) (b:=.ref r) rfl (AA ..) hg ..) ?_;have fin:∀ {H' q'},Ls ri w b T H0 md0 H' (some q')->vcS d none q1512_15 N R E (lsM ri w n (some (arV [(none,txV n)])) (some (Ab (AO T n))) (some (vec (sc 22) ((AO T n).map fun x=>.str x.2) (nmA (AO T n)))) x6 x7) H':=fun {H' q'} l=>same_d (Nat.le_trans (by decide) hd) ok l hn fun H' q' x6 x7 l=>hk _ _ _ _ _ _ l;cases es:(AO T n).isEmpty with
    | true=>exact brF (brF (fin l5))
    | false =>
      refine brT ?_;have:nmA (AO T n) = .dct [(sc 3,vec (sc 22) ((AO T n).map fun x=>.str x.1) .none)]:=by unfold nmA;rw [if_neg (fun q=>by rw [q] at es;cases es)]
      rw [this] at fin ⊢;refine ⟨rfl,?_⟩;dsimp;refine wl (Af ..) ?_;refine wl (if_pos rfl ..) ?_;dsimp;refine ⟨rfl,Bs (Nat.le_trans (by decide) hd) (AN ‹_› (by decide)) fun r hr=>?_⟩;dsimp only [CG];exact wl (eq_new rfl fun x hx=>(hg x hx).1 ..) (brF (fin (l5.new hr)))
end
section
variable {d:Nat} {K:KV} {X:KX} {H H' H'':Hp} {ri w r:Addr} {b:Bool} {md md' md'':Option Q3} {T:Tb} {q:Q3} {n n' o:Str} {v:V} {c:TC} {x3 x4 x5 x6 x7:Option V} {H0:Hp} {md0:Option Q3} {N:Lm->Hp->Prop} {R:KV} {E:KS} {S:Pr}
theorem DH (hd:9<=d) (ok:Ok T) (h:Ls ri w b T H0 md0 H md) (hn:isN n) (hk:∀ H' q' x3 x4 x5 x6 x7,Ls ri w b T H0 md0 H' (some q')->N (lsM ri w n x3 x4 x5 x6 x7) H'):vcS d none q1512_1 N R E (lsM ri w n x3 x4 x5 x6 x7) H :=
  same_a (Nat.le_trans (by decide) hd) h hn fun Y Y l=>same_b hd ok l fun Y Y Y Y Y Y l=>hk _ _ _ _ _ _ _ l
theorem law_same_c (hd:10<=d) (ok:Ok T) (h:Sv H ri b md T) (hw:H w=some (.dct (wdE T))) (nw:w∉fr ri md) (hk:∀ H' q,Made H' ri q b T->Tr ri H md H' (some q)->K (.bool true) H'):AD d (.ref 1512) [.ref ri,.ref w] K X H:=by
  refine AE f1512 AQ (m:=[some (.ref ri),some (.ref w),none,none,none,none,none,none]) (d0 hd rfl) rfl rfl ?_;dsimp [q1512_0];refine ⟨by decide,fun r hr=>?_⟩;generalize hl:V.lst [.str (sc 86),.str (sc 87),.str (sc 88),.str (sc 93)]=l;have l0:Ls ri w b T (upd H r l) md (upd H r l) md:=⟨h.sub (Sub.refl.upd hr),.refl,(Sub.refl.upd hr) _ _ hw,nw⟩
  have st:∀ {H'' q''},Ls ri w b T (upd H r l) md H'' (some q'')->AL (.ref r) (upd H r l) H'':=fun {H'' q''} l=>((l.tr r _ (h.off hr) (AA ..)).2).trans (AA ..).symm;rw [Co (xs:=[.str (sc 86),.str (sc 87),.str (sc 88),.str (sc 93)]) (by rw [AA,hl])];dsimp only [BE];have hd':9<=d - 1:=dle hd rfl;refine AG (dle hd rfl) ⟨rfl,DH hd' ok l0 (.inl rfl) fun H1 q1 x3 x4 x5 x6 x7 l1=>⟨st l1,DH hd' ok l1 (.inr (.inl rfl)) fun H1 q1 x3 x4 x5 x6 x7 l2=>⟨st l2,DH hd' ok l2 (.inr (.inr (.inl rfl))) fun H1 q1 x3 x4 x5 x6 x7 l3=>⟨st l3,DH hd' ok l3 (.inr (.inr (.inr rfl))) fun H1 q1 x3 x4 x5 x6 x7 l4=>⟨st l4,?_⟩⟩⟩⟩⟩;dsimp [q1512_19];cases l4.sv with | made m=>exact .keep (hk _ _ m ((Tr.sub (Sub.refl.upd hr)).trans l4.tr))
end
structure Zs (He:Hp) (rc:Addr) (F:List (Addr×V)) (H:Hp):Prop where
  k:Kp He H [rc]
  c:∃ cs,H rc=some (isL cs)/\cs.length<=1000
  f:∀ x∈F,H x.1=some x.2/\He x.1=none/\x.1≠rc
  nd:(F.map (·.1)).Nodup
noncomputable def lits:List Nat->Mine.X
  | []=>.nil
  | i::l=>.cons (.cst (.str (sc i))) (lits l)
section
variable {d:Nat} {K:KV} {X:KX} {He H H':Hp} {rc r a:Addr} {F A B:List (Addr×V)} {v old:V} {m:Lm} {N:Lm->Hp->Prop} {R:KV} {E:KS}
theorem Zs.cork (z:Zs He rc F H) {cs:List Int} (h:cs.length<=1000):Zs He rc F (upd H rc (isL cs)) :=
  ⟨z.k.upd (.head _),⟨cs,AA ..,h⟩,fun x hx=>⟨(AC (z.f x hx).2.2).trans (z.f x hx).1,(z.f x hx).2⟩,z.nd⟩
theorem Zs.none (z:Zs He rc F H) (hr:H r=none):He r=Option.none/\r≠rc:=by
  obtain ⟨cs,hc,_⟩:=z.c;have n:r≠rc:=fun q=>by rw [q,hc] at hr;cases hr
  refine ⟨?_,n⟩;cases q:He r with
  | none=>rfl
  | some v=>rw [z.k r v (fun i=>n (List.mem_singleton.mp i)) q] at hr;cases hr
theorem Zs.garb (z:Zs He rc F H) (hr:H r=Option.none):Zs He rc F (upd H r v):=by obtain ⟨e,n⟩:=z.none hr;obtain ⟨cs,hc,hl⟩:=z.c;exact ⟨z.k.new e,⟨cs,(AC (Ne.symm n)).trans hc,hl⟩,fun x hx=>⟨(AC fun q=>by rw [<- q,(z.f x hx).1] at hr;cases hr).trans (z.f x hx).1,(z.f x hx).2⟩,z.nd⟩
theorem Zs.new (z:Zs He rc F H) (hr:H r=Option.none):Zs He rc ((r,v)::F) (upd H r v):=by
  have g:=z.garb (v:=v) hr;obtain ⟨e,n⟩:=z.none hr;refine ⟨g.k,g.c,fun x hx=>?_,?_⟩
  . cases hx with
    | head=>exact ⟨AA ..,e,n⟩
    | tail _ hx=>exact g.f x hx
  . refine wl (List.map_cons ..) ?_;rw [List.nodup_cons];refine ⟨fun i=>?_,z.nd⟩;obtain ⟨x,hx,q⟩:=List.mem_map.mp i;have q:x.1=r:=q;rw [<- q,(z.f x hx).1] at hr;cases hr
theorem Zs.set (z:Zs He rc (A++(a,old)::B) H):Zs He rc (A++(a,v)::B) (upd H a v):=by
  have h0:=z.f (a,old) (List.mem_append.mpr (.inr (.head _)));have nd:=z.nd;obtain ⟨cs,hc,hl⟩:=z.c;refine ⟨?_,⟨cs,(AC (Ne.symm h0.2.2)).trans hc,hl⟩,fun x hx=>?_,?_⟩
  . intro b w n e;rw [AC (fun q=>by rw [q,h0.2.1] at e;cases e)];exact z.k b w n e
  . rw [List.map_append,List.map_cons,List.nodup_append,List.nodup_cons] at nd;have go:x∈A++(a,old)::B->x.1≠a->upd H a v x.1=some x.2/\He x.1=Option.none/\x.1≠rc:=fun hx n=>⟨(AC n).trans (z.f x hx).1,(z.f x hx).2⟩
    rcases List.mem_append.mp hx with hx | hx
    . exact go (List.mem_append.mpr (.inl hx)) (nd.2.2 _ (List.mem_map_of_mem hx) _ (.head _))
    . cases hx with
      | head=>exact ⟨AA ..,h0.2⟩
      | tail _ hx=>exact go (List.mem_append.mpr (.inr (.tail _ hx))) fun q=>nd.2.1.1 (List.mem_map.mpr ⟨x,hx,q⟩)
  . rw [List.map_append] at nd ⊢;exact nd
theorem Zs.drop (z:Zs He rc (A++B) H):Zs He rc B H:=⟨z.k,z.c,fun x hx=>z.f x (List.mem_append.mpr (.inr hx)),by have:=z.nd;rw [List.map_append,List.nodup_append] at this;exact this.2.1⟩
theorem cork_z (hd:1<=d) (z:Zs He rc F H) {most:Nat} (hm:0<most) (hk:∀ (i:Nat) H',i<most->Zs He rc F H'->K (.int (i:Int)) H'):AD d (.ref 1469) [.ref rc,.int (most:Int)] K X H:=by obtain ⟨cs,hc,hl⟩:=z.c;exact cork_c hd hc hl hm fun i cs' hi h=>hk i _ hi (z.cork h)
theorem lits_vc {is:List Nat}:∀ {K:List V->Hp->Prop},CE d (lits is) K X m H=K (is.map fun i=>.str (sc i)) H:=by
  induction is with
  | nil=>exact rfl
  | cons i l ih=>intro K;rw [lits,Bf,E_cst,cv_str,ih];rfl
theorem pick_z {is:List Nat} {most:Nat} (hd:1<=d) (z:Zs He rc F H) (hm:m[0]?=some (some (.ref rc))) (hl:is.length=most) (hp:0<most) (hs:is.length<=100) (hk:∀ i∈is,∀ H',Zs He rc F H'->K (.str (sc i)) H') :
    vcE d (.sub (.list (lits is)) (.call (.glb (.ref 1469)) (.cons (.loc 0) (.cons (.cst (.int (most:Int))) .nil)))) K X m H:=by
  refine wl (E_sub ..) ?_;refine wl (E_list ..) ?_;refine wl (lits_vc ..) ?_;refine ⟨by rw [List.length_map];exact AN ‹_› (by decide),fun r hr=>?_⟩;have zr:=z.new (v:=.lst (is.map fun i=>.str (sc i))) hr;dsimp only [BE];refine wl (Dy ..) ?_;refine wl (E_glb ..) ?_;refine wl (Bf ..) ?_;refine wl (Df ..) ?_;refine wl (hm ..) ?_;refine wl (BE ..) ?_;refine wl (BE ..) ?_;refine AB ?_;refine wl (Bf ..) ?_;refine wl (E_cst ..) ?_;refine wl (cv_int ..) ?_;refine wl (Es_nil ..) ?_;refine cork_z hd zr hp fun i H' hi z'=>?_;have hi':i<is.length:=hl▸hi;refine subR (z'.f _ (.head _)).1 (r_tl ‹_› ‹_› (by decide)) (v:=.str (sc is[i])) (by rw [List.getElem?_map,List.getElem?_eq_getElem hi'];rfl) ?_;exact hk _ (List.getElem_mem hi') H' (Zs.drop (A:=[_]) z')
end
noncomputable abbrev lwM (rc ri w:Addr) (x3 x4 x5 x6 x7 x8 x9 x10 x11 x12 x13 x14 x15 x16:Option V):Lm:=[some (.ref rc),some (.ref ri),some (.ref w),x3,x4,x5,x6,x7,x8,x9,x10,x11,x12,x13,x14,x15,x16]
section
variable {d:Nat} {K:KV} {X:KX} {He H H':Hp} {rc ri w r r4 a:Addr} {F A B:List (Addr×V)} {v old:V} {m:Lm} {N:Lm->Hp->Prop} {R:KV} {E:KS} {x3 x4 x5 x6 x7 x8 x9 x10 x11 x12 x13 x14 x15 x16:Option V}
inductive SlJ (He:Hp) (rc ri w r4:Addr) (F:List (Addr×V)) (x3 x7 x8 x9 x10 x11 x12 x13 x14 x15 x16:Option V):Nat->Lm->Hp->Prop
  | mk {i:Nat} (L:Pr) (x5 x6:Option V) {H:Hp} (hl:L.length<=i) (hs:∀ x∈L,isS x.1/\isK x.2) (z:Zs He rc ((r4,Ab L)::F) H):SlJ He rc ri w r4 F x3 x7 x8 x9 x10 x11 x12 x13 x14 x15 x16 i (lwM rc ri w x3 (some (.ref r4)) x5 x6 x7 x8 x9 x10 x11 x12 x13 x14 x15 x16) H
theorem loc_r {i:Nat} (h:m[i]?=some (some v)) (k:K v H):vcE d (.loc i) K X m H:=by rw [Df,h];exact k
theorem ls_slots (hd:1<=d) (z:Zs He rc F H) (hN:∀ H' r4 L x5 x6,L.length<=3->(∀ x∈L,isS x.1/\isK x.2)->Zs He rc ((r4,Ab L)::F) H'->vcS d none q1507_5 N R E (lwM rc ri w x3 (some (.ref r4)) x5 x6 x7 x8 x9 x10 x11 x12 x13 x14 x15 x16) H') :
    vcS d none q1507_1 N R E (lwM rc ri w x3 x4 x5 x6 x7 x8 x9 x10 x11 x12 x13 x14 x15 x16) H:=by
  dsimp [q1507_1];refine ⟨by decide,fun r4 h4=>AB ?_⟩;dsimp [q1507_2];refine AB ?_;dsimp;refine cork_z (most:=4) hd (z.new h4) (by decide) fun n H' hn z'=>?_;dsimp;refine ⟨(r_il2 ‹_› (by decide)),DT hd n (SlJ He rc ri w r4 F x3 x7 x8 x9 x10 x11 x12 x13 x14 x15 x16) (.mk [] _ _ (Nat.zero_le _) (fun x hx=>by cases hx) z') ?_ ?_⟩
  . intro i m H' hi hJ;cases hJ with | mk L x5 x6 hl hs z
    refine ⟨trivial,?_⟩;dsimp [q1507_3,-E_sub];refine pick_z (is:=[89,90,91,92]) (most:=4) hd z rfl rfl (by decide) (by decide) fun s hs' H' z=>?_;refine AB ?_;dsimp only [q1507_4,De,S_exp,E_meth,Df,g0,gS,BE];refine wl (CF (z.f _ (.head _)).1 ..) ?_;refine ⟨rfl,?_⟩;dsimp only [Bf,E_tup];refine loc_r rfl (AB ?_);dsimp only [Bf];refine pick_z (is:=[17,22,26]) (most:=3) hd z rfl rfl (by decide) (by decide) fun k hk' H' z=>?_;dsimp;refine ⟨by decide,CH (z.f _ (.head _)).1 (by rw [List.length_map];exact Nat.lt_of_le_of_lt hl (Nat.lt_trans hi (Bq (Nat.le_of_lt ‹n<4›) (by decide)))) ?_⟩;refine .mk (L++[(sc s,sc k)]) _ _ (by rw [List.length_append,List.length_singleton];exact r_ss ‹_›) (fun x hx=>?_) ?_
    . rcases List.mem_append.mp hx with hx | hx
      . exact hs x hx
      . refine wl (List.mem_singleton.mp hx ..) ?_;simp only [List.mem_cons,List.not_mem_nil,or_false] at hs' hk';exact ⟨by rcases hs' with rfl | rfl | rfl | rfl<;>simp [isS],by rcases hk' with rfl | rfl | rfl<;>simp [isK]⟩
    . have:=Zs.set (A:=[]) (v:=Ab (L++[(sc s,sc k)])) z;unfold Ab at this;replace this:=List.map_append▸this;have e:Ab (L++[(sc s,sc k)]) = .lst (L.map prV++[.tup [.str (sc s),.str (sc k)]]):=by unfold Ab;rw [List.map_append];rfl
      rw [e];exact this
  . intro m H' hJ;cases hJ with | mk L x5 x6 hl hs z
    exact ⟨trivial,hN _ _ _ _ _ (Nat.le_trans hl (Nat.le_of_lt_succ ‹n<4›)) hs z⟩
end
section
variable {d:Nat} {K:KV} {X:KX} {He H H':Hp} {rc ri w r r4 r7 r9 r1 a:Addr} {F A B:List (Addr×V)} {v old:V} {m:Lm} {N:Lm->Hp->Prop} {R:KV} {E:KS} {x3 x4 x5 x6 x7 x8 x9 x10 x11 x12 x13 x14 x15 x16:Option V} {xs:List V} {i:Nat}
inductive AbJ (He:Hp) (rc ri w r7:Addr) (F:List (Addr×V)) (x3 x4 x6 x9 x10 x11 x12 x13 x14 x15 x16:Option V):Nat->Lm->Hp->Prop
  | mk {i:Nat} (ab:List Str) (x5 x8:Option V) {H:Hp} (hl:ab.length<=i) (hs:∀ p∈ab,isN p) (z:Zs He rc ((r7,ssV ab)::F) H):AbJ He rc ri w r7 F x3 x4 x6 x9 x10 x11 x12 x13 x14 x15 x16 i (lwM rc ri w x3 x4 x5 x6 (some (.ref r7)) x8 x9 x10 x11 x12 x13 x14 x15 x16) H
theorem ss_app {ab:List Str} {s:Str}:V.lst (ab.map .str++[.str s])=ssV (ab++[s]):=by unfold ssV;rw [List.map_append];rfl
theorem ls_above (hd:1<=d) (z:Zs He rc F H) (hN:∀ H' r7 ab x5 x8,ab.length<=2->(∀ p∈ab,isN p)->Zs He rc ((r7,ssV ab)::F) H'->vcS d none q1507_10 N R E (lwM rc ri w x3 x4 x5 x6 (some (.ref r7)) x8 x9 x10 x11 x12 x13 x14 x15 x16) H') :
    vcS d none q1507_5 N R E (lwM rc ri w x3 x4 x5 x6 x7 x8 x9 x10 x11 x12 x13 x14 x15 x16) H:=by
  dsimp [q1507_5];refine ⟨by decide,fun r7 h7=>AB ?_⟩;dsimp [q1507_6];refine AB ?_;dsimp;refine cork_z (most:=3) hd (z.new h7) (by decide) fun n H' hn z'=>?_;dsimp;refine ⟨(r_il2 ‹_› (by decide)),DT hd n (AbJ He rc ri w r7 F x3 x4 x6 x9 x10 x11 x12 x13 x14 x15 x16) (.mk [] _ _ (Nat.zero_le _) (fun x hx=>by cases hx) z') ?_ ?_⟩
  . intro i m H' hi hJ;cases hJ with | mk ab x5 x8 hl hs z
    refine ⟨trivial,?_⟩;dsimp [q1507_7,-E_sub];refine pick_z (is:=[86,87,88,93]) (most:=4) hd z rfl rfl (by decide) (by decide) fun s hs' H' z=>?_;dsimp [q1507_8];refine inL (z.f _ (.head _)).1 ?_;cases ab.contains (sc s) with
    | true=>exact brF (.mk ab _ _ (r_su ‹_›) hs z)
    | false =>
      refine brT ?_;dsimp [q1507_9];refine wl (CF (z.f _ (.head _)).1 ..) ?_;refine ⟨rfl,CH (z.f _ (.head _)).1 (by rw [List.length_map];exact Nat.lt_of_le_of_lt ‹_› (Nat.lt_trans hi (Bq (Nat.le_of_lt ‹n<3›) (by decide)))) ?_⟩;refine wl (ss_app ..) ?_;refine .mk (ab++[sc s]) _ _ (by rw [List.length_append,List.length_singleton];exact r_ss ‹_›) (fun x hx=>?_) (Zs.set (A:=[]) z);rcases List.mem_append.mp hx with hx | hx
      . exact hs x hx
      . refine wl (List.mem_singleton.mp hx ..) ?_;simp only [List.mem_cons,List.not_mem_nil,or_false] at hs';rcases hs' with rfl | rfl | rfl | rfl<;>simp [isN]
  . intro m H' hJ;cases hJ with | mk L x5 x8 hl hs z
    exact ⟨trivial,hN _ _ _ _ _ (Nat.le_trans hl (Nat.le_of_lt_succ ‹n<3›)) hs z⟩
theorem slcT (e:H a=some (.lst xs)) (h:xs.length<=1000000) (k:Ak (.lst (xs.take i)) K H):slcV (.ref a) none (some (.int (i:Int))) K H:=by exact slcO e h cut_take k
noncomputable abbrev pkV (P:Pt):V:=Ab (P.map pk)
inductive PrJ (He:Hp) (rc ri w r9 r1:Addr) (l:List Nat) (F:List (Addr×V)) (x3 x4 x5 x7 x8 x11 x12 x13 x14 x15 x16:Option V):Nat->Lm->Hp->Prop
  | mk {i:Nat} (P:Pt) (x6 x10:Option V) {H:Hp} (hn:(P.map (·.1)).Sublist ((l.take i).map sc)) (hs:∀ x∈P,x.2=15\/x.2=22) (z:Zs He rc ((r1,.lst (l.map fun i=>.str (sc i)))::(r9,pkV P)::F) H):PrJ He rc ri w r9 r1 l F x3 x4 x5 x7 x8 x11 x12 x13 x14 x15 x16 i (lwM rc ri w x3 x4 x5 x6 x7 x8 (some (.ref r9)) x10 x11 x12 x13 x14 x15 x16) H
theorem pk_app {P:Pt} {s:Str} {k:Nat}:V.lst ((P.map pk).map prV++[.tup [.str s,.str (sc (if k=15 then 17 else 22))]])=pkV (P++[(s,k)]):=by unfold pkV Ab;rw [List.map_append,List.map_append];rfl
theorem pr_body {l:List Nat} {k:Nat} {P:Pt} (hd:1<=d) (hl:l.length<=3) (hi:i<3) (hx:l[i]?=some k) (hn:(P.map (·.1)).Sublist ((l.take i).map sc)) (hs:∀ x∈P,x.2=15\/x.2=22) (z:Zs He rc ((r1,.lst (l.map fun i=>.str (sc i)))::(r9,pkV P)::F) H)
    (hN:∀ H' P x10,(P.map (·.1)).Sublist ((l.take (i+1)).map sc)->(∀ x∈P,x.2=15\/x.2=22)->Zs He rc ((r1,.lst (l.map fun i=>.str (sc i)))::(r9,pkV P)::F) H'->N (lwM rc ri w x3 x4 x5 (some (.str (sc k))) x7 x8 (some (.ref r9)) x10 x11 x12 x13 x14 x15 x16) H') :
    vcS d none q1507_12 N R E (lwM rc ri w x3 x4 x5 (some (.str (sc k))) x7 x8 (some (.ref r9)) x10 x11 x12 x13 x14 x15 x16) H:=by
  have hp:P.length<=3:=by have:=hn.length_le;rw [List.length_map,List.length_map,List.length_take] at this;exact Nat.le_trans this (Nat.le_trans (Nat.min_le_right _ _) hl)
  have ht:(l.take (i+1)).map sc=(l.take i).map sc++[sc k]:=take_s hx;dsimp [q1507_12];refine AB ?_;dsimp;refine cork_z (most:=3) hd z (by decide) fun j H' hj z=>?_;dsimp [q1507_13];have j3:j=0\/j=1\/j=2:=(r_lt3 ‹_›)
  have put:∀ kk,kk=15\/kk=22->∀ H' x10,Zs He rc ((r1,.lst (l.map fun i=>.str (sc i)))::(r9,pkV P)::F) H'->N (lwM rc ri w x3 x4 x5 (some (.str (sc k))) x7 x8 (some (.ref r9)) x10 x11 x12 x13 x14 x15 x16) (upd H' r9 (.lst ((P.map pk).map prV++[.tup [.str (sc k),.str (sc (if kk=15 then 17 else 22))]]))):=fun kk hkk H' x10 z=>by
    refine wl (pk_app ..) ?_;refine hN _ (P++[(sc k,kk)]) _ ?_ (fun x hx=>?_) (Zs.set (A:=[_]) z)
    . rw [ht,List.map_append];exact hn.append (.refl _)
    . rcases List.mem_append.mp hx with hx | hx
      . exact hs x hx
      . rw [List.mem_singleton.mp hx];exact hkk
  rcases j3 with rfl | rfl | rfl
  . refine brF (hN _ P _ ?_ hs z);rw [ht];exact hn.trans (List.sublist_append_left ..)
  . refine brT ?_;dsimp [q1507_14];refine wl (CF (z.f _ (.tail _ (.head _))).1 ..) ?_;refine ⟨rfl,by decide,fun r hr=>?_⟩;have zg:=z.garb (v:=.lst [.str (sc 17),.str (sc 22)]) hr;refine subR (i:=0) (v:=.str (sc 17)) (AA ..) (by decide) rfl ?_;refine ⟨by decide,CH (zg.f _ (.tail _ (.head _))).1 (by rw [List.length_map,List.length_map];exact Bq ‹_› (by decide)) ?_⟩;exact put 15 (.inl rfl) _ _ zg
  . refine brT ?_;dsimp [q1507_14];refine wl (CF (z.f _ (.tail _ (.head _))).1 ..) ?_;refine ⟨rfl,by decide,fun r hr=>?_⟩;have zg:=z.garb (v:=.lst [.str (sc 17),.str (sc 22)]) hr;refine subR (i:=1) (v:=.str (sc 22)) (AA ..) (by decide) rfl ?_;refine ⟨by decide,CH (zg.f _ (.tail _ (.head _))).1 (by rw [List.length_map,List.length_map];exact Bq ‹_› (by decide)) ?_⟩;exact put 22 (.inr rfl) _ _ zg
end
section
variable {d:Nat} {K:KV} {X:KX} {He H H':Hp} {rc ri w r r4 r7 r9 r1 a:Addr} {F A B:List (Addr×V)} {v old:V} {m:Lm} {N:Lm->Hp->Prop} {R:KV} {E:KS} {x3 x4 x5 x6 x7 x8 x9 x10 x11 x12 x13 x14 x15 x16:Option V} {xs:List V} {i:Nat} {P:Pt} {o:V} {mask:List Bool}
theorem nd3:(([89,90,94]:List Nat).map sc).Nodup:=by decide +kernel
theorem ls_proto (hd:1<=d) (z:Zs He rc F H) (hN:∀ H' r9 P x6 x10,P.length<=3->(P.map (·.1)).Nodup->(∀ x∈P,(x.2=15\/x.2=22)/\Sh x.1/\gd x.1)->Zs He rc ((r9,pkV P)::F) H'->vcS d none q1507_15 N R E (lwM rc ri w x3 x4 x5 x6 x7 x8 (some (.ref r9)) x10 x11 x12 x13 x14 x15 x16) H') :
    vcS d none q1507_10 N R E (lwM rc ri w x3 x4 x5 x6 x7 x8 x9 x10 x11 x12 x13 x14 x15 x16) H:=by
  dsimp [q1507_10];refine ⟨by decide,fun r9 h9=>AB ?_⟩;have z9:=z.new (v:=.lst []) h9;dsimp [q1507_11];refine ⟨by decide,fun r hr=>?_⟩;have zr:=z9.new (v:=.lst [.str (sc 89),.str (sc 90),.str (sc 94)]) hr;refine AB ?_;dsimp;refine cork_z (most:=4) hd zr (by decide) fun n H' hn z'=>?_;refine slcT (z'.f _ (.head _)).1 (by decide) fun r1 h1=>?_;have z1:=(Zs.drop (A:=[_]) z').new (v:=.lst ([.str (sc 89),.str (sc 90),.str (sc 94)].take n)) h1;have el:(V.lst ([.str (sc 89),.str (sc 90),.str (sc 94)].take n)) = .lst ((([89,90,94]:List Nat).take n).map fun i=>.str (sc i)):=by rw [List.map_take];rfl
  rw [el] at z1 ⊢;rw [Co (AA ..)];dsimp only [BE];have hl:(([89,90,94]:List Nat).take n).length<=3:=by rw [List.length_take];exact Nat.min_le_right _ _
  have sub:((([89,90,94]:List Nat).take n).map sc).Sublist (([89,90,94]:List Nat).map sc):=(List.take_sublist ..).map _;generalize ([89,90,94]:List Nat).take n=l at hl sub z1 ⊢;have st:∀ {H''} {P},Zs He rc ((r1,.lst (l.map fun i=>.str (sc i)))::(r9,pkV P)::F) H''->AL (.ref r1) (upd H' r1 (.lst (l.map fun i=>.str (sc i)))) H'':=fun {H'' P} z=>((z.f _ (.head _)).1).trans (AA ..).symm;refine frs_map hd (PrJ He rc ri w r9 r1 l F x3 x4 x5 x7 x8 x11 x12 x13 x14 x15 x16) (.mk [] _ _ (List.nil_sublist _) (fun x hx=>by cases hx) z1) ?_ ?_
  . intro i k m H'' hk hJ;cases hJ with | mk P x6 x10 hn hs z
    have hi:i<l.length:=(List.getElem?_eq_some_iff.mp hk).1;exact ⟨st z,pr_body hd hl (r_ab ‹_› ‹_›) hk hn hs z fun H3 P x10 hn hs z=>.mk P _ _ hn hs z⟩
  . intro m H'' hJ;cases hJ with | mk P x6 x10 hn hs z
    rw [List.take_length] at hn;have hn:=hn.trans sub;refine ⟨st z,hN _ _ P _ _ ?_ (hn.nodup nd3) (fun x hx=>⟨hs x hx,?_⟩) (Zs.drop (A:=[_]) z)⟩
    . have:=hn.length_le;rwa [List.length_map] at this
    . have:=hn.subset (List.mem_map_of_mem hx);simp only [List.map_cons,List.map_nil,List.mem_cons,List.not_mem_nil,or_false] at this;rcases this with e | e | e<;>rw [e]<;>exact ⟨Sh.sc rfl,by unfold gd;decide +kernel⟩
theorem comp_map2 {elt:KV->KX->Lm->Hp->Prop} {items:List V} (g:V->V) (hd:0<d) (hl:items.length<=1000000)
    (h:∀ v,v∈items->∀ P:KV,P (g v) H->elt (fun w H=>cv w H P) (fun Y Y=>False) (some v::msk mask m) H)
    (k:Ak (.lst (items.map g)) K H):compV d o items elt (vcC d .nil) mask m K H:=by
  refine ⟨hd,hl,fun i acc H'=>H'=H/\acc=(items.take i).map g,⟨rfl,rfl⟩,fun i acc v H' hv hI=>?_,fun acc H' hI=>?_⟩
  . obtain ⟨rfl,rfl⟩:=hI;refine ⟨BR,?_⟩;exact wl (C_nil ..) (brT (h v (List.mem_of_getElem? hv) _ ⟨rfl,(take_s hv).symm⟩))
  . obtain ⟨rfl,rfl⟩:=hI;exact wl (List.take_length ..) (⟨BR,k⟩)
end
section
variable {d:Nat} {K:KV} {X:KX} {He H H':Hp} {rc ri w r r4 r7 r9 r1 r11 a:Addr} {F A B:List (Addr×V)} {v old:V} {m:Lm} {N:Lm->Hp->Prop} {R:KV} {E:KS} {x3 x4 x5 x6 x7 x8 x9 x10 x11 x12 x13 x14 x15 x16:Option V} {xs:List V} {i:Nat} {P:Pt} {o:V} {mask:List Bool} {n:Str} {L:Pr} {ab:List Str}
noncomputable abbrev a2V (n:Str) (L:Pr):List V:=[.tup [.str (sc 65),txV n],.tup [.str (sc 58),slV L]]
noncomputable abbrev ctV (r7:Addr):V:=.tup [.str (sc 68),Cb (sc 22) (.ref r7) .none]
theorem args_a (hd:4<=d) (hL:L.length<=3) (z:Zs He rc ((r9,pkV P)::(r7,ssV ab)::(r4,Ab L)::F) H)
    (hN:∀ H' r11,Zs He rc ((r11,.lst (a2V n L++[ctV r7]))::(r9,pkV P)::(r7,ssV ab)::(r4,Ab L)::F) H'->vcS d none q1507_17 N R E (lwM rc ri w (some (.str n)) (some (.ref r4)) x5 x6 (some (.ref r7)) x8 (some (.ref r9)) x10 (some (.ref r11)) x12 x13 x14 x15 x16) H') :
    vcS d none q1507_15 N R E (lwM rc ri w (some (.str n)) (some (.ref r4)) x5 x6 (some (.ref r7)) x8 (some (.ref r9)) x10 x11 x12 x13 x14 x15 x16) H:=by
  have h4:=(z.f _ (.tail _ (.tail _ (.head _)))).1;dsimp [q1507_15];refine Bw (Nat.le_trans (by decide) hd) ?_;dsimp;refine ⟨by decide,?_⟩;refine wl (Co h4 ..) ?_;dsimp only [BE];refine comp_snd (Nat.le_trans (by decide) hd) (AN ‹_› (by decide)) fun r hr=>AF hr ?_;dsimp;refine wl (Co h4 ..) ?_;dsimp only [BE];refine Bs (Nat.le_trans (by decide) hd) (AN ‹_› (by decide)) fun r hr=>AF hr ?_;refine law_texts_c (Nat.le_trans (by decide) hd) ?_;dsimp;refine ⟨by decide,by decide,fun r11 h11=>AB ?_⟩;have z:=z.new (v:=.lst (a2V n L)) h11;dsimp [q1507_16];refine wl (CF (z.f _ (.head _)).1 ..) ?_;refine ⟨rfl,AB ?_⟩;dsimp;refine Cl (Nat.le_trans (by decide) hd) fun r hr=>BH hr ?_;refine ⟨by decide,CH (z.f _ (.head _)).1 (Nat.le_of_ble_eq_true rfl) (hN _ _ (Zs.set (A:=[]) z))⟩
noncomputable def gV:V->V
  | .tup [_,.str k]=>if k=sc 17 then pvV 15 else pvV 22
  | _=>.none
theorem g_pk {x:Str×Nat} (h:x.2=15\/x.2=22):gV (prV (pk x))=pvV x.2:=by
  have e:sc 22≠sc 17:=of_decide_eq_false (dq rfl);obtain ⟨s,k⟩:=x;rcases h with h | h
  . cases h;show (if sc 17=sc 17 then pvV 15 else pvV 22)=pvV 15;exact if_pos rfl
  . cases h;show (if sc 22=sc 17 then pvV 15 else pvV 22)=pvV 22;exact if_neg e
theorem args_v (hd:4<=d) {x:Str×Nat} (h:x.2=15\/x.2=22) {P:KV} (k:P (gV (prV (pk x))) H) :
    vcE d (.ite (.cmp .Eq (.sub (.loc 0) (.cst (.int 1))) (.cst (.str (sc 17)))) (.call (.glb (.ref 487)) (.cons (.cst (.str (sc 15))) (.cons (.list (.cons (.cst (.int 4)) .nil)) .nil))) (.call (.glb (.ref 1476)) (.cons (.cst (.str (sc 95))) .nil))) (fun w H=>cv w H P) (fun Y Y=>False) (some (prV (pk x))::m) H:=by
  rw [g_pk h] at k;obtain ⟨s,i⟩:=x;dsimp;refine ⟨by decide,?_⟩;rcases h with h | h
  . cases h;refine brE (decide_eq_true rfl) (brT ⟨by decide,fun r hr=>AF hr ?_⟩);exact Cl (Nat.le_trans (by decide) hd) fun r hr=>BH hr k
  . cases h;refine brE (show decide (sc 22=sc 17)=false from dq rfl) (brF ?_);exact Bw (Nat.le_trans (by decide) hd) k
theorem args_b (hd:4<=d) (hP:P.length<=3) (hPk:∀ x∈P,(x.2=15\/x.2=22)/\gd x.1) (z:Zs He rc ((r11,.lst (a2V n L++[ctV r7]))::(r9,pkV P)::F) H)
    (hN:∀ H' x12,Zs He rc ((r11,arV (asA (txV n) (slV L) (Cb (sc 22) (.ref r7) .none) P))::(r9,pkV P)::F) H'->vcS d none q1507_20 N R E (lwM rc ri w (some (.str n)) (some (.ref r4)) x5 x6 (some (.ref r7)) x8 (some (.ref r9)) x10 (some (.ref r11)) x12 x13 x14 x15 x16) H') :
    vcS d none q1507_17 N R E (lwM rc ri w (some (.str n)) (some (.ref r4)) x5 x6 (some (.ref r7)) x8 (some (.ref r9)) x10 (some (.ref r11)) x12 x13 x14 x15 x16) H:=by
  have h9:=(z.f _ (.tail _ (.head _))).1;dsimp [q1507_17];refine ⟨by decide,fun r hr=>?_⟩;have zr:=z.garb (v:=.lst []) hr;have gp:∀ x∈P.map pk,gd x.1/\gd x.2:=fun x hx=>by
    obtain ⟨y,hy,rfl⟩:=List.mem_map.mp hx;obtain ⟨a,b⟩:=hPk y hy;refine ⟨b,?_⟩;unfold pk;dsimp only [BE];rcases a with a | a
    . rw [a];exact (isK.gd (.inl rfl):gd (sc 17))
    . rw [a];exact (isK.gd (.inr (.inl rfl)):gd (sc 22))
  have h9r:=(zr.f _ (.tail _ (.head _))).1;refine wl (eq_pnil (H:=upd H r (.lst [])) (a:=.ref r9) (b:=.ref r) h9r (AA ..) gp ..) ?_;clear h9 z hr;generalize upd H r (.lst [])=H at zr h9r ⊢;unfold asA at hN;by_cases e:P=[]
  . subst e;replace hN:=if_pos rfl▸hN;exact brF (hN _ _ zr)
  . replace hN:=if_neg e▸hN;refine brE (b':=true) (by cases P with | nil=>exact absurd rfl e | cons=>rfl) (brT ?_);dsimp [q1507_18,-E_ite];refine wl (Co h9r ..) ?_;dsimp only [BE];refine comp_map2 gV (Nat.le_trans (by decide) hd) (by rw [List.length_map,List.length_map];exact AN ‹_› (by decide)) (fun v hv Q k=>?_) fun r hr=>AF hr ?_
    . obtain ⟨y,hy,rfl⟩:=List.mem_map.mp hv;obtain ⟨x,hx,rfl⟩:=List.mem_map.mp hy;exact args_v hd (hPk x hx).1 k
    have em:((P.map pk).map prV).map gV=P.map fun x=>pvV x.2:=by refine wl (List.map_map ..) ?_;exact wl (List.map_map ..) (List.map_congr_left fun x hx=>g_pk (hPk x hx).1)
    refine wl (em ..) ?_;dsimp [q1507_19];refine wl (CF (zr.f _ (.head _)).1 ..) ?_;refine ⟨rfl,?_⟩;refine wl (Co h9r ..) ?_;dsimp only [BE];refine ⟨by decide,?_⟩;refine Bs (Nat.le_trans (by decide) hd) (by rw [List.length_map];exact AN ‹_› (by decide)) fun r hr=>AF hr ?_;refine Cl (Nat.le_trans (by decide) hd) fun r hr=>BH hr ?_;refine ⟨rfl,fun r hr=>AF hr ?_⟩;refine vec_c (Nat.le_trans (by decide) hd) fun r hr=>BH hr ?_;refine ⟨by decide,CH (zr.f _ (.head _)).1 (Nat.le_of_ble_eq_true rfl) ?_⟩;have:=Zs.set (A:=[]) (v:=.lst (a2V n L++[ctV r7]++[.tup [.str (sc 67),prA P]])) zr;have g:=hN _ (some (.lst (P.map fun x=>pvV x.2))) this;have ep:prA P=vec (sc 23) (P.map fun x=>pvV x.2) (.dct [(sc 3,vec (sc 22) (P.map fun x=>.str x.1) .none)]):=if_neg e;replace g:=ep▸g;exact wl (List.map_map (l:=P) (f:=pk) ..) (g)
end
theorem scp {i:Nat} (h:([42,45,48,50,81,83].contains i)=true):0<(sc i).length:=by
  have:([42,45,48,50,81,83].all fun i=>decide (0<(sc i).length))=true:=by decide +kernel
  exact of_decide_eq_true (List.all_eq_true.mp this i (by simpa using h))
section
variable {T:Tb} {n s p:Str} {ab:List Str} {L:Pr} {P:Pt}
theorem AR {a b:Str} (h:0<a.length):0<(a++b).length:=by rw [Str.length_append];exact Nat.lt_of_lt_of_le h (Nat.le_add_right _ _)
theorem abM_pos:∀ {ab:List Str},abM T n ab=some s->0<s.length:=by
  intro l
  induction l with
  | nil=>intro h;cases h
  | cons p ab IH =>
    intro h;rw [Dd] at h;split at h
    . rw [<- Option.some.inj h,mGone_eq];exact AR (AR (AR (AR (AR (scp rfl)))))
    . split at h
      . rw [<- Option.some.inj h,mOwn_eq];exact AR (AR (scp rfl))
      . exact IH h
theorem repM_pos:∀ {L seen:Pr},Cc n seen L=some s->0<s.length
  | [],_,h=>by cases h
  | x::L,seen,h=>by
    rw [Dk] at h;split at h
    . rw [<- Option.some.inj h,mRep_eq];exact AR (AR (AR (AR (scp rfl))))
    . exact repM_pos h
theorem clP_pos:∀ {q:Pr},clP n L p q=some s->0<s.length:=by
  intro l
  induction l with
  | nil=>intro h;cases h
  | cons x q IH =>
    intro h;rw [clP] at h;split at h
    . split at h
      . rw [<- Option.some.inj h,mClash_eq];exact AR (AR (AR (AR (AR (AR (scp rfl))))))
      . exact IH h
    . exact IH h
theorem clM_pos:∀ {ab:List Str},clM T n L ab=some s->0<s.length:=by
  intro l
  induction l with
  | nil=>intro h;cases h
  | cons p ab IH =>
    intro h;rw [clM] at h;split at h
    . rename_i q;cases h;exact clP_pos q
    . exact IH h
theorem prM_pos {S:Pr}:∀ {P:Pt},prM S n P=some s->0<s.length:=by
  intro l
  induction l with
  | nil=>intro h;cases h
  | cons x P IH =>
    intro h;rw [prM] at h;split at h
    . rw [<- Option.some.inj h,mHas_eq];exact AR (AR (AR (AR (AR (scp rfl)))))
    . split at h
      . exact IH h
      . rw [<- Option.some.inj h,mKind_eq];exact AR (AR (AR (AR (scp rfl))))
theorem bad_ne (h:Dv T n L ab P=some s):s≠sc 1:=by
  have:0<s.length:=by
    unfold Dv at h;split at h
    . rename_i q;cases h;unfold Ds at q;split at q
      . rename_i e;cases q;exact abM_pos e
      . split at q
        . rename_i e;cases q;exact repM_pos e
        . exact clM_pos q
    . exact prM_pos h
  intro e;have e0:(sc 1).length=0:=by decide +kernel
  rw [e,e0] at this;exact Nat.lt_irrefl _ this
end
section
variable {H H':Hp} {ri w rc a:Addr} {b:Bool} {md:Option Q3} {T:Tb} {q:Q3} {xs:List V} {v:V}
theorem Sv.off_l (h:Sv H ri b md T) (e:H a=some (.lst xs)):a∉fr ri md:=fun i=>by
  cases h with
  | fresh h=>rw [List.mem_singleton.mp i,h] at e;cases e
  | made h =>
    cases i with
    | head=>rw [h.i] at e;cases e
    | tail _ i=>rw [List.mem_singleton.mp i,h.t.c] at e;cases e
theorem Sv.kp (h:Sv H ri b md T) (k:∀ b v,H b=some v->(∀ xs,v≠.lst xs)->b∈fr ri md\/(∃ C es,v = .obj C es)->H' b=some v):Sv H' ri b md T:=by
  cases h with
  | fresh h=>exact .fresh (k _ _ h (fun Y=>V.noConfusion) (.inl (.head _)))
  | made h=>exact .made ⟨k _ _ h.i (fun Y=>V.noConfusion) (.inr ⟨_,_,rfl⟩),k _ _ h.s (fun Y=>V.noConfusion) (.inr ⟨_,_,rfl⟩),⟨k _ _ h.t.t (fun Y=>V.noConfusion) (.inr ⟨_,_,rfl⟩),k _ _ h.t.c (fun Y=>V.noConfusion) (.inl (.tail _ (.head _)))⟩⟩
theorem Sv.vis (h:Sv H ri b md T):∃ s,H ri=some (.obj 1444 (evE b s))/\∀ b',Sv (upd H ri (.obj 1444 (evE b' s))) ri b' md T:=by
  cases h with
  | fresh h=>exact ⟨_,h,fun b'=>.fresh (AA ..)⟩
  | made h=>exact ⟨_,h.i,fun b'=>.made h.vis⟩
theorem Sv.del_l (h:Sv H ri b md T) (e:H a=some (.lst xs)):Sv (del H a) ri b md T:=h.kp fun c v hc n Y=>by unfold del;rw [if_neg (fun q=>by rw [q,e] at hc;cases hc;exact n _ rfl)];exact hc
theorem Sv.upd_w {ds es:List (Str×V)} (h:Sv H ri b md T) (e:H w=some (.dct ds)) (n:w∉fr ri md):Sv (upd H w (.dct es)) ri b md T:=h.kp fun c v hc Y o=>by
  rw [AC (fun q=>?_)];exact hc;subst q;rcases o with o | ⟨C,es,rfl⟩
  . exact n o
  . rw [hc] at e;cases e
inductive Fs (ri w rc:Addr) (H:Hp):Prop
  | mk (md:Option Q3) (b:Bool) (T:Tb) (cs:List Int) (ok:Ok T) (s:Sv H ri b md T) (hw:H w=some (.dct (wdE T))) (nw:w∉fr ri md) (hc:H rc=some (isL cs)) (hl:cs.length<=1000):Fs ri w rc H
end
section
variable {d:Nat} {K:KV} {X:KX} {He H H':Hp} {rc ri w r r4 r7 r9 r1 r11 a:Addr} {F A B:List (Addr×V)} {v old:V} {m:Lm} {N:Lm->Hp->Prop} {R:KV} {E:KS} {x3 x4 x5 x6 x7 x8 x9 x10 x11 x12 x13 x14 x15 x16:Option V} {xs:List V} {i:Nat} {P:Pt} {o:V} {mask:List Bool} {n s:Str} {L:Pr} {ab:List Str} {b:Bool} {md:Option Q3} {T:Tb} {q:Q3}
structure Cs (rc w r4 r7 r9:Addr) (L:Pr) (ab:List Str) (P:Pt) (T:Tb) (H:Hp):Prop where
  c:∃ cs,H rc=some (isL cs)/\cs.length<=1000
  w:H w=some (.dct (wdE T))
  h4:H r4=some (Ab L)
  h7:H r7=some (ssV ab)
  h9:H r9=some (pkV P)
theorem Cs.keep (z:Cs rc w r4 r7 r9 L ab P T H) (k:∀ a v,a=w\/(∃ xs,v = .lst xs)->H a=some v->H' a=some v):Cs rc w r4 r7 r9 L ab P T H':=by obtain ⟨cs,hc,hl⟩:=z.c;exact ⟨⟨cs,k _ _ (.inr ⟨_,rfl⟩) hc,hl⟩,k _ _ (.inl rfl) z.w,k _ _ (.inr ⟨_,rfl⟩) z.h4,k _ _ (.inr ⟨_,rfl⟩) z.h7,k _ _ (.inr ⟨_,rfl⟩) z.h9⟩
theorem Cs.garb (z:Cs rc w r4 r7 r9 L ab P T H) (hr:H r=none):Cs rc w r4 r7 r9 L ab P T (upd H r v):=z.keep fun a v Y e=>by rw [AC (fun q=>by rw [q,hr] at e;cases e)];exact e
theorem eqr_p {b:Addr} {S:Pr} (h:H a=some (Ab S)) (h':H b=some (.lst [])) (hg:∀ x∈S,gd x.1/\gd x.2):Bb (.ref a) (.ref b) H=some S.isEmpty:=eq_pnil (H:=H) (a:=.ref a) (b:=.ref b) h h' hg
theorem eqr_s {b:Addr} {l:List Str} (h:H a=some (ssV l)) (h':H b=some (.lst [])) (hg:∀ s∈l,gd s):Bb (.ref a) (.ref b) H=some l.isEmpty:=eq_snil (H:=H) (a:=.ref a) (b:=.ref b) h h' hg
theorem end_told (hd:1<=d) (k:R (.bool true) H):vcS d none q1507_31 N R E (lwM rc ri w x3 x4 x5 x6 x7 x8 x9 x10 x11 x12 (some (.str s)) (some (.str s)) x15 x16) H:=by dsimp [q1507_31];rw [decide_eq_true rfl];exact k
theorem end_bad (hd:1<=d) (hs:s≠sc 1) (k:R (.bool true) H):vcS d none q1507_28 N R E (lwM rc ri w x3 x4 x5 x6 x7 x8 x9 x10 x11 x12 (some (.str s)) (some (.str s)) x15 x16) H:=by dsimp [q1507_28];exact brE (decide_eq_false hs) (brF (end_told hd k))
theorem we_put {A B C:V}:Cq (put [(sc 58,A)] (sc 79) B) ([sc 96].zip [C])=[(sc 58,A),(sc 79,B),(sc 96,C)]:=by show put (put [(sc 58,A)] (sc 79) B) (sc 96) C=_;have h1:sc 58≠sc 79:=of_decide_eq_false (dq rfl);have h2:sc 58≠sc 96:=of_decide_eq_false (dq rfl);have h3:sc 79≠sc 96:=of_decide_eq_false (dq rfl);rw [CJ,if_neg h1];refine wl (DK ..) ?_;refine wl (CJ ..) ?_;refine wl (if_neg h2 ..) ?_;refine wl (CJ ..) ?_;refine wl (if_neg h3 ..) ?_;exact wl (DK ..) rfl
theorem end_put (hd:1<=d) (n4:r4≠r7) (n4w:r4≠w) (n7w:r7≠w) (n4c:r4≠rc) (n7c:r7≠rc) (hs:Sv H ri b md T') (nw:w∉fr ri md) (ok:Ok T') (hT:T.length<=100) (z:Cs rc w r4 r7 r9 L ab P T H) (e:T'=Ae T n (mkC L ab P)) (k:∀ H',Fs ri w rc H'->R (.bool true) H') :
    vcS d none q1507_30 (fun m H=>vcS d none q1507_31 N R E m H) R E (lwM rc ri w (some (.str n)) (some (.ref r4)) x5 x6 (some (.ref r7)) x8 x9 x10 x11 x12 (some (.str s)) (some (.str s)) x15 (some (.bool (L.isEmpty && ab.isEmpty && P.isEmpty)))) H:=by
  obtain ⟨cs,hc,hl⟩:=z.c;dsimp [q1507_30];refine ⟨by decide,DX z.h4 ?_⟩;dsimp;have h7:del H r4 r7=some (ssV ab):=by unfold del;rw [if_neg (Ne.symm n4)];exact z.h7
  refine DX h7 ⟨rfl,fun rd hrd=>AF hrd ?_⟩;have hw:del (del H r4) r7 w=some (.dct (wdE T)):=by unfold del;rw [if_neg (Ne.symm n7w),if_neg (Ne.symm n4w)];exact z.w
  have hcc:del (del H r4) r7 rc=some (isL cs):=by unfold del;rw [if_neg (Ne.symm n7c),if_neg (Ne.symm n4c)];exact hc
  refine setD hw (by unfold wdE;rw [List.length_map];exact Bq ‹_› (by decide)) (end_told hd (k _ ?_));have nc:rc≠w:=fun q=>by rw [q,hw] at hcc;cases hcc
  refine .mk md b T' cs ok (((hs.del_l z.h4).del_l h7).upd_w hw nw) ?_ nw ((AC nc).trans hcc) hl;rw [AA,e,wd_put,we_put];rfl
theorem end_ok (hd:1<=d) (n4:r4≠r7) (n4w:r4≠w) (n7w:r7≠w) (n4c:r4≠rc) (n7c:r7≠rc) (hs:Sv H ri b md (Ae T n (mkC L ab P))) (nw:w∉fr ri md) (ok:Ok (Ae T n (mkC L ab P))) (hT:T.length<=100) (hL:∀ x∈L,isS x.1/\isK x.2) (hab:∀ p∈ab,isN p) (hPk:∀ x∈P,(x.2=15\/x.2=22)/\gd x.1) (z:Cs rc w r4 r7 r9 L ab P T H) (k:∀ H',Fs ri w rc H'->R (.bool true) H') :
    vcS d none q1507_28 N R E (lwM rc ri w (some (.str n)) (some (.ref r4)) x5 x6 (some (.ref r7)) x8 (some (.ref r9)) x10 x11 x12 (some (.str (sc 1))) (some (.str (sc 1))) x15 x16) H:=by
  have gp:∀ x∈P.map pk,gd x.1/\gd x.2:=fun x hx=>by
    obtain ⟨y,hy,rfl⟩:=List.mem_map.mp hx;obtain ⟨a,b⟩:=hPk y hy;refine ⟨b,?_⟩;unfold pk;dsimp only [BE];rcases a with a | a
    . rw [a];exact (isK.gd (.inl rfl):gd (sc 17))
    . rw [a];exact (isK.gd (.inr (.inl rfl)):gd (sc 22))
  dsimp [q1507_28];refine brE (decide_eq_true rfl) (brT ?_);have g:∀ {H r},H r=none->Sv H ri b md (Ae T n (mkC L ab P))->Cs rc w r4 r7 r9 L ab P T H->Sv (upd H r (.lst [])) ri b md (Ae T n (mkC L ab P))/\Cs rc w r4 r7 r9 L ab P T (upd H r (.lst [])):=fun hr s z=>⟨s.sub (Sub.refl.upd hr),z.garb hr⟩
  have fin:∀ {H t},Sv H ri b md (Ae T n (mkC L ab P))->Cs rc w r4 r7 r9 L ab P T H->(L.isEmpty && ab.isEmpty && P.isEmpty)=t->vcS d none q1507_30 (fun m H=>vcS d none q1507_31 N R E m H) R E (lwM rc ri w (some (.str n)) (some (.ref r4)) x5 x6 (some (.ref r7)) x8 (some (.ref r9)) x10 x11 x12 (some (.str (sc 1))) (some (.str (sc 1))) x15 (some (.bool t))) H:=fun s z e=>e▸end_put hd n4 n4w n7w n4c n7c s nw ok hT z rfl k;dsimp [q1507_29];refine ⟨by decide,fun r hr=>?_⟩;obtain ⟨s1,z1⟩:=g hr hs z;refine wl (eqr_p z1.h4 (AA ..) fun x hx=>⟨(hL x hx).1.gd,(hL x hx).2.gd⟩ ..) ?_;cases e1:L.isEmpty with
  | false=>exact brF (fin s1 z1 (by rw [e1];rfl))
  | true =>
    refine brT ⟨by decide,fun r hr=>?_⟩;obtain ⟨s2,z2⟩:=g hr s1 z1;refine wl (eqr_s z2.h7 (AA ..) fun p hp=>(hab p hp).gd ..) ?_;cases e2:ab.isEmpty with
    | false=>exact brF (fin s2 z2 (by rw [e1,e2];rfl))
    | true=>refine brT ⟨by decide,fun r hr=>?_⟩;obtain ⟨s3,z3⟩:=g hr s2 z2;exact wl (eqr_p z3.h9 (AA ..) gp ..) (fin s3 z3 (by rw [e1,e2];cases P<;>rfl))
end
section
variable {d:Nat} {K:KV} {X:KX} {He H H':Hp} {rc ri w r r4 r7 r9 r1 r11 a:Addr} {F A B:List (Addr×V)} {v old:V} {m:Lm} {N:Lm->Hp->Prop} {R:KV} {E:KS} {x3 x4 x5 x6 x7 x8 x9 x10 x11 x12 x13 x14 x15 x16:Option V} {xs:List V} {i:Nat} {P:Pt} {o:V} {mask:List Bool} {n s:Str} {L:Pr} {ab:List Str} {b:Bool} {md:Option Q3} {T:Tb} {q:Q3} {cs0:List Int}
theorem set_call (hd:12<=d) (z:Zs He rc [(r11,arV (asA (txV n) (slV L) (Cb (sc 22) (.ref r7) .none) P)),(r9,pkV P),(r7,ssV ab),(r4,Ab L)] H) (hrc:He rc=some (isL cs0)) (hs:Sv He ri b md T) (hw:He w=some (.dct (wdE T))) (nw:w∉fr ri md) (ok:Ok T) (hn:isC n)
    (hL3:L.length<=3) (hLs:∀ x∈L,isS x.1/\isK x.2) (hab:ab.length<=2) (habn:∀ p∈ab,isN p) (hP:P.length<=3) (hnd:(P.map (·.1)).Nodup) (hPk:∀ x∈P,(x.2=15\/x.2=22)/\Sh x.1/\gd x.1) (hk:∀ H',Fs ri w rc H'->R (.bool true) H') :
    vcS d none q1507_20 N R E (lwM rc ri w (some (.str n)) (some (.ref r4)) x5 x6 (some (.ref r7)) x8 (some (.ref r9)) x10 (some (.ref r11)) x12 x13 x14 x15 x16) H:=by
  have nwc:w≠rc:=fun q=>by rw [q,hrc] at hw;cases hw
  have sv:Sv H ri b md T:=hs.kp fun a v e n Y=>z.k a v (fun i=>by rw [List.mem_singleton.mp i,hrc] at e;cases e;exact n _ rfl) e;have w':H w=some (.dct (wdE T)):=z.k w _ (fun i=>nwc (List.mem_singleton.mp i)) hw;obtain ⟨h11,e11,c11⟩:=z.f _ (.head _);obtain ⟨h9,e9,c9⟩:=z.f _ (.tail _ (.head _));obtain ⟨h7,e7,c7⟩:=z.f _ (.tail _ (.tail _ (.head _)));obtain ⟨h4,e4,c4⟩:=z.f _ (.tail _ (.tail _ (.tail _ (.head _))));have nd:=z.nd;simp only [List.map_cons,List.map_nil,List.nodup_cons,List.mem_cons,List.not_mem_nil,or_false,not_or] at nd;obtain ⟨⟨n119,n117,n114⟩,⟨n97,n94⟩,n74,_⟩:=nd;have ne:∀ {a:Addr},He a=none->a≠w:=fun e q=>by rw [q,hw] at e;cases e
  have cz:Cs rc w r4 r7 r9 L ab P T H:=⟨z.c,w',h4,h7,h9⟩
  obtain ⟨s0,hri,hvis⟩:=sv.vis;have wri:w≠ri:=fun q=>nw (Ck _ (by rw [q];exact .head _));dsimp [q1507_20];refine AB ?_;dsimp;refine AB ?_;dsimp;refine AB ?_;dsimp;refine AB ?_;refine law_fault_c (Nat.le_trans (by decide) hd) ok w' wd_WAt (by unfold wdE;rw [List.length_map];have:=ok.len;exact AN ‹_› (by decide)) hn h4 h7 h9 hL3 hLs hab habn (fun x hx=>⟨(hPk x hx).1,(hPk x hx).2.1⟩) ?_;dsimp [q1507_21,q1507_22];refine setO rfl hri rfl ?_;refine wl (ev19p ..) ?_;have cz2:Cs rc w r4 r7 r9 L ab P T (upd H ri (.obj 1444 (evE true s0))):=cz.keep fun a v h e=>by
    rw [AC (fun q=>?_)];exact e;rcases h with h | ⟨xs,rfl⟩
    . exact wri (h.symm.trans q)
    . rw [q,hri] at e;cases e
  have sv2:=hvis true;have h11':upd H ri (.obj 1444 (evE true s0)) r11=some (arV (asA (txV n) (slV L) (Cb (sc 22) (.ref r7) .none) P)):=by rw [AC (fun q=>by rw [q,hri] at h11;cases h11)];exact h11
  dsimp [q1507_23];refine ⟨Nat.le_trans (by decide) hd,rfl,?_⟩;dsimp [q1507_24];refine AB ?_;dsimp;refine DX h11' ?_;have r11ri:ri≠r11:=fun q=>by rw [<- q,hri] at h11;cases h11
  have cz3:Cs rc w r4 r7 r9 L ab P T (del (upd H ri (.obj 1444 (evE true s0))) r11):=by
    obtain ⟨cs,hc,hl⟩:=cz2.c;have g:∀ {a:Addr} {v:V},upd H ri (.obj 1444 (evE true s0)) a=some v->a≠r11->del (upd H ri (.obj 1444 (evE true s0))) r11 a=some v:=fun e n=>by unfold del;rw [if_neg n];exact e
    exact ⟨⟨cs,g hc (Ne.symm c11),hl⟩,g cz2.w (Ne.symm (ne e11)),g cz2.h4 (Ne.symm n114),g cz2.h7 (Ne.symm n117),g cz2.h9 (Ne.symm n119)⟩
  have sv3:=sv2.del_l h11';generalize hH3:del (upd H ri (.obj 1444 (evE true s0))) r11=H3 at cz3 sv3 ⊢;have hri3:H3 ri=some (.obj 1444 (evE true s0)):=by rw [<- hH3];unfold del;rw [if_neg r11ri];exact AA ..
  dsimp;refine BA hri3 ev18 rfl ?_;dsimp;have keep:∀ {H4},Kp H3 H4 (fr ri md)->Cs rc w r4 r7 r9 L ab P T H4:=fun {H4} k=>cz3.keep fun a v h e=>k a v (fun i=>by
    rcases h with h | ⟨xs,rfl⟩
    . exact nw (h▸i)
    . exact sv3.off_l e i) e
  refine b_setClass_c (dle hd rfl) sv3 ok hn hL3 hLs hab habn cz3.h7 hP hnd (fun x hx=>⟨(hPk x hx).1,(hPk x hx).2.1⟩) (fun H4 q es hb m k x=>?_) fun H4 q s hb m k x=>?_
  . dsimp [q1507_25];refine BA m.i ev19 rfl (brF ?_);have due:Dr T n L ab P=sc 1:=by unfold Dr;rw [hb];rfl
    refine wl (due ..) ?_;have nw':=(Tr.call k x w _ nw cz3.w).1;refine end_ok (Nat.le_trans (by decide) hd) (Ne.symm n74) (ne e4) (ne e7) c4 c7 (.made m) nw' ?_ (by have:=ok.len;exact AN ‹_› (by decide)) hLs habn (fun x hx=>⟨(hPk x hx).1,(hPk x hx).2.2⟩) (keep k) hk;have hab0:abM T n ab=none:=by
      cases e:abM T n ab with
      | none=>rfl
      | some s=>rw [Dv,Ds,e] at hb;cases hb
    exact ok.put hn hab (abM_in hab0) ⟨hL3,hLs⟩
  . have due:Dr T n L ab P=s:=by unfold Dr;rw [hb];rfl
    refine wl (due ..) ?_;dsimp [q1507_27];refine ⟨rfl,?_⟩;have c4:=keep k;obtain ⟨cs,hc,hl⟩:=c4.c;exact end_bad (Nat.le_trans (by decide) hd) (bad_ne hb) (hk _ (.mk (some q) true T cs ok (.made m) c4.w (Tr.call k x w _ nw cz3.w).1 hc hl))
end
section
variable {d:Nat} {K:KV} {X:KX} {H:Hp} {rc ri w:Addr}
theorem law_set_c (hd:13<=d) (h:Fs ri w rc H) (hk:∀ H',Fs ri w rc H'->K (.bool true) H'):AD d (.ref 1507) [.ref rc,.ref ri,.ref w] K X H:=by
  obtain ⟨md,b,T,cs,ok,s,hw,nw,hc,hl⟩:=h;have hd':12<=d - 1:=dle hd rfl;have h4:4<=d - 1:=Nat.le_trans (by decide) hd';have h1:1<=d - 1:=Nat.le_trans (by decide) hd';refine AE f1507 AQ (m:=lwM rc ri w none none none none none none none none none none none none none none) (d0 hd rfl) rfl rfl ?_;have z:Zs H rc [] H:=⟨.refl,⟨cs,hc,hl⟩,fun x hx=>(by cases hx),List.Pairwise.nil⟩
  dsimp [q1507_0,-E_sub];refine pick_z (is:=[86,87,88]) (most:=3) h1 z rfl rfl (by decide) (by decide) fun i hi H1 z=>?_;have hn:isC (sc i):=by simp only [List.mem_cons,List.not_mem_nil,or_false] at hi;rcases hi with rfl | rfl | rfl<;>simp [isC]
  refine ls_slots h1 z fun H2 r4 L x5 x6 hL hLs z=>?_;refine ls_above h1 z fun H3 r7 ab x5 x8 hab habn z=>?_;refine ls_proto h1 z fun H4 r9 P x6 x10 hP hnd hPk z=>?_;refine args_a h4 hL z fun H5 r11 z=>?_;refine args_b h4 hP (fun x hx=>⟨(hPk x hx).1,(hPk x hx).2.2⟩) z fun H6 x12 z=>?_;exact set_call hd' z hc s hw nw ok hn hL hLs hab habn hP hnd hPk fun H' f=>.keep (hk H' f)
theorem law_same_f (hd:10<=d) (h:Fs ri w rc H) (hk:∀ H',Fs ri w rc H'->K (.bool true) H'):AD d (.ref 1512) [.ref ri,.ref w] K X H:=by obtain ⟨md,b,T,cs,ok,s,hw,nw,hc,hl⟩:=h;refine law_same_c hd ok s hw nw fun H' q m t=>hk H' ?_;exact .mk (some q) b T cs ok (.made m) (t _ _ nw hw).2 (t _ _ nw hw).1 (t _ _ (s.off_l hc) hc).2 hl
end
section
variable {d:Nat} {K:KV} {X:KX} {H H':Hp} {r r0 r1 r4 r5 a:Addr} {iv v:V} {xs ys:List V} {m:Lm} {N:Lm->Hp->Prop} {R:KV} {E:KS} {x0 x1 x2 x3 x4 x5:Option V} {i j:Nat} {x:Int} {l:List Int}
theorem extrK (hd:0<d) (h1:m[i]?=some (some (.ref r))) (h2:m[j]?=some (some (.lst ys))) (e:H r=some (.lst xs)) (hx:xs.length<=1000000) (hy:ys.length<=1000000) (k:K .none (upd H r (.lst (xs++ys.reverse)))):vcE d (.extr (.loc i) (.loc j)) K X m H:=by refine wl (E_extr ..) ?_;refine wl (Df ..) ?_;refine wl (h1 ..) ?_;show oX (H r) _;refine wl (e ..) ?_;refine wl (BE ..) ?_;refine wl (aL_l ..) ?_;refine wl (Df ..) ?_;refine wl (h2 ..) ?_;show oX (H r) _;exact wl (e ..) (And.intro ⟨hd,hx,hy⟩ k)
theorem mulOk:IntMulOk 6 x:=IntMulOk.of_left (by decide)
theorem divOk:Builtin.divisionGoesByPylong x 96=false:=rfl
inductive WbJ (H:Hp) (x0 x1 x2 x5:Option V) (r4:Addr):Nat->Lm->Hp->Prop
  | mk (y:Int) (b:List Int) (hb:b.length<=16):WbJ H x0 x1 x2 x5 r4 (16 - b.length) [x0,x1,x2,some (.int y),some (.ref r4),x5] (upd H r4 (isL b))
theorem box_c (hd:1<=d) (h4:H r4=none) {y:Int} {b:List Int} (hb:b.length<=16) (hN:∀ y b,b.length<=16->N [x0,x1,x2,some (.int y),some (.ref r4),x5] (upd H r4 (isL b))) :
    whlP d none (.bop .And (.cons (.cmp .Gt (.loc 3) (.cst (.int (0)))) (.cons (.cmp .Lt (.len (.loc 4)) (.cst (.int (16)))) .nil))) q1462_8 N R E [x0,x1,x2,some (.int y),some (.ref r4),x5] (upd H r4 (isL b)):=by
  refine whl_by (WbJ H x0 x1 x2 x5 r4) _ (.mk y b hb) ?_;intro n m H' hJ;cases hJ with | mk y b hb
  dsimp;refine br (fun Y=>?_) fun Y=>brF (hN _ _ hb);refine lenR (AA ..) (by rw [List.length_map];exact AN ‹_› (by decide)) ?_;dsimp;refine wl (List.length_map ..) ?_;by_cases lt:b.length<16
  . refine brE (decide_eq_true (Int.ofNat_lt.mpr lt)) (brT ?_);dsimp [q1462_8];refine apL2 (by decide) (AA ..) (by rw [List.length_map];exact Bq ‹_› (by decide)) rfl ?_;rw [AS,show (b.map V.int++[V.int (y.fmod 96)])=(b++[y.fmod 96]).map .int from by rw [List.map_append];rfl];dsimp [q1462_9];refine ⟨⟨by decide,divOk⟩,16 - (b++[y.fmod 96]).length,by rw [List.length_append,List.length_singleton];exact r_sl ‹_›,.mk _ _ (by rw [List.length_append,List.length_singleton];exact lt)⟩
  . exact brE (decide_eq_false fun q=>lt (Int.ofNat_lt.mp q)) (brF (hN _ _ hb))
theorem cell_c {bs:List (List Int)} (hd:1<=d) (h1:H r1=some (.lst (bs.map isL))) (hl:bs.length<=100) (hN:∀ b x3 x4,b.length<=16->N [x0,some (.ref r1),some (.int x),x3,x4,x5] (upd H r1 (.lst ((bs++[b]).map isL)))) :
    vcS d none q1462_2 N R E [x0,some (.ref r1),some (.int x),x3,x4,x5] H:=by
  have go:∀ y:Int,vcS d none q1462_5 N R E [x0,some (.ref r1),some (.int x),some (.int y),x4,x5] H:=fun y=>by
    dsimp [q1462_5];refine ⟨by decide,by decide,fun r4 h4=>AB ?_⟩;dsimp [q1462_6];refine ⟨⟨by decide,divOk⟩,?_⟩;dsimp [q1462_7];refine box_c (b:=[y.fmod 96]) hd h4 (Nat.le_of_ble_eq_true rfl) fun y b hb=>?_;have n14:r1≠r4:=fun q=>by rw [q,h4] at h1;cases h1
    dsimp [q1462_10];refine wl (CF ((AC n14).trans h1) ..) ?_;refine ⟨rfl,DX (AA ..) ?_⟩;refine wl (del_upd h4 ..) ?_;dsimp;refine CH h1 (by rw [List.length_map];exact Bq ‹_› (by decide)) ?_;have:=hN b (some (.int y)) (some (.ref r4)) hb;replace this:=List.map_append▸this;exact this
  dsimp [q1462_2];dsimp [q1462_3];refine br (fun Y=>?_) fun Y=>go x;dsimp [q1462_4];exact ⟨mulOk,go _⟩
theorem slcL {xs:List V} (e:look H iv=some (.lst xs)) (h:xs.length<=1000000) (k:Ak (.lst (xs.take i)) K H):slcV iv none (some (.int (i:Int))) K H:=slcO e h cut_take k
noncomputable abbrev ckA (iv:V) (r1:Addr) (x2 x3 x4 x5:Option V):Lm:=[some iv,some (.ref r1),x2,x3,x4,x5]
theorem fl_l {H0:Hp} {f o:List Int} {l:List (List Int)} (hd:1<=d) (st:∀ v,AL (.ref r1) H0 (upd H r5 v)) (h:∀ x4,o.length<=1000->N (ckA iv r1 x2 x3 x4 (some (.ref r5))) (upd H r5 (isL o))) (hl:f.length+16 * l.length<=1000) (hb:∀ b∈l,b.length<=16) (hf:l.foldl (fun f b=>f++b.reverse) f=o) :
    AX d none (.one 4) q1462_13 (.ref r1) H0 N R E (l.map isL) (ckA iv r1 x2 x3 x4 (some (.ref r5))) (upd H r5 (isL f)):=by
  induction l generalizing f x4 with
  | nil=>cases hf;exact Ay (st _) (h _ hl)
  | cons b l ih=>replace hl:=List.length_cons▸hl;have hbl:=hb b (.head _);refine Az (st _) fun M hM=>?_;dsimp only [BL];unfold q1462_13;refine wl (De ..) ?_;refine wl (S_exp ..) ?_;refine extrK (r:=r5) (xs:=f.map .int) (ys:=b.map .int) hd rfl rfl (AA ..) (by rw [List.length_map];exact Nat.le_trans (Nat.le_add_right _ _) (Nat.le_trans hl (by decide))) (by rw [List.length_map];exact AN hbl (by decide)) ?_;refine wl (AS ..) ?_;refine wr (List.map_reverse ..) ?_;exact wr (List.map_append ..) (hM _ _ (ih (by rw [List.length_append,List.length_reverse];exact r_st hl (Nat.le_refl _) hbl) (fun c hc=>hb c (.tail _ hc)) hf))
theorem corks_end {bs:List (List Int)} (hd:1<=d) (h1:H r1=some (.lst (bs.map isL))) (hl:bs.length<=46) (hb:∀ b∈bs,b.length<=16) (hk:∀ H' r cs,Sub H H'->H r=none->H' r=some (isL cs)->cs.length<=1000->R (.ref r) H') :
    vcS d none q1462_11 N R E (ckA iv r1 x2 x3 x4 none) H:=by
  dsimp [q1462_11];refine ⟨by decide,fun r5 h5=>AB ?_⟩;have s5:∀ v,Sub H (upd H r5 v):=fun v=>Sub.refl.upd h5;dsimp [q1462_12];refine wl (s5 _ _ _ h1 ..) ?_;dsimp only [BE];refine ⟨by rw [List.length_map];exact AN ‹_› (by decide),?_⟩;refine wr (List.map_reverse ..) ?_;refine AG hd (fl_l (f:=[]) hd (fun v=>(s5 _ _ _ h1).trans (s5 _ _ _ h1).symm) (fun x4 ho=>?_) (by rw [List.length_reverse];exact r_mul hl (by decide)) (fun b h=>hb b (List.mem_reverse.mp h)) rfl)
  revert ho
  generalize bs.reverse.foldl (fun f b=>f++b.reverse) []=f;intro ho;dsimp [q1462_14];refine lenR (AA ..) (by rw [List.length_map];exact AN ‹_› (by decide)) ?_;dsimp;refine wl (List.length_map ..) ?_;refine ⟨hd,?_⟩;refine wl (show (if (f.length:Int) - 150 > 0 then (f.length:Int) - 150 else 0)=((f.length - 150:Nat):Int) from by
    by_cases h:150<=f.length
    . rw [show (f.length:Int) - 150=((f.length - 150:Nat):Int) from r_cs h];by_cases q:((f.length - 150:Nat):Int) > 0
      . exact if_pos q
      . rw [if_neg q];exact Int.le_antisymm (Int.natCast_nonneg _) (Int.not_lt.mp q)
    . rw [Nat.sub_eq_zero_of_le (Nat.le_of_not_le h)];exact if_neg (Int.not_lt.mpr (Int.sub_nonpos_of_le (Int.ofNat_le.mpr (Nat.le_of_not_le h))))) ?_
  refine slcR (AA ..) (by rw [List.length_map];exact AN ‹_› (by decide)) fun r6 h6=>AB ?_;exact wr (List.map_drop ..) (hk _ r6 (f.drop (f.length - 150)) ((s5 _).upd (AI h6).2) (AI h6).2 (AA ..) (by rw [List.length_drop];exact Nat.le_trans (Nat.sub_le _ _) ho))
theorem ck_l {s0:V} {H0:Hp} {l:List Int} {bs:List (List Int)} (hd:1<=d) (hH:H r1=none) (n0:r0≠r1) (h00:H0 r0=some s0) (h:∀ H' (bs:List (List Int)) x2 x3 x4,Sub H H'->bs.length<=46->(∀ b∈bs,b.length<=16)->H' r1=some (.lst (bs.map isL))->N (ckA iv r1 x2 x3 x4 none) H')
    (hl:bs.length+l.length<=46) (hb:∀ b∈bs,b.length<=16) (s:Sub H H') (h0:H' r0=some s0) (h1:H' r1=some (.lst (bs.map isL))) :
    AX d none (.one 2) q1462_2 (.ref r0) H0 N R E (l.map .int) (ckA iv r1 x2 x3 x4 none) H':=by
  induction l generalizing bs H' x2 x3 x4 with
  | nil=>exact Ay (h0.trans h00.symm) (h _ _ _ _ _ s hl hb h1)
  | cons x l ih =>
    replace hl:=List.length_cons▸hl;refine Az (h0.trans h00.symm) fun M hM=>(cell_c hd h1 (r_pl hl (by decide)) fun b x3 x4 hbl=>hM _ _ (ih (by rw [List.length_append];exact r_p1 hl) (fun c hc=>?_) (fun c w e=>?_) ((AC n0).trans h0) (AA ..)))
    . exact (List.mem_append.mp hc).elim (hb c) fun hc=>by rw [List.mem_singleton.mp hc];exact hbl
    . rw [AC (fun q=>by rw [q,hH] at e;cases e)];exact s _ _ e
theorem law_corks_c {zs:List Int} (hd:2<=d) (hs:look H iv=some (isL zs)) (hl:zs.length<=1000) (hk:∀ H' r cs,Sub H H'->H r=none->H' r=some (isL cs)->cs.length<=1000->K (.ref r) H'):AD d (.ref 1462) [iv] K X H:=by
  refine AE f1462 AQ (m:=[some iv,none,none,none,none,none]) (d0 hd rfl) rfl rfl ?_;dsimp [q1462_0];refine ⟨by decide,fun r1 h1=>AB ?_⟩;have s1:∀ v,Sub H (upd H r1 v):=fun v=>Sub.refl.upd h1;dsimp [q1462_1];refine slcL (i:=46) (CN (s1 _) hs) (by rw [List.length_map];exact AN ‹_› (by decide)) fun r0 h0=>?_;obtain ⟨n0,h0'⟩:=AI h0;refine wl (Co (AA ..) ..) ?_;dsimp only [BE];refine wr (List.map_take ..) ?_;refine AG (dle hd rfl) (ck_l (bs:=[]) (dle hd rfl) h1 n0 (AA ..) (fun H' bs x2 x3 x4 s hl hb h1'=>corks_end (dle hd rfl) h1' hl hb fun H2 r cs s2 hr e h=>.keep (hk H2 r cs (s.trans s2) ?_ e h)) ?_ (fun b h=>by cases h) ((s1 _).upd h0') ?_ ?_)
  . cases q:H r with
    | none=>rfl
    | some v=>rw [s _ _ q] at hr;cases hr
  . rw [List.length_take];exact Nat.le_trans (Nat.le_of_eq (Nat.zero_add _)) (Nat.min_le_left _ _)
  . exact wl (AA ..) rfl
  . exact (AC (Ne.symm n0)).trans (AA ..)
end
section
variable {d:Nat} {K:KV} {X:KX} {H:Hp} {iv:V} {rc ri w:Addr}
inductive LwJ (iv:V) (rc ri w:Addr):Nat->Lm->Hp->Prop
  | mk {i:Nat} (x4:Option V) {H:Hp} (h:Fs ri w rc H):LwJ iv rc ri w i [some iv,some (.ref rc),some (.ref ri),some (.ref w),x4] H
theorem law_c {zs:List Int} (hd:14<=d) (hs:look H iv=some (isL zs)) (hr:∀ K:KV,K iv H->cv iv H K) (hl:zs.length<=1000) (hk:∀ H',K (.bool true) H'):CallC d (.ref 1519) [iv] K X H:=by
  refine BY f1519 AQ (m:=[some iv,none,none,none,none]) (d0 hd rfl) rfl rfl ?_;have hd':13<=d - 1:=dle hd rfl;dsimp [q1519_0];refine hr _ (law_corks_c (Nat.le_trans (by decide) hd') hs hl fun H1 rc cs Y Y hc hcl=>AB ?_);dsimp [q1519_1];refine evaluator_c (Nat.le_trans (by decide) hd') fun ri hri=>AB ?_;have nci:rc≠ri:=fun q=>by rw [q,hri] at hc;cases hc
  dsimp [q1519_2];refine ⟨by decide,rfl,fun w hw=>AB ?_⟩;obtain ⟨nwi,hw1⟩:=AI hw;have nwc:w≠rc:=fun q=>by rw [q,hc] at hw1;cases hw1
  have f:Fs ri w rc (upd (upd H1 ri (.obj 1444 (evE true .none))) w (.dct [])):=by refine .mk none true [] cs .nil (.fresh ((AC (Ne.symm nwi)).trans (AA ..))) (AA ..) (fun i=>nwi (List.mem_singleton.mp i)) ?_ hcl;exact (AC (Ne.symm nwc)).trans ((AC nci).trans hc)
  have ncw:=Ne.symm nwc;dsimp [q1519_3];refine AB ?_;dsimp;refine cork_c (most:=10) (Nat.le_trans (by decide) hd') ((AC ncw).trans ((AC nci).trans hc)) hcl (by decide) fun n cs' hn hcl'=>?_;have f2:Fs ri w rc (upd (upd (upd H1 ri (.obj 1444 (evE true .none))) w (.dct [])) rc (isL cs')):=by
    refine .mk none true [] cs' .nil (.fresh ?_) ?_ (fun i=>nwi (List.mem_singleton.mp i)) (AA ..) hcl'
    . exact (AC (Ne.symm nci)).trans ((AC (Ne.symm nwi)).trans (AA ..))
    . exact (AC nwc).trans (AA ..)
  dsimp;refine ⟨(r_il2 ‹_› (by decide)),DT (Nat.le_trans (by decide) hd') n (LwJ iv rc ri w) (.mk _ f2) ?_ ?_⟩
  . intro i m H' hi hJ;cases hJ with | mk x4 h
    refine ⟨trivial,?_⟩;dsimp [q1519_4];refine AB ?_;dsimp;refine AB ?_;dsimp;refine AB ?_;dsimp;refine law_set_c hd' h fun H2 f=>brF ?_;refine AB ?_;dsimp;refine AB ?_;dsimp;refine law_same_f (Nat.le_trans (by decide) hd') f fun H3 f=>brF (.mk _ f)
  . intro m H' hJ;cases hJ with | mk x4 h
    refine ⟨trivial,?_⟩;dsimp [q1519_6];refine AB ?_;dsimp;refine AB ?_;dsimp;exact law_same_f (Nat.le_trans (by decide) hd') h fun H3 f=>.keep (hk _)
end
noncomputable def lstC:Value->Bool
  | .type n=>n == "list"
  | _=>false
noncomputable def noLs:BT->Bool
  | .nil=>true
  | .node o l r => !lstC o.cls && noLs l && noLs r
theorem no_list (p:Params):noLs (T5 p)=true:=by kernel_rfl
theorem noLs_get:∀ {t:BT} {a:Nat} {o:Obj},noLs t=true->t.get a=some o->lstC o.cls=false
  | .nil,_,_,_,h=>by cases h
  | .node v l r,a,o,n,h=>by
    unfold noLs at n;simp only [Bool.and_eq_true,Bool.not_eq_true'] at n;rw [BT.get] at h;split at h
    . cases h;exact n.1.1
    . split at h
      . exact noLs_get n.1.2 h
      . exact noLs_get n.2 h
theorem top_list {p:Params} {a:Addr} {o:Obj} (h:(H1 p).get? a=some o):o.cls≠.type "list" := fun e=>by
  have h':=(Heap.get?_some_iff.mp h).1;rw [H1,absHeap_at] at h';split at h'
  . cases q:(T5 p).get a with
    | none=>rw [q] at h';cases h';cases e
    | some o'=>rw [q] at h';cases h';have:=noLs_get (no_list p) q;have e:o'.cls = .type "list" := e;rw [e] at this;cases this
  . cases h'
theorem main_law (p:Params):isRefTo 1519 (nsFind (CM p) (Str.ofString "law"))=true:=by kernel_rfl
theorem ints_vr {G:Gh} {vs:List Value} {zs:List Int} (h:IntsAre vs zs):VRs G (zs.map .int) vs:=by
  induction h with
  | nil=>exact .nil
  | cons n t _ ih=>exact .cons ⟨t,rfl⟩ ih
noncomputable def offH (h:Heap) (la:Addr):Heap:=h.update la fun o=>{o with data:=.freed}
theorem off_ne {h:Heap} {la b:Addr} (n:b≠la):(offH h la).get? b=h.get? b:=Heap.get?_update_ne _ _ _ _ n
theorem off_same {h:Heap} {la:Addr}:(offH h la).get? la=none:=PyProof.Rows.TI.get?_update_freed h la
theorem tab_at (p:Params):(H1 p).get? 429=some {cls:=.none,data:=.fields #[]}/\(H1 p).get? 1077=some {cls:=.none,data:=.fields #[]}:=⟨by kernel_rfl,by kernel_rfl⟩
theorem is_tab {b:Addr} (h:Ap b=true):b=429\/b=1077:=by
  rcases Bool.or_eq_true_iff.mp h with h | h
  . exact .inl (beq_iff_eq.mp h)
  . exact .inr (beq_iff_eq.mp h)
noncomputable def offs (h:Heap) (la:Addr):Heap:=offH (offH (offH h la) 429) 1077
theorem offs_at {h:Heap} {la b:Addr}:(offs h la).get? b=if b=la\/Ap b=true then none else h.get? b:=by
  unfold offs;by_cases h3:b=1077
  . subst h3;rw [off_same,if_pos (.inr rfl)]
  refine wl (off_ne h3 ..) ?_;by_cases h2:b=429
  . subst h2;rw [off_same,if_pos (.inr rfl)]
  refine wl (off_ne h2 ..) ?_;by_cases h1:b=la
  . subst h1;rw [off_same,if_pos (.inl rfl)]
  refine wl (off_ne h1 ..) ?_;exact wl (if_neg fun q=>q.elim h1 fun q=>(is_tab q).elim h2 h3 ..) rfl
section
variable {w:World} {B:Heap} {os:OsState} {s s':Shared} {la:Addr} {items:List Value} {zs:List Int} {h:Heap}
noncomputable def G0 (la:Addr) (zs:List Int):Gh:=fun b=>if Ap b then some .tb else if b=la then some (.fz (.lst (zs.map .int))) else none
theorem yp_tab (y:YP w h) {b:Addr} (q:Ap b=true):h.get? b=some {cls:=.none,data:=.fields #[]}:=by
  obtain ⟨t1,t2⟩:=tab_at w.params;rcases is_tab q with rfl | rfl
  . exact y _ _ t1
  . exact y _ _ t2
theorem yp_la (y:YP w h) (o:h.get? la=some {cls:=.type "list",data:=.seq items.toArray 0}):(H1 w.params).get? la=none:=by
  cases q:(H1 w.params).get? la with
  | none=>rfl
  | some o'=>exact absurd (congrArg Obj.cls (Option.some.inj ((y _ _ q).symm.trans o))) (top_list q)
theorem la_tab (y:YP w h) (o:h.get? la=some {cls:=.type "list",data:=.seq items.toArray 0}):Ap la=false:=by
  cases q:Ap la with
  | false=>rfl
  | true=>exact nomatch congrArg Obj.cls (Option.some.inj ((yp_tab y q).symm.trans o))
theorem law_sat (y:YP w s.heap) (o:s.heap.get? la=some {cls:=.type "list",data:=.seq items.toArray 0}) (g:s.gens = #[]) (hI:IntsAre items zs):Sat w (offs s.heap la) s.os (G0 la zs) s:=by
  refine ⟨fun b q n h=>?_,fun b q h=>?_,fun b c h=>?_,g,rfl,fun b q=>if_pos q⟩
  . rw [offs_at,if_neg fun z=>z.elim (fun z=>by rw [z,yp_la y o] at h;cases h) fun z=>by rw [n] at z;cases z];exact y _ _ h
  . replace h:=offs_at▸h;by_cases q:b=la\/Ap b=true
    . rw [if_pos q] at h;cases h
    . exact (if_neg q).symm.trans h
  refine wl (offs_at ..) ?_;unfold G0 at h;by_cases q:Ap b=true
  . replace h:=if_pos q▸h;cases h;exact ⟨if_pos (.inr q),#[],yp_tab y q,trivial,fun pos c h=>by cases h⟩
  . replace h:=if_neg q▸h;by_cases e:b=la
    . replace h:=if_pos e▸h;cases h;subst e;exact ⟨if_pos (.inl rfl),items,0,o,ints_vr hI⟩
    . rw [if_neg e] at h;cases h
theorem tab_ex {b:Addr} (n:Ap b=true):∃ q∈tabL,q.2=b:=by
  rcases is_tab n with rfl | rfl
  . exact ⟨(433,429),by decide,rfl⟩
  . exact ⟨(1081,1077),by decide,rfl⟩
theorem hd_tab {c P:Addr} (x:CodeHd h c P):isCodeTable h P :=
  ⟨c,x.imp fun Y x=>x.imp fun Y x=>x.elim fun Y x=>x.elim fun Y x=>x.elim fun Y x=>x.elim fun Y x=>x.elim fun Y x=>x.elim fun Y x=>x.elim fun Y x=>⟨x.1,x.2.1,x.2.2.1,x.2.2.2.1⟩⟩
variable {G:Gh} {H:Hp} {b:Addr} {o':Obj}
theorem run_keep (S:Sat w (offs s.heap la) s.os G s') (l:LKeep (G0 la zs) s.heap s'.heap) (n:Ap b=false) (h:s.heap.get? b=some o'):s'.heap.get? b=some o':=by
  by_cases q:b=la
  . exact (l b).2 _ ((if_neg (by rw [n];exact Bool.false_ne_true)).trans (if_pos q)) o' h
  . exact S.base b o' (by rw [offs_at,if_neg fun z=>z.elim q fun z=>by rw [n] at z;cases z];exact h)
theorem run_tab (S:Sat w B os G s') (n:Ap b=true):∃ ps,s'.heap.get? b=some {cls:=.none,data:=.fields ps} :=
  let ⟨ps,p,_⟩:=(S.cells _ _ (S.tbs b n)).2;⟨ps,p⟩
theorem run_old (y:YP w s.heap) (S0:Sat w B os (G0 la zs) s) (S:Sat w (offs s.heap la) s.os G s') (l:LKeep (G0 la zs) s.heap s'.heap):OldK s.heap s'.heap:=by
  refine ⟨fun b o h=>?_,fun b o h=>?_⟩
  . cases n:Ap b with
    | false=>exact .inl (run_keep S l n h)
    | true=>obtain ⟨ps,p⟩:=run_tab S n;obtain ⟨q,hq,e⟩:=tab_ex n;exact wr (Option.some.inj ((yp_tab y n).symm.trans h) ..) (.inr (.inl ⟨e▸hd_tab (S0.hd hq).1,rfl,#[],ps,rfl,by rw [Array.empty_append];exact p⟩))
  . cases n:Ap b with
    | false=>exact ⟨o,run_keep S l n h⟩
    | true=>exact (run_tab S n).imp' _ fun _ p=>p
theorem law_run (y:YP w s.heap) (o:s.heap.get? la=some {cls:=.type "list",data:=.seq items.toArray 0}) (g:s.gens = #[]) (hI:IntsAre items zs) (hz:zs.length<=63) {Q E:Value->Shared->Prop} (q:∀ s',OldK s.heap s'.heap->s'.os=s.os->s'.gens = #[]->Q (.bool true) s') :
    wpAny (model PP w) callerA (PySem.call (.ref 1519) [.ref la]) Q E s:=by
  have S0:=law_sat y o g hI;refine wpAny_mono ((law_c (K:=fun v Y=>v = .bool true) (X:=fun Y Y=>False) (H:=fun Y=>none) (iv:=.lst (zs.map .int)) (zs:=zs) (Nat.le_refl 14) rfl (fun Y h=>h) (Nat.le_trans hz (by decide)) fun Y=>rfl).a w (offs s.heap la) s.os callerA (G0 la zs) s (.ref 1519) [.ref la] S0
    ⟨fun Y=>rfl,by decide,by decide,[],rfl,fun env h=>(by cases h)⟩ (fun Y Y h=>by cases h) rfl (.cons ⟨la,rfl,?_⟩ .nil)) (fun v s' p=>?_) fun e s' p=>p.no
  . exact (if_neg (by rw [la_tab y o];exact Bool.false_ne_true)).trans (if_pos rfl)
  obtain ⟨G',v',H',e1,S',l,_,r,e⟩:=p;replace r:=e▸r;exact wl (show v = .bool true from r ..) (q s' (run_old y S0 S' l) S'.os S'.gens)
theorem well_lst {p:Params} {ys:List WData} {xs:Array Value} (w1:Well p h (.ref la) (.list ys)) (l:h.IsList la xs):h.get? la=some {cls:=.type "list",data:=.seq xs 0}:=by
  obtain ⟨ol,hol,-,nn,hld⟩:=l;cases w1 with | list q _ =>
  exact (Data.seq.inj ((congrArg Obj.data (Option.some.inj (q.symm.trans hol))).trans hld)).1▸q
theorem law_1519 {mg:Str->Option Value} {a:Addr} (y:YP w h) (g:h.Ns mainGlobals mg) (e:mg (Str.ofString "law")=some (.ref a)):a=1519:=by obtain ⟨om,es,ep,g1,g2,g3,g4⟩:=g;obtain ⟨t1,t2⟩:=main_at w.params;have e1:=Option.some.inj ((y _ _ t1).symm.trans g1);have e2:=t2.symm.trans (congrArg Obj.data e1 |>.trans g2);have z:=main_law w.params;rw [(Data.dict.inj e2).1,g4,e] at z;exact beq_iff_eq.mp z
end
set_option tactic.hygienic true in
theorem law_walk:LawWalk:=by
  intro w s₀ s₁ mg mb G Y a o pm cd doc dV kV h1 h2 h3 h4 hmg hgens args vals as hpre hlay hrd hwl hlo
  wrow_args hpre hlay hrd hwl hlo
  rename_i zs hs hlay0 hL1 hr1 hl2 w4 w3 la items asI hL ra w1 r0 hI hr hlen ht;clear hs hlay0 hL1 hr1 hl2 ra r0 hr ht h1 h2 h3 h4;cases law_1519 Y G.T.g hmg;refine law_run Y (well_lst w1 hL) hgens hI (Nat.le_of_not_lt fun q=>‹¬ _› (Int.ofNat_lt.mpr q)) fun s' k os g=>?_;refine ⟨.inl ⟨.bool true,.bool true,[],rfl,fun cls=>rfl,.bool true,?_,fun Y=>⟨.nil,fun Y h=>by cases h⟩⟩,⟨k.old,k.there⟩,os,.of_eq g⟩
  wrow_post
end Mine
theorem PySem.Challenge.cw_pq1368_01_holds : PySem.Challenge.rw_pq1368_01.Holds :=
  Mine.holds_of Mine.said Mine.law_walk
