import PyProof.Rows.All
import Wide.All
import OpenK.AllK
import Wide.FinOn
import Open.Boot
import Open.Boot
import PySem.Challenge.RW_sz0046_01
open PySem PySem.W PyProof.Rows
open List (length_map mem_of_getElem? mem_cons mem_singleton mem_append mem_map map_append length_append not_mem_nil take_length getElem?_eq_getElem mem_append_right append_nil prefix_refl mem_append_left map_cons length_take getElem?_map mem_iff_getElem? filter_cons mem_filter lookup_cons pairwise_cons mem_map_of_mem nil_append length_nil length_cons map_map getElem?_set append_assoc mem_or_eq_of_mem_set length_set length_filter_le flatMap_cons all_eq_true take_add_one filter_eq_nil_iff find?_cons filter_append pairwise_append mem_of_mem_take contains_iff_mem cons_append map_set replicate mem_flatMap prefix_append mem_cons_of_mem filter_nil Pairwise size_toArray map flatMap_append pairwise_iff_getElem mem_of_mem_drop length mem_range nodup_cons length_singleton any_eq_true length_range length_pos_iff forIn_nil nodup_iff_pairwise_ne pairwise_map nodup_append map_nil Sublist set_cons_zero set_cons_succ map_take append_of_mem map_congr_left getElem?_set_ne any_append)
open Bool (and_eq_true or_eq_true)
open Nat (lt_of_le_of_lt le_refl le_trans le_of_ble_eq_true lt_of_lt_of_le blt ne_of_lt le_of_lt ne_of_gt ble zero_le min_le_right le_add_right lt_succ_of_lt lt_trans lt_succ_self succ_lt_succ lt_irrefl add_le_add_left min_le_left le_succ succ_le_succ add_assoc blt_eq)
open Int (ofNat_lt not_lt_of_ge le_of_eq emod_nonneg emod_lt_of_pos sub_le_self natCast_nonneg lt_add_of_pos_right lt_of_not_ge)
set_option Elab.async false
set_option linter.unusedVariables false
set_option linter.unusedSimpArgs false
set_option maxRecDepth 100000
set_option genSizeOf false
set_option compiler.extract_closed false
set_option bootstrap.genMatcherCode false
namespace Mine.Tactic
noncomputable section
set_option maxHeartbeats 8000000
noncomputable abbrev LW:=PySem.Challenge.rw_sz0046_01
noncomputable def qV:Program:=view LW.prog [105]
noncomputable def lsV:List Str:=LW.prog.boundNames.filter (· !=("law":Str))
noncomputable def joK(ok:Thread->Bool)(st:SharedT->Thread->Option (SharedT×Thread))(n:Nat):SharedT->Thread->Option SharedT:=
 Nat.rec (motive:=fun _=>SharedT->Thread->Option SharedT) (fun _ _=>none) (fun _ ih s t=>match through t with
  | true=>some s
  | false=>match ok t with
   | false=>none
   | true=>match st s t with
    | some r=>ih r.1 r.2
    | none=>none) n
theorem jqk{tb:String->Option Builtin}{p:Program}{w:World}{aY:Nat}{ann:Option Value}(n:Nat): ∀(s:SharedT) (t:Thread) (r:SharedT),joK (stepOk aY ann) (stepT (denote tb) p w) n s t=some r->topRun tb p w aY ann n s.abs t=some r.abs:=by
 induction n with
 | zero=>intro s t r h;cases h
 | succ n ih=>
  intro s t r h
  unfold topRun
  unfold joK at h
  dsimp only at h
  cases ht:through t with
  | true=>rw[ht]at h;cases h;rfl
  | false=>
   rw[ht]at h
   cases hk:stepOk aY ann t with
   | false=>rw[hk]at h;cases h
   | true=>
    rw[hk]at h
    cases hs:stepT (denote tb) p w s t with
    | none=>rw[hs]at h;cases h
    | some r=>rw[hs]at h;rw[stepT_spec hs];exact ih _ _ _ h
noncomputable def bt(l:List Obj):BT:=(l.foldl (fun (x:BT×Nat) o=>(x.1.ins x.2 o,x.2+1)) (BT.nil,0)).1
noncomputable def jpv(w:World)(os:OsState):SharedT:=⟨bt (boot_heap w.params).objs.toList,11,(boot_heap w.params).life,Array.mk [],boot_drawn,boot_toks,os⟩
noncomputable def jss(w:World):Option Value:=(boot_heap w.params).nsMap mainGlobals "__annotations__"
noncomputable def jp8(w:World)(os:OsState):Option SharedT:=joK (stepOk 11 (jss w)) (stepT (denote treeTable) LW.prog w) 7090 (jpv w os) (topStub LW.prog)
noncomputable def lkF(h:Heap)(s:Shared):Bool:=staticsOk (importedModules LW.prog.main.body) h s.heap&&namesBound LW.prog s.heap&&gensDone s&&laidKept h s.heap
theorem jrX{w:World}{os:OsState}{s:SharedT}(h:jp8 w os=some s)(l:lkF (boot_heap w.params) s.abs=true):topFrom treeTable LW.prog w 7090 ⟨boot_heap w.params,Array.mk [],boot_drawn,boot_toks,os⟩=some s.abs:=by
 have b:(jpv w os).abs=⟨boot_heap w.params,Array.mk [],boot_drawn,boot_toks,os⟩:=by kernel_rfl
 have z:((boot_heap w.params).isNs mainGlobals&&(Array.mk ([]:List GenState)).size==0)=true:=by kernel_rfl
 have z2:(boot_heap w.params).objs.size=11:=by kernel_rfl
 have e:=jqk _ _ _ _ h
 rw[b]at e
 unfold jss at e
 unfold topFrom
 dsimp only
 rw[z,z2,e]
 show(match lkF (boot_heap w.params) s.abs with | true=>some s.abs | false=>none)=_
 rw[l]
theorem jsV{w:World}{os:OsState}:jp8 w os=joK (PySem.W.Fast.tw6613529449190102663 11 (jss w)) (PySem.W.Fast.tw10156331382660048174 (PySem.W.Fast.tw11892475500146522536 PySem.W.Fast.tw14364793385576792824) LW.prog w) 7090 (jpv w os) (topStub LW.prog):=by
 unfold jp8
 rw[PySem.W.Fast.te10156331382660048174,PySem.W.Fast.te6613529449190102663,PySem.W.Fast.te11892475500146522536,PySem.W.Fast.te14364793385576792824]
theorem e2(w:World)(os:OsState):((jp8 w os).map fun s=>(lkF (boot_heap w.params) s.abs,openSeen qV lsV (importedModules LW.prog.main.body) (fun s=>xlAt qV [] s&&recOk (RowW.records LW.row.toRowW) s) true s.abs))=some (true,openGood qV lsV):=by
 rw[jsV]
 kernel_rfl
theorem n1:(namesMeet LW.prog LW.footing fun sc n=>sc.kind== .module||sc.names.lookup n !=some .globalExplicit)=true:=by kernel_rfl
theorem n2:(namesMeet LW.prog LW.above fun _ n=> !LW.own.contains n)=true:=by kernel_rfl
theorem n3:(LW.own.all fun n=> !builtinNamed n)=true:=by kernel_rfl
theorem n4:(LW.own.eraseDups.length==LW.own.length)=true:=by kernel_rfl
theorem n5:LW.own.contains LW.name=true:=by kernel_rfl
theorem n6:(namesMeet LW.prog LW.footing (fun sc n=>(!(["type","isinstance","issubclass","getattr","hasattr"]:List Str).contains n||sc.names.lookup n==some .globalImplicit)&&
  (LW.may !=some n||sc.kind== .module||sc.names.lookup n==some .globalImplicit)))=true:=by kernel_rfl
theorem n7:((LW.prog.main.body.flatMap importedNames).all (fun n=> !LW.reads n||(drawsOf n LW.prog.main.body).all fun mn=>mn.2 !=("attrgetter":Str)&&mn.2 !=("methodcaller":Str)))=true:=by kernel_rfl
theorem n8:(!LW.writes||(LW.prog.main.body.flatMap importedNames).all fun n=> !LW.reads n)=true:=by kernel_rfl
theorem n9:LW.bound'.all (fun n=> !builtinNamed n||LW.about== [n]|| !LW.reads n)=true:=by rw[PySem.W.Fast.te797321630700447069,PySem.W.Fast.named_eq,PySem.W.Fast.te6984425678791042302];kernel_rfl
theorem n10:LW.namesIt=true:=by kernel_rfl
theorem n11:defStands LW.about LW.above=true:=by kernel_rfl
theorem n12:noRoadLSs {strict:=true,foot:=some LW.bound',writes:=LW.writes,may:=LW.may} LW.footing=true:=by rw[PySem.W.Fast.te8326940854005059898,PySem.W.Fast.te797321630700447069];kernel_rfl
theorem n13:noClassBlock LW.prog LW.footing=true:=by kernel_rfl
theorem n14:LW.footing.all footLine=true:=by kernel_rfl
theorem n15:decide (LW.foot<=(behindTheImports LW.prog).length)=true:=by kernel_rfl
theorem m1:(namesMeet LW.row.prog LW.row.prog.main.body fun _ n=>attrL n)=true:=by kernel_rfl
theorem m2:noRoadLSs {strict:= !(importedModules LW.row.prog.main.body).all cThrough.contains,foot:=none,bare:=(["vars","dir","locals"]:List Str).filter (readsOut LW.row.prog LW.row.prog.main.body)} LW.row.prog.main.body=true:=by rw[PySem.W.Fast.te8326940854005059898,PySem.W.Fast.te13343964577679436407];kernel_rfl
theorem m3:LW.row.prog.boundNames.all (fun n=> !worldNames.contains n)=true:=by kernel_rfl
theorem m4:namesResolve LW.row.prog=true:=by rw[PySem.W.Fast.te8377067652309620493];kernel_rfl
theorem m5:((moduleNames LW.row.prog.main.body).isEmpty||lookedIntoSs (moduleNames LW.row.prog.main.body) LW.row.prog.main.body)=true:=by kernel_rfl
theorem m6:sreFenced LW.row.prog.main=true:=by kernel_rfl
theorem lo1:looksOpen LW.row.prog=true:=by
 unfold looksOpen
 exact look_both (look_both (look_both (look_both (look_both m6 m5) m4) m3) m2) m1
theorem rw1:LW.row.wellSaid=true:=by
 unfold OpenRow.wellSaid
 iterate 2 refine look_both ?_ (by kernel_rfl)
 unfold OpenRow.partSaid
 iterate 13 refine look_both ?_ (by kernel_rfl)
 exact lo1
theorem ws:LW.wellSaid=true:=by
 unfold OpenLaw.wellSaid
 exact look_both (look_both (look_both (look_both (look_both (look_both (look_both (look_both (look_both (look_both (look_both (look_both (look_both (look_both (look_both (look_both (look_both (look_both rw1 n15) n14) n13) rfl) rfl) n12) n11) n10) rfl) n9) n8) n7) n6) n5) n4) n3) n2) n1
local macro_rules | `(tactic| walk_at "o") => `(tactic| first | lia | omega)
theorem nfN{a b:Nat}(h:a<b)(h':b<=a):False:=lt_irrefl _ (lt_of_lt_of_le h h')
theorem nfI{a b:Int}(h:a<b)(h':b<=a):False:=Int.lt_irrefl _ (Int.lt_of_lt_of_le h h')
theorem leE{a b:Nat}(h:b=a):a<=b:=Nat.le_of_eq h.symm
theorem leA{a b c:Nat}(h:a+b<=c):a<=c:=le_trans (le_add_right a b) h
theorem leB{a b c:Nat}(h:a+b<=c):b<=c:=le_trans (Nat.le_add_left b a) h
theorem ltA{a b c:Nat}(h:a+b<c):a<c:=lt_of_le_of_lt (le_add_right a b) h
theorem ltB{a b c:Nat}(h:a+b<c):b<c:=lt_of_le_of_lt (Nat.le_add_left b a) h
theorem eqA{a b c:Nat}(h:a+b=c):a<=c:=le_trans (le_add_right a b) (Nat.le_of_eq h)
theorem leQ{a b c:Nat}(h:a<=b)(h':b=c):a<=c:=h'▸h
theorem ltQ{a b c:Nat}(h:a<b)(h':b=c):a<c:=h'▸h
theorem jsi{a b c:Nat}(h:a<=b)(h':c=b):a<=c:=h'▸h
theorem jqN{a b c:Nat}(h:a<b)(h':c=b):a<c:=h'▸h
theorem Qle{a b c:Nat}(h':a=b)(h:b<=c):a<=c:=h'▸h
theorem Qlt{a b c:Nat}(h':a=b)(h:b<c):a<c:=h'▸h
theorem iE{a b:Int}(h:b=a):a<=b:=le_of_eq h.symm
theorem i3{a b c:Int}(h:a+b<=c)(k:3<=b):a<=c:=Int.le_trans (Int.le_add_of_nonneg_right (Int.le_trans (by decide) k)) h
theorem i3t{a b c:Int}(h:a+b<=c)(k:3<=b):a<c:=Int.lt_of_lt_of_le (lt_add_of_pos_right _ (Int.lt_of_lt_of_le (by decide) k)) h
theorem i3q{a b:Int}(k:3<=b):a<a+b:=lt_add_of_pos_right _ (Int.lt_of_lt_of_le (by decide) k)
theorem jlY{a b c:Int}(h:a<=b)(h':c=b):a<=c:=h'▸h
theorem juV{a b c:Int}(h':a=b)(h:b<=c):a<=c:=h'▸h
theorem gQ{a b:Int}(h:b=a): ¬a>b:=not_lt_of_ge (le_of_eq h.symm)
theorem eqS{a b:Nat}(h:a=b):b=a:=h.symm
theorem eqT{a b c:Nat}(h:a=b)(h':b=c):a=c:=h.trans h'
theorem ltI{a b:Nat}(h:(a:Int)<b):a<b:=ofNat_lt.mp h
theorem leI{a b:Nat}(h:(a:Int)<=b):a<=b:=Int.ofNat_le.mp h
theorem itl{a b:Nat}(h:a<b):(a:Int)<b:=ofNat_lt.mpr h
theorem ile{a b:Nat}(h:a<=b):(a:Int)<=b:=Int.ofNat_le.mpr h
theorem ip{a:Nat}(h:0<a):(0:Int)<a:=ofNat_lt.mpr h
theorem o0{a0:Nat}:a0<=a0+(1:Nat):=le_succ a0
theorem o1{a0 a1:Nat}(h0:a0<a1):a0≠a1:=ne_of_lt h0
theorem o2{a0:Nat}:a0<a0+(1:Nat):=lt_succ_self a0
theorem o3{a0:Nat}(h0:a0<(100:Nat)):a0<(1000:Nat):=lt_of_lt_of_le h0 (le_of_ble_eq_true rfl)
theorem o5{a0 a1:Nat}(h0:a1<=(20:Nat))(h1:a0<=a1):a0<(64:Nat):=lt_of_le_of_lt h1 (lt_of_le_of_lt h0 (le_of_ble_eq_true rfl))
theorem o6{a0 a1:Nat}(h0:a1<a0):a0≠a1:=ne_of_gt h0
theorem o7{a0 a1:Nat}(h0:a0<a1):a0<a1+(1:Nat):=lt_succ_of_lt h0
theorem o8{a0 a1 a2:Nat}(h0:a0<a2)(h1:a2<=a1):a0≠a1:=ne_of_lt (lt_of_lt_of_le h0 h1)
theorem o9{a0:Int}:a0-(1:Int)<=a0:=sub_le_self a0 (by decide)
theorem o10{a0 a1 a2:Nat}(h0:a2<=(100:Nat))(h1:a0+a1<=a2):a0+a1<(1000:Nat):=lt_of_le_of_lt h1 (lt_of_le_of_lt h0 (le_of_ble_eq_true rfl))
theorem o11{a0 a1 a2:Nat}(h0:a2<=a0)(h1:a1<a2):a0≠a1:=ne_of_gt (lt_of_lt_of_le h1 h0)
theorem o12{a0:Nat}(h0:a0<a0):False:=nfN h0 (le_refl a0)
theorem o13{a0 a1 a2 a3:Int}(h0:a2<=a0/\a0<a2+a3)(h1:a2+a3<=a1):a0<a1:=Int.lt_of_lt_of_le h0.right h1
theorem o14{a0 a1:Nat}(h0:a0<=a1):a0<=a1+(1:Nat):=Nat.le_succ_of_le h0
theorem o15{a0 a1:Nat}(h0:a0<=a1)(h1:a1<a0):False:=nfN h1 h0
theorem o16{a0:Nat}(h0:(0:Nat)<a0):(0:Int)<(Nat.cast (R:=Int) a0):=ip h0
theorem o17{a0 a1:Int}(h0:a0<=a1): ¬a0>a1:=not_lt_of_ge h0
theorem o18{a0:Int}:a0<=a0+(1:Int):=Int.le_add_of_nonneg_right (by decide)
theorem o19{a0 a1:Nat}(h0:a0+(1:Nat)<a1):a0<a1:=ltA h0
theorem o20{a0 a1 a2:Nat}(h0:a2<=a1)(h1:a0=a2):a0<=a1:=Qle h1 h0
theorem o21{a0 a1:Nat}(h0:a0<a1):a0<a1:=h0
theorem o22{a0:Nat}:a0<=a0:=le_refl a0
theorem o23{a0 a1:Nat}(h0:a0<a1):a0≠a1+(1:Nat):=ne_of_lt (lt_succ_of_lt h0)
theorem o24{a0 a1 a2:Nat}(h0:a0<=a2)(h1:a2<=a1):a0<=a1:=le_trans h0 h1
theorem o25{a0 a1:Nat}(h0:a0<a1)(h1:a0=a1):False:=nfN h0 (leE h1)
theorem o26{a0:Nat}:a0≠a0+(1:Nat):=ne_of_lt (lt_succ_self a0)
theorem o27{a0:Int}: ¬a0>a0:=Int.lt_irrefl a0
theorem o28{a0 a1 a2 a3 a4:Int}(h0:a2=a3+a4/\a0<=a1): ¬a0>a1:=not_lt_of_ge h0.right
theorem o29{a0 a1:Nat}(h0:a0<a1): ¬a0=a1:=ne_of_lt h0
theorem o30{a0 a1:Nat}(h0:a1=a0):a0<=a1:=leE h0
theorem o31{a0 a1 a2:Nat}(h0:a0<min a2 a1)(h1:a2<a1):a0<a1:=lt_of_lt_of_le h0 (min_le_right a2 a1)
theorem o32{a0:Nat}:a0<a0+(1:Nat)+(1:Nat):=lt_succ_of_lt (lt_succ_self a0)
theorem o34{a0 a1 a2 a3 a4:Nat}(h0:a0<=a2)(h1:a2<=a3)(h2:a4<=a1)(h3:a3<a4):a0<=a1:=le_of_lt (lt_of_lt_of_le (lt_of_le_of_lt h0 (lt_of_le_of_lt h1 h3)) h2)
theorem o35{a0 a1 a2:Int}(h0:a0+a2<=a1)(h1:(3:Int)<=a2):a0<=a1:=i3 h0 h1
theorem o36{a0 a1 a2:Nat}(h0:a2<=a1)(h1:a0<a2):a0≠a1:=ne_of_lt (lt_of_lt_of_le h1 h0)
theorem o37{a0 a1:Nat}(h0:(100200:Nat)<a1)(h1:a0<(100:Nat)):a0<=a1:=le_of_lt (lt_of_lt_of_le h1 (leB h0))
theorem o38{a0:Int}: ¬a0<a0:=Int.lt_irrefl a0
theorem o39{a0 a1 a2:Nat}(h0:a1<=(100:Nat))(h1:a0+a2<=a1):a0<(1000:Nat):=lt_of_le_of_lt (le_trans (leA h1) h0) (le_of_ble_eq_true rfl)
theorem o40{a0 a1 a2:Nat}(h0:a1<=(100:Nat))(h1:a2+a0<=a1):a0<(1000:Nat):=lt_of_le_of_lt (le_trans (leB h1) h0) (le_of_ble_eq_true rfl)
theorem o42{a0:Int}(h0:(0:Int)<=a0): ¬a0<(0:Int):=not_lt_of_ge h0
theorem o43{a0 a1:Nat}(h0:a0<a1):a0<=a1:=le_of_lt h0
theorem o44{a0 a1:Nat}(h0:a0<=a1):a0+(1:Nat)<=a1+(1:Nat):=succ_le_succ h0
theorem o45{a0 a1 a2:Nat}(h0:a1=a2)(h1:a0<a2):a0<a1:=jqN h1 h0
theorem o46{a0 a1:Nat}(h0:a0<a1)(h1:a1<=a0):False:=nfN h0 h1
theorem o47{a0:Nat}:a0+(1:Nat)<a0+(1:Nat)+(1:Nat):=lt_succ_self (a0+1)
theorem o48{a0:Nat}:a0+(1:Nat)≠a0:=ne_of_gt (lt_succ_self a0)
theorem o49{a0 a1:Nat}(h0:a0<=a1):a0<=a1:=h0
theorem o50{a0:Int}{a1:Nat}(h0:(0:Int)<=a0):(0:Int)<=a0+(2:Int)+(Nat.cast (R:=Int) a1):=Int.add_nonneg (Int.add_nonneg h0 (by decide)) (natCast_nonneg a1)
theorem o52{a0 a1:Int}(h0: ¬a0>a1):a0<=a1:=Int.le_of_not_gt h0
theorem o54{a0:Nat}(h0:a0<(900:Nat)):a0<(1000:Nat):=lt_of_lt_of_le h0 (le_of_ble_eq_true rfl)
theorem o55{a0:Int}:a0-(1:Int)<=a0+(1:Int):=Int.le_add_one (sub_le_self a0 (by decide))
theorem o56{a0 a1 a2:Nat}(h0:a2<=(20:Nat))(h1:a0<=a2)(h2:(100200:Nat)<a1):a0<=a1:=le_trans h1 (le_trans h0 (leB h2))
theorem o57{a0:Nat}{a1:Int}(h0:a1/(2:Int)%(2:Int)=(Nat.cast (R:=Int) a0)):a0<(2:Nat):=by walk_at "o"
theorem o58{a0:Nat}{a1:Int}(h0:a1%(2:Int)=(Nat.cast (R:=Int) a0)):a0<(2:Nat):=by walk_at "o"
theorem o59{a0:Nat}{a1:Int}(h0:a1/(3:Int)%(2:Int)=(Nat.cast (R:=Int) a0)):a0<(2:Nat):=by walk_at "o"
theorem o61{a0 a1:Nat}(h0:a0=a1)(h1:a1<=(16777216:Nat)):(Nat.cast (R:=Int) a0)<(9223372036854775808:Int):=Int.lt_of_le_of_lt (ile (Qle h0 h1)) (by decide)
theorem o62{a0 a1:Nat}(h0:a1<=a0):a0+(1:Nat)-(a1+(1:Nat))<a0+(1:Nat)-a1:=by walk_at "o"
theorem o63{a0:Nat}(h0:a0+(1:Nat)<(100:Nat)):a0+(1:Nat)<(1000:Nat):=lt_of_lt_of_le h0 (le_of_ble_eq_true rfl)
theorem o64{a0 a1:Nat}:min a0 a1<=a1:=min_le_right a0 a1
theorem o65{a0:Nat}(h0:a0<(100:Nat)):a0<(1000000:Nat):=lt_of_lt_of_le h0 (le_of_ble_eq_true rfl)
theorem o66{a0 a1 a2 a3:Nat}(h0:a2<(100:Nat))(h1:a0+a1<=(0:Nat)+a2/\a3+a1<=(0:Nat)+a2/\a1<=a2):a0+a1<(1000:Nat):=lt_of_lt_of_le (lt_of_le_of_lt h1.left (Nat.add_lt_add_left h0 0)) (le_of_ble_eq_true rfl)
theorem o67{a0 a1 a2 a3:Nat}(h0:a2<(100:Nat))(h1:a3+a1<=(0:Nat)+a2/\a0+a1<=(0:Nat)+a2/\a1<=a2):a0+a1<(1000:Nat):=lt_of_lt_of_le (lt_of_le_of_lt h1.right.left (Nat.add_lt_add_left h0 0)) (le_of_ble_eq_true rfl)
theorem o68{a0 a1:Nat}(h0:a1=a0\/a1=a0+(1:Nat)):a0<=a1:=by walk_at "o"
theorem o71{a0 a1:Nat}(h0:a0<a1):a0-min a0 a1=(0:Nat):=by walk_at "o"
theorem o74{a0 a1 a2:Nat}(h0:a0<min a1 a2)(h1:a1<a2):a0<a1:=lt_of_lt_of_le h0 (min_le_left a1 a2)
theorem o75{a0 a1 a2:Nat}(h0:a0<=a2)(h1:a1=a2):a0<=a1:=jsi h0 h1
theorem o76{a0 a1:Int}(h0:a0<=a1):a0<=a1+(1:Int):=Int.le_add_one h0
theorem o77{a0:Nat}(h0:(2:Nat)<a0):(2:Nat)≠a0:=ne_of_lt h0
theorem o78{a0:Nat}(h0:(Nat.cast (R:=Int) a0)>(0:Int)):(0:Int)<(Nat.cast (R:=Int) a0):=h0
theorem o79:(0:Int)<=(0:Int)/\(0:Int)<(1000:Int):=by decide
theorem o80{a0 a1 a2 a3 a4 a6:Int}{a5:Nat}(h0:(16:Int)<=a0/\a0+a1<=a3/\(3:Int)<=a1/\a1=a4/\a5<=(3:Nat)/\(0:Int)<=a6/\a6<=(2:Int))(h1:a2=a3): ¬a0+a1>a2:=not_lt_of_ge (jlY h0.right.left h1)
theorem o81{a0 a1:Int}: ¬a0+a1<a0+a1:=Int.lt_irrefl (a0+a1)
theorem o82{a0:Int}:a0+(1:Int)<=a0+(1:Int):=Int.le_refl (a0+1)
theorem o85{a0 a1:Int}{a2:Prop}(h0:a2/\a0+a1<(1000:Int)/\(16:Int)<=a0)(h1:(3:Int)<=a1):(0:Int)<=a0+a1-(1:Int)/\a0+a1-(1:Int)<(1000:Int):=by walk_at "o"
theorem o87{a0:Nat}{a1:Int}(h0:a1/(2:Int)%(2:Int)=(Nat.cast (R:=Int) a0)):a0<(3:Nat):=by walk_at "o"
theorem o88{a0:Nat}{a1:Int}(h0:a1/(3:Int)%(2:Int)=(Nat.cast (R:=Int) a0)):a0<(3:Nat):=by walk_at "o"
theorem o89{a0:Int}(h0:(0:Int)<a0):a0≠(0:Int):=Int.ne_of_gt h0
theorem o90{a0:Int}(h0:(0:Int)<a0):(0:Int)<=a0:=Int.le_of_lt h0
theorem o91{a0 a1:Nat}(h0:a0<=a1):a0<=a1+(5:Nat):=le_trans h0 (le_add_right a1 5)
theorem o92{a0 a1 a2:Nat}(h0:a2<a1)(h1:a0=a2):a0<=a1:=le_of_lt (Qlt h1 h0)
theorem o93{a0 a1:Nat}(h0:a0<=a1):a0+(a1-a0)=a1:=eqT (Nat.add_comm a0 (a1-a0)) (Nat.sub_add_cancel h0)
theorem o94{a0 a1 a2:Nat}(h0:a0=a2)(h1:a2<=a1):a0<=a1:=Qle h0 h1
theorem o96{a0 a1:Nat}(h0:a0+(1:Nat)<=a1):a0<a1:=h0
theorem o97{a0:Nat}:Nat.cast (R:=Int) (a0+(1:Nat))-(1:Int)=(Nat.cast (R:=Int) a0):=by walk_at "o"
theorem o98{a0:Int}(h0:a0<(1000:Int)):a0.toNat<(1000:Nat):=by walk_at "o"
theorem jtz{a0 a1:Nat}(h0:a1+(1:Nat)<=a0): ¬a0=a1:=ne_of_gt h0
theorem juX{a0 a1:Nat}(h0:a1+(1:Nat)<=a0):a0≠a1:=ne_of_gt h0
theorem juY{a0 a1:Nat}:min a0 a1<=a0:=min_le_left a0 a1
theorem jtA{a0 a1 a2 a3 a4 a5:Nat}(h0:a3<(100000:Nat))(h1:(100200:Nat)<a2)(h2:a0<=a3)(h3:a4<(100:Nat))(h4:a5<a4)(h5:a1<=a5):a0+a1+(1:Nat)<a2:=by walk_at "o"
theorem juZ{a0 a1:Nat}(h0:a0<a1):min a0 a1<=a0:=min_le_left a0 a1
theorem jtB{a0 a1 a2 a3 a4 a5:Nat}(h0:a2+a3<(1000:Nat))(h1:a0+a1<=a2+a3/\a4+a1<=a5+a3/\a1<=a3):a0+a1<(1000:Nat):=lt_of_le_of_lt h1.left h0
theorem jtC{a0 a1 a2 a3 a4 a5:Nat}(h0:a2+((0:Nat)+(1:Nat))+a3<(1000:Nat))(h1:a4+a1<=a5+a3/\a0+a1<=a2+a3/\a1<=a3):a0+a1<(1000:Nat):=by walk_at "o"
theorem jtD{a0:Nat}(h0:a0<(99:Nat)):a0<(1000:Nat):=lt_of_lt_of_le h0 (le_of_ble_eq_true rfl)
theorem jtE{a0:Nat}(h0:a0<(99:Nat)):a0+(1:Nat)<(100:Nat):=succ_lt_succ h0
theorem ju0{a0 a1:Nat}(h0:a0<a1)(h1:a0=a1+(1:Nat)):False:=nfN h0 (Nat.le_of_succ_le (leE h1))
theorem jtF{a0 a1 a2:Nat}(h0:a1+a2<(1000:Nat))(h1:a0<=a1):a0<(1000:Nat):=lt_of_le_of_lt h1 (ltA h0)
theorem jtG{a0 a1 a2:Nat}(h0:a0<min a1 a2):a0<a1:=lt_of_lt_of_le h0 (min_le_left a1 a2)
theorem jtH{a0 a1:Nat}(h0:a1<(1000:Nat))(h1:a0<=a1):a0<(1000:Nat):=lt_of_le_of_lt h1 h0
theorem jtI{a0 a1 a2:Nat}(h0:a0<a2)(h1:a2<=a1):a0<a1:=lt_of_lt_of_le h0 h1
theorem jtJ{a0 a1:Nat}(h0:a0<a1): ¬a0<min a0 a1:=Nat.not_lt_of_le (min_le_left a0 a1)
theorem jtK{a0:Nat}(h0:a0<(1000:Nat)):a0<(1000000:Nat):=lt_of_lt_of_le h0 (le_of_ble_eq_true rfl)
theorem jtL{a0 a1 a2:Nat}(h0:a0<a2)(h1:a2<a1):a0<a1+(1:Nat):=lt_succ_of_lt (lt_trans h0 h1)
theorem jtM{a0 a1:Nat}(h0:a0<(100:Nat))(h1:(100200:Nat)<a1):a0<a1:=lt_of_lt_of_le h0 (leB h1)
theorem jtN{a0 a1:Nat}(h0:a0+(1:Nat)=a1)(h1:a1<a0):False:=nfN h1 (eqA h0)
theorem jtO{a0 a1 a2 a3:Nat}(h0:a0<a2)(h1:a2<=a3)(h2:a3<=a1):a0≠a1:=ne_of_lt (lt_of_lt_of_le h0 (le_trans h1 h2))
theorem ju1{a0 a1 a2 a3:Int}(h0:a0=a3)(h1:a3+a1<=a2):a0+a1<=a2:=Int.le_trans (Int.add_le_add_right (le_of_eq h0) a1) h1
theorem ju2{a0 a1:Int}(h0:a0<a1):a0<a1:=h0
theorem jtP{a0 a1:Int}(h0:(3:Int)<=a1):a0<=a0/\a0<a0+a1:=by walk_at "o"
theorem jtQ{a0 a1 a2:Int}(h0:a0=a1)(h1:(3:Int)<=a2):a0<=a1/\a1<a0+a2:=by walk_at "o"
theorem ju3{a0 a1 a2 a3 a4:Int}(h0:a2<=a1/\a1<a2+a3)(h1:a0+a4<=a2/\(3:Int)<=a4):a0<=a1:=Int.le_trans (i3 h1.left h1.right) h0.left
theorem jtR{a0 a1 a2:Nat}(h0:a2<=a1)(h1:a0<=a2):a0<=a1:=le_trans h1 h0
theorem jtS{a0 a1 a2:Int}(h0:a0+a2<=a1)(h1:(3:Int)<=a2):a0≠a1:=Int.ne_of_lt (i3t h0 h1)
theorem jtT{a0 a1 a2:Nat}(h0:a2<=a1):a0=a1->a2<=a0:=by walk_at "o"
theorem jtU{a0:Nat}(h0:(0:Nat)<a0):(Nat.cast (R:=Int) a0)≠(0:Int):=Int.ne_of_gt (ip h0)
theorem jsP{a0:Int}:(0:Int)<=a0%(4:Int):=emod_nonneg a0 (by decide)
theorem jtV:(0:Int)<=(15:Int)/\(15:Int)<(1000:Int):=by decide
theorem jtW{a0:Int}:a0+(1:Int)≠a0:=Int.ne_of_gt (lt_add_of_pos_right a0 (by decide))
theorem jtX{a0:Int}(h0:(0:Int)<=a0)(h1:a0<(4:Int)):a0=(0:Int)\/a0=(1:Int)\/a0=(2:Int)\/a0=(3:Int):=by walk_at "o"
theorem jtY{a0 a1:Nat}(h0:a1<(90:Nat))(h1:a0<=a1):a0<(99:Nat):=lt_of_lt_of_le (lt_of_le_of_lt h1 h0) (le_of_ble_eq_true rfl)
theorem jtZ{a0 a1:Nat}(h0:a0=a1)(h1:a0<a1):False:=nfN h1 (leE h0)
theorem jt0{a0 a1:Nat}(h0:a0<(100:Nat))(h1:(100200:Nat)<a1):a0<=a1:=le_of_lt (lt_of_lt_of_le h0 (leB h1))
theorem jt1{a0:Nat}(h0:a0<(100:Nat)):(Nat.cast (R:=Int) a0)<(1000000:Int):=Int.lt_of_lt_of_le (itl h0) (by decide)
theorem jt2{a0:Int}{a1:Nat}(h0:(0:Int)<=a0%(Nat.cast (R:=Int) a1)):a0%(Nat.cast (R:=Int) a1)=Nat.cast (R:=Int) (a0%(Nat.cast (R:=Int) a1)).toNat:=by walk_at "o"
theorem ju4{a0:Nat}:a0+(1:Nat)<=a0+(1:Nat):=le_refl (a0+1)
theorem jt3{a0:Int}(h0:(3:Int)<=a0):(0:Int)<a0:=Int.lt_of_lt_of_le (i3q (Int.le_refl 3)) h0
theorem jt4{a0:Nat}:a0<=a0+(3:Nat):=le_add_right a0 3
theorem ju5{a0 a1:Nat}(h0:a0<a1):a0<a1+(1:Nat)+(1:Nat)+(1:Nat)+(1:Nat):=lt_succ_of_lt (lt_of_lt_of_le h0 (le_add_right a1 3))
theorem jt5{a0 a1:Int}(h0:a0=a1): ¬a0<a1:=gQ h0
theorem jt6{a0 a1:Nat}(h0:a0+a1<(1000:Nat)):a0<(1000:Nat):=ltA h0
theorem jt7{a0 a1:Nat}(h0:a1+a0<(1000:Nat)):a0<(1000:Nat):=ltB h0
theorem jt8{a0 a1 a2:Int}(h0:a0<=a1/\a1<a0+a2)(h1:a0≠a1):a0<=a1/\a1<a0+a2:=h0
theorem jt9{a0 a1:Int}:a0+a1<=a0+(a1+(1:Int)):=Int.add_le_add_left (Int.le_add_of_nonneg_right (by decide)) a0
theorem jua{a0 a1:Int}:a0+a1<=a0+(1:Int)+a1:=Int.add_le_add_right (Int.le_add_of_nonneg_right (by decide)) a1
theorem jub{a0:Nat}(h0:a0<(1000:Nat)):a0<(100000:Nat):=lt_of_lt_of_le h0 (le_of_ble_eq_true rfl)
theorem jsQ{a0:Nat}:(Nat.cast (R:=Int) a0)+(1:Int)=Nat.cast (R:=Int) (a0+(1:Nat)):=by walk_at "o"
theorem ju6{a0 a1:Int}:a0+a1-(1:Int)<=a0+a1:=sub_le_self (a0+a1) (by decide)
theorem juc{a0 a1 a2:Nat}(h0:a1<=(20:Nat))(h1:a2<=a1)(h2:a0<=(3:Nat)*a2):a0<(100000:Nat):=by walk_at "o"
theorem jud{a0:Int}:a0<=a0:=Int.le_refl a0
theorem jue{a0:Int}:a0-(1:Int)<=a0-(1:Int):=Int.le_refl (a0-1)
theorem juf{a0 a1:Int}{a2:Prop}(h0:a2/\a0+a1<(1000:Int)/\(16:Int)<=a0)(h1:(3:Int)<=a1):(0:Int)<=a0+a1/\a0+a1<(1000:Int):=by omega
theorem jug{a0:Int}{a1:Nat}(h0:a0/(2:Int)%(2:Int)=(Nat.cast (R:=Int) a1)):a0/(2:Int)%(2:Int)/(2:Int)=Nat.cast (R:=Int) (0:Nat):=by walk_at "o"
theorem juh{a0:Int}{a1:Nat}(h0:a0/(2:Int)%(2:Int)=(Nat.cast (R:=Int) a1)):a0/(2:Int)%(2:Int)%(2:Int)=(Nat.cast (R:=Int) a1):=by walk_at "o"
theorem jui{a0 a1:Int}(h0:(3:Int)<=a1):a0<=a0+a1-(1:Int)/\a0+a1-(1:Int)<a0+a1:=by walk_at "o"
theorem juj{a0:Nat}:(0:Int)<(Nat.cast (R:=Int) a0)+(1:Int):=Int.lt_add_one_of_le (natCast_nonneg a0)
theorem juk{a0 a1 a2 a3 a4 a5 a6 a8:Int}{a7:Nat}(h0:a2<=a1/\a1<a2+a3)(h1:(16:Int)<=a0/\a0+a4<=a5/\(3:Int)<=a4/\a4=a6/\a7<=(3:Nat)/\(0:Int)<=a8/\a8<=(2:Int))(h2:a0+a4<=a2):a0<=a1:=Int.le_trans (i3 h2 h1.right.right.left) h0.left
theorem jul{a0 a1 a2 a3 a4 a6:Int}{a5:Nat}(h0:(16:Int)<=a0/\a0+a2<=a3/\(3:Int)<=a2/\a2=a4/\a5<=(3:Nat)/\(0:Int)<=a6/\a6<=(2:Int))(h1:a0+a2<=a1):a0<=a1:=i3 h1 h0.right.right.left
theorem jum{a0:Int}{a1:Nat}(h0:a0%(2:Int)=(Nat.cast (R:=Int) a1)):a0%(2:Int)/(2:Int)=Nat.cast (R:=Int) (0:Nat):=by walk_at "o"
theorem jun{a0:Int}{a1:Nat}(h0:a0%(2:Int)=(Nat.cast (R:=Int) a1)):a0%(2:Int)%(2:Int)=(Nat.cast (R:=Int) a1):=by walk_at "o"
theorem juo{a0:Int}{a1:Nat}(h0:a0/(2:Int)%(2:Int)=(Nat.cast (R:=Int) a1)):((2:Int)+a0/(2:Int)%(2:Int))/(2:Int)=Nat.cast (R:=Int) (1:Nat):=by walk_at "o"
theorem jup{a0:Int}{a1:Nat}(h0:a0/(2:Int)%(2:Int)=(Nat.cast (R:=Int) a1)):((2:Int)+a0/(2:Int)%(2:Int))%(2:Int)=(Nat.cast (R:=Int) a1):=by walk_at "o"
theorem juq{a0:Int}{a1:Nat}(h0:a0/(3:Int)%(2:Int)=(Nat.cast (R:=Int) a1)):a0/(3:Int)%(2:Int)/(2:Int)=Nat.cast (R:=Int) (0:Nat):=by walk_at "o"
theorem jur{a0:Int}{a1:Nat}(h0:a0/(3:Int)%(2:Int)=(Nat.cast (R:=Int) a1)):a0/(3:Int)%(2:Int)%(2:Int)=(Nat.cast (R:=Int) a1):=by walk_at "o"
theorem jus{a0:Int}{a1:Nat}(h0:a0/(3:Int)%(2:Int)=(Nat.cast (R:=Int) a1)):((2:Int)+a0/(3:Int)%(2:Int))/(2:Int)=Nat.cast (R:=Int) (1:Nat):=by walk_at "o"
theorem jut{a0:Int}{a1:Nat}(h0:a0/(3:Int)%(2:Int)=(Nat.cast (R:=Int) a1)):((2:Int)+a0/(3:Int)%(2:Int))%(2:Int)=(Nat.cast (R:=Int) a1):=by walk_at "o"
theorem juu{a0 a1 a2:Nat}(h0:(100200:Nat)<a2)(h1:a0<(200:Nat))(h2:a1<(100:Nat)):a0+a1<=a2:=by walk_at "o"
theorem juv{a0 a1 a2 a3:Nat}(h0:(100200:Nat)<a3)(h1:a0<(200:Nat))(h2:a1<(100:Nat))(h3:a2<=(4:Nat)):a0+a1+a2<=a3:=by walk_at "o"
theorem juw{a0:Nat}(h0:a0<=(2:Nat)):a0<(1000:Nat):=lt_of_le_of_lt h0 (le_of_ble_eq_true rfl)
theorem ju7{a0 a1:Nat}(h0: ¬a0<a1)(h1:a0-a1=(0:Nat)):a0=a1:=by walk_at "o"
theorem ju8{a0 a1 a2 a3:Prop}{a4 a5 a6:Nat}(h0:a4≠a5)(h1:a4=a6)(h2:a5=a6):a0/\a1/\a2/\a3:=by walk_at "o"
theorem ju9{a0 a1:Nat}(h0:a0+(3:Nat)*a1<=(500:Nat)):a0+(3:Nat)*a1<=(502:Nat):=le_trans h0 (le_of_ble_eq_true rfl)
theorem jva{a0 a1:Nat}(h0:a0+(40:Nat)*a1<=(5000:Nat)):a0+(40:Nat)*a1<=(5020:Nat):=le_trans h0 (le_of_ble_eq_true rfl)
theorem jvb{a0 a1:Nat}(h0:(Nat.cast (R:=Int) a1)>=Nat.cast (R:=Int) (a0+(1:Nat))):a0+(1:Nat)<=a1:=by walk_at "o"
theorem jvc{a0:Int}(h0:(0:Int)<a0)(h1:a0<(1000000:Int)):a0.natAbs<(2:Nat) ^ (20:Nat):=by walk_at "o"
theorem jvd{a0:Nat}(h0:a0<=(1:Nat)): ¬a0>(300:Nat):=Nat.not_lt_of_le (le_trans h0 (le_of_ble_eq_true rfl))
theorem jve{a0:Int}(h0:(0:Int)<=a0): -(2:Int) ^ (64:Nat)<a0:=by omega
theorem jvf{a0:Int}(h0:a0<(1000000:Int)):a0<(2:Int) ^ (64:Nat):=Int.lt_of_lt_of_le h0 (by decide)
theorem jvg{a0:Int}{a1:Nat}(h0:(0:Int)<=a0)(h1:a0>=(Nat.cast (R:=Int) a1)):(Nat.cast (R:=Int) a0.toNat)>=(Nat.cast (R:=Int) a1):=by walk_at "o"
theorem jvh{a0:Int}(h0:a0<(4:Int)):a0<=(1000000:Int):=Int.le_of_lt (Int.lt_of_lt_of_le h0 (by decide))
theorem jvi{a0 a1 a2 a3 a4:Nat}(h0:a3+a4<=a2)(h1:a0=a3)(h2:a1=a4):a0+a1<=a2:=by walk_at "o"
theorem jvj{a0 a1:Nat}(h0:a0+(64:Nat)<a1):a0+(1:Nat)<a1:=ltA (Qlt (Nat.add_right_comm a0 1 63) h0)
theorem jvk{a0:Int}{a1:Nat}(h0:(0:Int)<=a0)(h1:a0.toNat<a1)(h2:a1<=(16777216:Nat)+(5:Nat)):a0<(2:Int) ^ (63:Nat):=by walk_at "o"
theorem jvl{a0:Int}(h0:(0:Int)<=a0): -(2:Int) ^ (63:Nat)<=a0:=by walk_at "o"
theorem jvm{a0:Int}(h0:a0<(1000:Int)):a0<(2:Int) ^ (63:Nat):=Int.lt_of_lt_of_le h0 (by decide)
theorem jvn{a0:Int}{a1:Nat}(h0:(0:Int)<=a0)(h1:a0.toNat<a1):a0<(Nat.cast (R:=Int) a1):=by walk_at "o"
theorem jvo: ¬(1:Int)<(0:Int):=by decide
theorem jvp{a0:Nat}: ¬(Nat.cast (R:=Int) a0)<(0:Int):=not_lt_of_ge (natCast_nonneg a0)
theorem jvq{a0 a1:Nat}(h0:a0<=a1):min (Nat.cast (R:=Int) a0) (Nat.cast (R:=Int) a1)=(Nat.cast (R:=Int) a0):=by walk_at "o"
theorem jvr:(1:Int)>(0:Int):=by decide
theorem jvs{a0 a1 a2:Nat}(h0:a0<a1)(h1:a1<=a2):min a0 a1<=a2:=le_trans (min_le_right a0 a1) h1
theorem jvt{a0:Nat}:((0:Int)+(Nat.cast (R:=Int) a0)*(1:Int)).toNat=a0:=by walk_at "o"
theorem jvu{a0:Int}{a1 a2:Nat}{a3:Prop}(h0:a3)(h1:a1<=a2):min a0.toNat a1<=a2:=le_trans (min_le_right a0.toNat a1) h1
theorem jvv{a0:Int}{a1 a2:Nat}(h0:a0.toNat<a2)(h1:a1=a2)(h2:(Nat.cast (R:=Int) a0.toNat)=a0):a0.toNat<a1:=jqN h0 h1
theorem jvw{a0 a2:Nat}{a1:Int}(h0:a0<=a2):a0-a1.toNat<=a2:=le_trans (Nat.sub_le a0 a1.toNat) h0
theorem jvx{a0 a1:Nat}(h0:(Nat.cast (R:=Int) a0)<(Nat.cast (R:=Int) a1)):a0<a1:=by walk_at "o"
theorem jvy{a0:Int}{a1:Nat}(h0:(0:Int)<=a0)(h1:a0<(Nat.cast (R:=Int) a1)):a0.toNat<a1:=by walk_at "o"
theorem jvz{a0:Int}{a1 a2:Nat}(h0:a0<(Nat.cast (R:=Int) a2))(h1:a1=a2):a0<(Nat.cast (R:=Int) a1):=Int.lt_of_lt_of_le h0 (ile (leE h1))
theorem jvA{a0 a1 a2:Nat}(h0:a2<a1)(h1:a2<=a1)(h2:a0<=a2+(1:Nat)):a0<=a1:=le_trans h2 h0
theorem jvB{a0 a1:Nat}(h0:a0<a1)(h1:a0<=a1):a0+(1:Nat)<=a1:=h0
theorem jvC{a0 a1:Nat}(h0:a0=a1)(h1:a1-(1:Nat)<a1):a0-(1:Nat)<a0:=by walk_at "o"
theorem jvD{a0 a1:Int}(h0: ¬a1<=a0):a0<=a1:=Int.le_of_lt (lt_of_not_ge h0)
theorem jvE{a0 a1:Nat}(h0:a1<(64:Nat))(h1:a0=a1):a0<(64:Nat):=Qlt h1 h0
theorem jvF{a0:Nat}(h0:(0:Nat)<a0):a0-(1:Nat)+(1:Nat)=a0:=Nat.sub_add_cancel h0
theorem jvG{a0:Nat}:a0-(0:Nat)+(1:Nat)=a0+(1:Nat):=by walk_at "o"
theorem jvH{a0 a1:Nat}(h0:a0=a1)(h1:a1<=(12:Nat)):a0<=(12:Nat):=Qle h0 h1
theorem jvI{a0:Nat}(h0:a0<=(12:Nat)):a0<=(1000:Nat):=le_trans h0 (le_of_ble_eq_true rfl)
theorem jvJ{a0:Int}{a1:Nat}(h0:a1<=a0.toNat)(h1:a1<a0.toNat):(0:Int)<(Nat.cast (R:=Int) a0.toNat)-(Nat.cast (R:=Int) a1):=by walk_at "o"
theorem jvK{a0:Nat}:Nat.cast (R:=Int) (a0+(1:Nat))=(Nat.cast (R:=Int) a0)+(1:Int):=by walk_at "o"
theorem jvL{a0:Int}{a1:Nat}:(Nat.cast (R:=Int) a0.toNat)-Nat.cast (R:=Int) (a1+(1:Nat))=(Nat.cast (R:=Int) a0.toNat)-(Nat.cast (R:=Int) a1)-(1:Int):=by walk_at "o"
theorem jvM{a0:Int}{a1:Nat}(h0:a1<=a0.toNat)(h1: ¬a1<a0.toNat):(Nat.cast (R:=Int) a0.toNat)-(Nat.cast (R:=Int) a1)<=(0:Int):=by walk_at "o"
theorem jvN{a0:Int}(h0:(0:Int)<=a0/\a0<=(1000000:Int)): -(2:Int) ^ (62:Nat)<=a0:=by walk_at "o"
theorem jvO{a0:Int}(h0:(0:Int)<=a0/\a0<=(1000000:Int)):a0<(2:Int) ^ (62:Nat):=Int.lt_of_le_of_lt h0.right (by decide)
theorem jvP{a0:Int}:(Nat.cast (R:=Int) a0.toNat)-Nat.cast (R:=Int) (0:Nat)=(Nat.cast (R:=Int) a0.toNat):=by walk_at "o"
theorem jvQ:(1:Nat)+(3:Nat)*(0:Nat)<=(10:Nat):=le_of_ble_eq_true rfl
theorem jvR{a0 a1:Nat}(h0:a0+(3:Nat)*a1<=(500:Nat)):a0+(1:Nat)+(3:Nat)*a1<=(502:Nat):=by walk_at "o"
theorem jvS{a0 a1 a2:Nat}(h0:a1<=(10:Nat))(h1:a0+(40:Nat)*a2<=(5000:Nat)):a0+a1+(40:Nat)*a2<=(5020:Nat):=by walk_at "o"
theorem jvT{a0 a1:Nat}(h0:a0=a1): ¬a0>a1:=Nat.not_lt_of_le (Nat.le_of_eq h0)
theorem jvU{a0 a1 a2:Nat}(h0:a1<=a2)(h1:min a1 a2=a0):a0=a1:=by walk_at "o"
theorem jvV{a0 a1:Nat}(h0:a0+(3:Nat)*(a1+(1:Nat))<=(502:Nat)):a0<(1000:Nat):=lt_of_lt_of_le (ltA h0) (le_of_ble_eq_true rfl)
theorem jvW{a0 a1 a2 a3:Nat}(h0:a2=a3)(h1:a0=a2)(h2:a1=a3):a0=a1:=eqT h1 (eqT h0 (eqS h2))
theorem jvX{a0 a1 a2:Nat}{a3:Prop}(h0:a0=a2)(h1:a3)(h2:a2<=a1):a0+(a1-a2)=a1:=by walk_at "o"
theorem jvY{a0 a1 a2:Nat}{a3:Prop}(h0:a2=a1)(h1:a0<a2/\a3):a0<a1:=ltQ h1.left h0
theorem jvZ{a0 a1:Nat}(h0:a0+(3:Nat)*(a1+(1:Nat))<=(502:Nat)):a0+(1:Nat)+(3:Nat)*a1<=(500:Nat):=Nat.le_of_lt_succ (Qlt (Nat.add_right_comm a0 1 (3*a1)) (Nat.lt_of_succ_lt_succ h0))
theorem jv0{a0 a1:Nat}(h0:a0+(40:Nat)*(a1+(1:Nat))<=(5020:Nat)):a0+(3:Nat)+(40:Nat)*a1<=(5000:Nat):=by walk_at "o"
theorem jv1{a0 a1 a2:Nat}(h0:a0=a1+a2):a0-a1=a2:=by walk_at "o"
theorem jv2{a0 a1 a2 a3 a4:Nat}(h0:a1+a3<=a4)(h1:a0+(a2+a4)<(100:Nat)):a0+a1+(a2+a3)<(100:Nat):=by walk_at "o"
theorem jv3{a0 a1 a2:Nat}(h0:a0<=a2)(h1:(1:Nat)<=a1):a0+(1:Nat)<=a1+a2:=leQ (Nat.add_le_add h0 h1) (Nat.add_comm a2 a1)
theorem jv4{a0 a1 a2 a3:Nat}(h0:a0+(1:Nat)<=a1+a2)(h1:a3+(a1+a2)<(100:Nat)):a0+(1:Nat)<(100:Nat):=lt_of_le_of_lt h0 (ltB h1)
theorem jv5{a0 a1 a2:Nat}(h0:a0+(a1+a2)<(100:Nat)):a0<(100:Nat):=ltA h0
theorem jv6{a0 a1:Nat}(h0:a0<a1):a0+(1:Nat)<a1+(1:Nat):=succ_lt_succ h0
theorem jv7{a0:Prop}{a1 a2:Int}{a3:Nat}(h0:a3<(0:Nat)):a0->a1<=a2:=by walk_at "o"
theorem jv8{a0 a1:Nat}(h0:a0<=a1)(h1:(Nat.cast (R:=Int) a0)<(Nat.cast (R:=Int) a1)):a0<a1:=by walk_at "o"
theorem jv9{a0 a1:Nat}:((Nat.cast (R:=Int) a0)+(Nat.cast (R:=Int) a1))/(2:Int)=Nat.cast (R:=Int) ((a0+a1)/(2:Nat)):=by walk_at "o"
theorem jwa{a0 a1 a2:Nat}(h0:a0<(a1+a2)/(2:Nat)+(1:Nat))(h1: ¬a0=(a1+a2)/(2:Nat)):a0<(a1+a2)/(2:Nat):=Nat.lt_of_le_of_ne (Nat.le_of_lt_succ h0) h1
theorem jwb{a0 a1 a2:Int}{a3 a4:Nat}(h0:a2<=a1)(h1:a3<a4)(h2:a0<=a2):a0<=a1:=Int.le_trans h2 h0
theorem jwc{a0 a1:Int}(h0: ¬a1<=a0):a0<a1:=lt_of_not_ge h0
theorem jwd{a0 a1 a2:Nat}(h0:(a0+a1)/(2:Nat)<=a2)(h1: ¬a2=(a0+a1)/(2:Nat)):(a0+a1)/(2:Nat)<a2:=by walk_at "o"
theorem jwe{a0 a1 a2:Int}{a3 a4:Nat}(h0: ¬a2<=a0)(h1:a3<a4)(h2:a2<=a1):a0<a1:=Int.lt_of_lt_of_le (lt_of_not_ge h0) h2
theorem jwf{a0 a1:Nat}(h0:a0<=a1)(h1: ¬(Nat.cast (R:=Int) a0)<(Nat.cast (R:=Int) a1)):a0=a1:=by walk_at "o"
theorem jwg{a0:Nat}(h0:(Nat.cast (R:=Int) a0)=(0:Int)):a0=(0:Nat):=Nat.le_antisymm (leI (le_of_eq h0)) (zero_le a0)
theorem jwh{a0:Nat}(h0: ¬(Nat.cast (R:=Int) a0)=(0:Int)):a0=a0-(1:Nat)+(1:Nat):=by walk_at "o"
theorem jwi{a0:Int}(h0:(0:Int)<=a0):max a0 (0:Int)=a0:=by walk_at "o"
theorem jwj{a0:Int}(h0:(0:Int)<=a0):(-1000000000:Int)<a0:=by omega
theorem jwk{a0:Int}(h0:a0<(1000:Int)):a0<(1000000000:Int):=Int.lt_of_lt_of_le h0 (by decide)
theorem jwl{a0 a1:Nat}(h0:a0<(100000:Nat))(h1:(100200:Nat)<a1):a0+(1:Nat)<a1:=lt_of_le_of_lt h0 (ltB h1)
theorem jwm{a0 a1 a2:Nat}(h0:a2<(100000:Nat))(h1:(100200:Nat)<a1)(h2:a0<=a2+(1:Nat)):a0+(1:Nat)<a1:=by walk_at "o"
theorem jwn{a0 a1 a2 a3:Nat}(h0:a2<(100000:Nat))(h1:(100200:Nat)<a1)(h2:a3<=a2+(1:Nat))(h3:a0<=a3+(1:Nat)):a0+(1:Nat)<a1:=by walk_at "o"
theorem jwo{a0 a1:Nat}(h0:a0<(100000:Nat))(h1:(100200:Nat)<a1):a0<a1:=lt_of_lt_of_le h0 (leB h1)
theorem jwp{a0 a1:Nat}(h0:(100200:Nat)<a1)(h1:a0<(100:Nat)):a0+(1:Nat)<a1:=lt_of_le_of_lt h1 (ltB h0)
theorem jwq{a0 a1 a2 a3:Nat}(h0:(100200:Nat)<a1)(h1:a2<(100:Nat))(h2:a0<=a3)(h3:a3<a2):a0<a1:=by walk_at "o"
theorem jwr{a0 a1:Nat}(h0:a1<(64:Nat))(h1:a0<=a1)(h2:a0<a1):min a0 a1<=(64:Nat):=le_of_lt (lt_of_le_of_lt (min_le_right a0 a1) h0)
theorem jws{a0 a1 a2 a3:Nat}(h0:(100200:Nat)<a2)(h1:a3<(100:Nat))(h2:a0<=a3)(h3:a1<=(64:Nat)):a0+a1+(1:Nat)<a2:=by walk_at "o"
theorem jwt{a0 a1:Nat}(h0:a1+(1:Nat)<a0): ¬a0=a1:=ne_of_gt (ltA h0)
theorem jwu{a0 a1:Nat}(h0:a1<=(2:Nat)):min a0 a1<=(2:Nat):=le_trans (min_le_right a0 a1) h0
theorem jwv{a0 a1 a2:Nat}(h0:a0<(200:Nat))(h1:(100200:Nat)<a2)(h2:a1<(100:Nat)):a0+a1<=a2:=by walk_at "o"
theorem jww{a0 a1:Nat}(h0:(100200:Nat)<a1)(h1:a0<=(2:Nat)):a0+(1:Nat)<a1:=lt_of_le_of_lt (succ_le_succ h1) (ltB h0)
theorem jwx{a0 a1:Nat}:a0<=a0+a1:=le_add_right a0 a1
theorem jwy{a0 a1 a2 a3:Nat}(h0:(100200:Nat)<a2)(h1:a1<=a3)(h2:a0+a3<(100000:Nat)):a0+a1<a2:=by walk_at "o"
theorem jwz{a0 a1 a2:Nat}(h0:a0<=a1)(h1:a1+a2<(100000:Nat)):a0<(100000:Nat):=lt_of_le_of_lt h0 (ltA h1)
theorem jwA{a0 a1 a2:Nat}(h0:a1<=a2)(h1:a0+a2<(100000:Nat)):a0+a1<(100000:Nat):=lt_of_le_of_lt (add_le_add_left h0 a0) h1
theorem jwB{a0 a1 a2:Nat}(h0:a2<(1000:Nat))(h1:(100200:Nat)<a1)(h2:a0<=a2):a0+(1:Nat)<a1:=by walk_at "o"
theorem jwC{a0 a1 a2 a3 a4:Nat}(h0:a0+a1+(a2+a3)+a4<(100000:Nat)):a0<(100000:Nat):=ltA (ltA (ltA h0))
theorem jwD{a0 a1 a2 a3 a4 a5:Nat}(h0:(100200:Nat)<a1)(h1:a0+a2+(a3+a4)+a5<(100000:Nat)):(0:Nat)+a0<a1:=by walk_at "o"
theorem jwE{a0 a1 a2 a3 a4 a5:Nat}(h0:(100200:Nat)<a2)(h1:a0+a1+(a3+a4)+a5<(100000:Nat)):(0:Nat)+a0+a1<a2:=by walk_at "o"
theorem jwF{a0 a1 a2 a3 a4:Nat}(h0:a2+a3+(a0+a1)+a4<(100000:Nat)):a0+a1<(100000:Nat):=ltB (ltA h0)
theorem jwG{a0 a1 a2 a3 a4 a5:Nat}(h0:(100200:Nat)<a4)(h1:a0+a1+(a2+a3)+a5<(100000:Nat)):(0:Nat)+a0+a1+(a2+a3)<a4:=by walk_at "o"
theorem jwH{a0 a1 a2 a3 a4 a5:Nat}(h0:(100200:Nat)<a5)(h1:a0+a1+(a2+a3)+a4<(100000:Nat)):(0:Nat)+a0+a1+(a2+a3)+a4<a5:=by walk_at "o"
theorem jwI{a0 a1 a2 a3:Nat}(h0:a2<(100000:Nat))(h1:(100200:Nat)<a1)(h2:a3<a2)(h3:a0<=a3):a0+(1:Nat)<a1:=by walk_at "o"
theorem jwJ{a0 a1:Nat}(h0:a0<=a1):a0<a1+(1:Nat):=Nat.lt_succ_of_le h0
theorem jwK{a0 a1 a2:Nat}(h0:a0<=a1)(h1:a0<a1):a0<a1+a2:=lt_of_lt_of_le h1 (le_add_right a1 a2)
theorem jwL{a0 a1:Nat}(h0:a0<=a1)(h1:a0<a1):a0<a1:=h1
theorem jwM{a0 a1 a2 a3 a4 a5 a6:Nat}(h0:a0+a6<=a2+a3/\a4+a6<=a5+a3/\a6<=a3)(h1:a1+(1:Nat)<=a6):a0+((0:Nat)+(1:Nat))+a1<=a2+a3/\a4+((0:Nat)+(1:Nat))+a1<=a5+a3/\a1<=a3:=by walk_at "o"
theorem jwN{a0 a1 a2 a3:Nat}(h0:a3<=a0)(h1:a1<a3)(h2:a2<a3): ¬a0=a1/\¬a0=a2:=by walk_at "o"
theorem jwO{a0 a1 a2 a3 a4 a5:Nat}(h0:a1+a2<(1000:Nat))(h1:a0+a3<=a1+a2/\a4+a3<=a5+a2/\a3<=a2):a0<(1000:Nat):=lt_of_le_of_lt (leA h1.left) h0
theorem jwP{a0 a1 a2 a3 a4 a5:Nat}(h0:a1+a2<(1000:Nat))(h1:a3+a4<=a5+a2/\a0+a4<=a1+a2/\a4<=a2):a0<(1000:Nat):=lt_of_le_of_lt (leA h1.right.left) h0
theorem jwQ{a0 a1:Nat}(h0:a0+((0:Nat)+(1:Nat))+a1<(1000:Nat)):a0+(1:Nat)<(1000:Nat):=ltA h0
theorem jwR{a0 a1 a2 a3 a4 a5:Nat}(h0:a4+a1<=a5+a3/\a0+a1<=a2+a3/\a1<=a3):a0+a1<a2+(1:Nat)+a3:=lt_of_le_of_lt h0.right.left (Nat.add_lt_add_right (lt_succ_self a2) a3)
theorem jwS{a0 a1:Nat}(h0:a0<a1)(h1:a0=a1\/a0=a1+(1:Nat)):False:=by walk_at "o"
theorem jwT{a0 a1 a2:Nat}(h0:a0<a1)(h1:a0+(1:Nat)<a1)(h2:a1<=a2)(h3:a2=a0\/a2=a0+(1:Nat)):False:=by walk_at "o"
theorem jwU{a0 a1 a2 a3 a4:Nat}(h0:a1+a2<(1000:Nat))(h1:a0+a3<=a1+a2/\a4+a3<=(0:Nat)+a2/\a3<=a2):a0<(1000:Nat):=lt_of_le_of_lt (leA h1.left) h0
theorem jwV{a0 a1 a2 a3 a4:Nat}(h0:a1+a2<(1000:Nat))(h1:a3+a4<=a1+a2/\a0+a4<=(0:Nat)+a2/\a4<=a2):a0<(1000:Nat):=by walk_at "o"
theorem jwW{a0 a1 a2 a3 a4:Nat}(h0:a2+a3<(1000:Nat))(h1:a0+a1<=a2+a3/\a4+a1<=(0:Nat)+a3/\a1<=a3):a0+a1<(1000:Nat):=lt_of_le_of_lt h1.left h0
theorem jwX{a0 a1 a2 a3 a4:Nat}(h0:a2+a3<(1000:Nat))(h1:a4+a1<=a2+a3/\a0+a1<=(0:Nat)+a3/\a1<=a3):a0+a1<(1000:Nat):=by walk_at "o"
theorem jwY{a0 a1 a2 a3:Nat}(h0:a0<=a3+a2)(h1:a3<=a1+(1:Nat)):a0<=a1+(a2+(1:Nat)):=by walk_at "o"
theorem jwZ{a0:Nat}(h0:a0<(900:Nat)):a0<(100000:Nat):=lt_of_lt_of_le h0 (le_of_ble_eq_true rfl)
theorem jw0{a0 a1 a2:Nat}(h0:a1<(900:Nat))(h1:a0<=(0:Nat)+min a2 a1):a0<(1000:Nat):=by walk_at "o"
theorem jw1{a0 a1 a2:Nat}(h0:a2+a0<(1000:Nat))(h1:a1<=a2):a0+a1<(1000:Nat):=by walk_at "o"
theorem jw2{a0 a1 a2 a3:Nat}(h0:a0=a1\/a0=a2\/a0=a3\/a0=a3+(1:Nat)):(a0=a1\/a0=a2)\/a3<=a0:=by walk_at "o"
theorem jw3{a0 a1 a2:Nat}(h0:a0<=min a1 a2)(h1:a2<(100:Nat)):a0<(1000:Nat):=by walk_at "o"
theorem jw4{a0 a1 a2:Nat}(h0:a0=min a2 a1):a0<=a1:=Qle h0 (min_le_right a2 a1)
theorem jw5{a0 a1 a2:Nat}(h0:a2=a1)(h1:a0<a2):a0<a1:=ltQ h1 h0
theorem jw6{a0 a1 a2:Nat}(h0:a1=a2)(h1:a0<=a1):min a0 a1+(a2-a0)=a2:=by walk_at "o"
theorem jw7{a0:Nat}: ¬a0<(0:Nat):=Nat.not_lt_of_le (zero_le a0)
theorem jw8{a0:Nat}: ¬a0<a0:=Nat.not_lt_of_le (le_refl a0)
theorem jw9{a0:Nat}(h0:a0<(1000:Nat)):a0<(1000:Nat):=h0
theorem jxa{a0 a1 a2:Nat}(h0:a1=a2)(h1:a0<a2):a0<=a1:=le_of_lt (jqN h1 h0)
theorem jxb{a0 a1:Nat}(h0:a0=a1):a0<=a1:=Nat.le_of_eq h0
theorem jxc{a0 a1:Nat}(h0: ¬a0=a1)(h1: ¬a0<a1): ¬a0<a1+(1:Nat):=by walk_at "o"
theorem jxd{a0 a1 a2:Nat}(h0:(100200:Nat)<a1)(h1:a0<=a2)(h2:a2<(100:Nat)):a0+(1:Nat)<a1:=by walk_at "o"
theorem jxe{a0 a1 a2:Nat}(h0:a0<a2)(h1:a2<a1):a0<a1:=lt_trans h0 h1
theorem jxf{a0 a1 a2:Nat}(h0:a0<a2)(h1:a1=a2):a0<=a1:=le_of_lt (jqN h0 h1)
theorem jxg{a0 a1:Nat}(h0:a0<=a1)(h1:a1<(100:Nat)):a0<(100:Nat):=lt_of_le_of_lt h0 h1
theorem jxh{a0 a1 a2:Nat}(h0:a0<a1)(h1:a1<a2)(h2:a0=a2):False:=nfN h0 (le_of_lt (jqN h1 h2))
theorem jxi{a0 a1 a2:Nat}(h0:a1<=a2)(h1:a0<a1)(h2:a2<(100:Nat)):min a0 a1<(1000:Nat):=by walk_at "o"
theorem jxj{a0 a1 a2 a3:Nat}(h0:a0<(100:Nat))(h1:(100200:Nat)<a2)(h2:a3<(100:Nat))(h3:a1<=a3):a0+((0:Nat)+(1:Nat))+a1+(1:Nat)<a2:=by walk_at "o"
theorem jxk{a0 a1:Nat}(h0:a0=a1+(1:Nat))(h1:a0<a1):False:=nfN h1 (Nat.le_of_succ_le (leE h0))
theorem jxl{a0 a1 a2:Nat}(h0:a0<(100:Nat))(h1:a2<(100:Nat))(h2:a1<=a2):a0+((0:Nat)+(1:Nat))+a1<(1000:Nat):=lt_of_lt_of_le (Nat.add_lt_add_of_le_of_lt h0 (lt_of_le_of_lt h2 h1)) (le_of_ble_eq_true rfl)
theorem jxm{a0 a1 a2:Nat}(h0:a0<=a1)(h1:a1<=a2)(h2:a2<a0):False:=nfN h2 (le_trans h0 h1)
theorem jxn{a0 a1 a2 a3 a4 a5 a6 a8 a9:Int}{a7:Nat}(h0:a2=a3)(h1:(3:Int)<=a3)(h2:a0+a2<=a1/\a1+a4<=a5/\(3:Int)<=a4/\a4=a6/\a7<=(3:Nat)/\(0:Int)<=a8/\a8<=a9):a0<=a1:=i3 h2.left (jlY h1 h0)
theorem jxo{a0 a1 a2 a3 a4 a5 a6 a7 a8:Int}{a9:Nat}(h0:a2<=a1)(h1:a3+a4<=a5/\a5+a6<=a7/\(3:Int)<=a6/\a6=a8/\a9<=(3:Nat)/\(0:Int)<=a0/\a0<=a2):a0<=a1:=Int.le_trans h1.right.right.right.right.right.right h0
theorem jxp{a0:Prop}{a1 a2 a3 a4 a5:Int}(h0:a1<=a2/\a2<a1+a3)(h1:a4<=a2/\a2<a4+a5)(h2:a4+a5<=a1/\(3:Int)<=a5):a0:=by omega
theorem jxq{a0:Prop}{a1 a2 a3 a4 a5:Int}(h0:a1<=a2/\a2<a1+a3)(h1:a4<=a2/\a2<a4+a5)(h2:a1+a3<=a4):a0:=by walk_at "o"
theorem jxr{a0 a1 a2:Int}(h0:a1=a0)(h1:(3:Int)<=a2):a0<=a1/\a1<a0+a2:=by walk_at "o"
theorem jxs{a0 a1 a2 a3 a5:Int}{a4 a6:Nat}(h0:(16:Int)<=a0/\a0+a1<=a2/\(3:Int)<=a1/\a1=a3/\a4<=(3:Nat)/\(0:Int)<=a5/\a5<=(2:Int))(h1:(16:Int)<=a2/\a2<=(16:Int)+(5:Int)*(Nat.cast (R:=Int) a6))(h2:a6<(100:Nat)):((0:Int)<=a0/\a0<(1000:Int))/\a0+a1<(1000:Int)/\(16:Int)<=a0:=by omega
theorem jxt{a0 a1 a2 a3:Nat}(h0:a1<=a2*a3)(h1:a0<=a2):a0+a1<=a2*a3+a2*(1:Nat):=by walk_at "o"
theorem jxu{a0 a1:Nat}(h0:a0<=(3:Nat)*a1)(h1:a1<(100:Nat)):a0<(100000:Nat):=by walk_at "o"
theorem jxv{a0 a1 a2:Nat}(h0:a0<=a1)(h1:a2<=a0)(h2:a1<a2):False:=nfN h2 (le_trans h1 h0)
theorem jxw{a0 a1 a2:Nat}(h0:a0<=a1)(h1:a2<a0)(h2:a2=a1):False:=nfN h1 (jsi h0 h2)
theorem jxx{a0 a1 a2 a3 a4:Nat}(h0:a2<=a3)(h1:a0<=a2)(h2:a4<=a1)(h3:a3<a4):a0<=a1:=le_of_lt (lt_of_lt_of_le (lt_of_le_of_lt h1 (lt_of_le_of_lt h0 h3)) h2)
theorem jxy{a0 a1 a2:Int}(h0: ¬a2>a1)(h1:a0<=a2):a0<=a1:=Int.le_trans h1 (Int.le_of_not_gt h0)
theorem jxz{a0 a1 a2 a3:Int}(h0:a0=a2)(h1:a1=a3)(h2:(3:Int)<=a3):a0+a1>a2:=Int.lt_of_le_of_lt (iE h0) (i3q (jlY h2 h1))
theorem jxA{a0 a1 a2 a3 a4:Int}(h0:a0>a1/\a2+a3>a4)(h1:a0<=a1):False:=nfI h0.left h1
theorem jxB{a0 a1:Int}{a2:Prop}(h0:a0<=a1/\a2)(h1:a0>a1):False:=nfI h1 h0.left
theorem jxC{a0 a1 a2 a3:Int}{a4:Prop}(h0:a2>a3)(h1:a2<=a3/\a4):a0=a1:=by walk_at "o"
theorem jxD{a0 a1:Int}(h0:(0:Int)=a1)(h1:(16:Int)<=a1):a0=(0:Int):=by walk_at "o"
theorem jxE{a0:Prop}{a1 a2:Int}(h0:a0/\a1<=a2)(h1:a1>a2):False:=nfI h1 h0.right
theorem jxF{a0 a1 a2 a3 a4:Int}{a5:Nat}(h0:(16:Int)<=a1/\a1+a2<=a3/\(3:Int)<=a2/\a2=a4/\a5<=(3:Nat)/\(0:Int)<=a0/\a0<=(2:Int)):(0:Int)<=a0/\a0<=(2:Int):=h0.right.right.right.right.right
theorem jxG{a0 a1:Int}(h0:(3:Int)<=a1)(h1:(16:Int)<=a0):(a0<=a0/\a0<a0+a1)/\a0≠(0:Int):=by walk_at "o"
theorem jxH{a0 a1 a2:Int}(h0:a1<=a0/\a0<a1+a2)(h1:(16:Int)<=a1):a0≠(0:Int):=by omega
theorem jxI{a0 a1 a2 a3:Int}(h0:a2<=a1/\a1<a2+a3):a0<=a1-a2+a0/\a1-a2+a0<a0+a3:=by walk_at "o"
theorem jxJ{a0 a1 a2:Int}(h0:a1>a2)(h1: ¬a0>a2):a0<a1:=Int.lt_of_lt_of_le (lt_of_not_ge h1) h0
theorem jxK{a0 a1 a2 a3 a4 a5 a6 a8 a9 a10:Int}{a7 a11:Nat}(h0:a0>a1)(h1: ¬a2>a1)(h2:(16:Int)<=a3/\a3+a4<=a5/\(3:Int)<=a4/\a4=a6/\a7<=(3:Nat)/\(0:Int)<=a0/\a0<=(2:Int))(h3:(16:Int)<=a8/\a8+a9<=a5/\(3:Int)<=a9/\a9=a10/\a11<=(3:Nat)/\(0:Int)<=a2/\a2<=(2:Int)):a0>(0:Int):=Int.lt_of_lt_of_le (Int.lt_of_le_of_lt h3.right.right.right.right.right.left (lt_of_not_ge h1)) h0
theorem jxL{a0 a1 a2 a3 a4 a5:Int}{a6:Nat}(h0:a1>a0)(h1:(16:Int)<=a2/\a2+a3<=a4/\(3:Int)<=a3/\a3=a5/\a6<=(3:Nat)/\(0:Int)<=a1/\a1<=(2:Int)):a0<(2:Int):=Int.lt_of_lt_of_le h0 h1.right.right.right.right.right.right
theorem jxM{a0 a1:Int}(h0: ¬a0<=a1):a0>a1:=lt_of_not_ge h0
theorem jxN{a0:Nat}(h0:(2:Nat)<a0)(h1:a0<=(2:Nat)):False:=nfN h0 h1
theorem jxO{a0 a1 a2:Nat}(h0:a2<(1000:Nat))(h1:a0+a1<=a2):a0+a1<(1000:Nat):=lt_of_le_of_lt h1 h0
theorem jxP{a0 a1 a2 a3:Nat}(h0:a2<(1000:Nat))(h1:a3+a0<=a2)(h2:a1<=a3):a0+a1<(1000:Nat):=by walk_at "o"
theorem jxQ{a0 a1 a2 a3:Nat}(h0:a1<(1000:Nat))(h1:a2+a3<=a1)(h2:a0<=a2):a0<(1000:Nat):=lt_of_le_of_lt h2 (lt_of_le_of_lt (leA h1) h0)
theorem jxR{a0 a3 a4 a5 a7:Int}{a1 a2 a6:Nat}(h0:a1<(100:Nat))(h1:a2<=a1)(h2:(16:Int)<=a0/\a0+a3<=a4/\(3:Int)<=a3/\a3=a5/\a6<=(3:Nat)/\(0:Int)<=a7/\a7<=(2:Int))(h3:(16:Int)<=a4/\a4<=(16:Int)+(5:Int)*(Nat.cast (R:=Int) a2)):(0:Int)<=a0/\a0<(1000:Int):=by walk_at "o"
theorem jxS{a0 a1 a2:Nat}(h0:a1<(100:Nat))(h1:a2<=a1)(h2:a0<=(3:Nat)*a2):a0<(900:Nat):=by walk_at "o"
theorem jxT{a0 a1 a2:Nat}(h0:a0<=a1)(h1:a1=a2)(h2:a2<a0):False:=nfN h2 (leQ h0 h1)
theorem jxU{a0 a1 a2:Nat}(h0:a0<=a1)(h1:a2=a1)(h2:a2<a0):False:=nfN h2 (jsi h0 h1)
theorem jxV{a0 a1:Nat}(h0:a1<(100:Nat))(h1:a0<=a1):a0<(1000:Nat):=lt_of_lt_of_le (lt_of_le_of_lt h1 h0) (le_of_ble_eq_true rfl)
theorem jxW{a0 a1 a2 a3 a4:Nat}(h0:a4+a1<=a3)(h1:a0+a2=a4):a0+(a1+a2)<=a3:=by walk_at "o"
theorem jxX{a0 a1 a2 a3 a4 a5:Nat}(h0:(3:Nat)*a2<=a1)(h1:a3<=a4)(h2:a5<=(3:Nat)*a3)(h3:a0<=(0:Nat)+a5)(h4:a4<=a2):a0<=a1:=by walk_at "o"
theorem jxY{a0:Int}{a1:Nat}(h0:(0:Int)<=a0%(Nat.cast (R:=Int) a1)):Nat.cast (R:=Int) (a0%(Nat.cast (R:=Int) a1)).toNat=a0%(Nat.cast (R:=Int) a1):=by walk_at "o"
theorem jxZ{a0 a1:Nat}{a2:Int}(h0:a2%(Nat.cast (R:=Int) a1)<(Nat.cast (R:=Int) a1))(h1:(Nat.cast (R:=Int) a0)=a2%(Nat.cast (R:=Int) a1)):a0<a1:=ltI (Int.lt_of_le_of_lt (le_of_eq h1) h0)
theorem jx0{a0:Int}:a0%(6:Int)=(0:Int)\/a0%(6:Int)=(1:Int)\/a0%(6:Int)=(2:Int)\/a0%(6:Int)=(3:Int)\/a0%(6:Int)=(4:Int)\/a0%(6:Int)=(5:Int):=by walk_at "o"
theorem jx1{a0:Int}:a0%(4:Int)=(0:Int)\/a0%(4:Int)=(1:Int)\/a0%(4:Int)=(2:Int)\/a0%(4:Int)=(3:Int):=by walk_at "o"
theorem jx2{a0:Int}:a0%(3:Int)=(0:Int)\/a0%(3:Int)=(1:Int)\/a0%(3:Int)=(2:Int):=by walk_at "o"
theorem jx3{a0:Int}:(0:Int)<=a0%(6:Int):=emod_nonneg a0 (by decide)
theorem jx4{a0:Int}:a0%(6:Int)<(1000:Int):=Int.lt_of_lt_of_le (emod_lt_of_pos a0 (by decide)) (by decide)
theorem jx5{a0:Int}{a1:Nat}(h0:(16:Int)<=a0/\a0<=(16:Int)+(5:Int)*(Nat.cast (R:=Int) a1))(h1:a1<(100:Nat)):(16:Int)<=a0/\a0<=(600:Int):=by walk_at "o"
theorem jx6{a0 a2 a3:Int}{a1:Prop}(h0:a1/\a2+a3<(1000:Int)/\(16:Int)<=a2)(h1:a2<=a0/\a0<a2+a3)(h2:a0≠a2):(0:Int)<=a0/\a0<(1000:Int):=by omega
theorem jx7{a0 a2 a3:Int}{a1:Prop}(h0:a1/\a2+a3<(1000:Int)/\(16:Int)<=a2)(h1:a2<=a0/\a0<a2+a3)(h2:a0≠a2):a0≠(0:Int):=by omega
theorem jx8{a0:Int}:a0%(4:Int)<(1000:Int):=Int.lt_of_lt_of_le (emod_lt_of_pos a0 (by decide)) (by decide)
theorem jx9{a0 a1:Int}(h0:(16:Int)<=a0/\a0<=(600:Int)):(0:Int)<=a0+a1/(4:Int)%(3:Int)/\a0+a1/(4:Int)%(3:Int)<(1000:Int):=by walk_at "o"
theorem jya{a0 a1:Int}(h0:(16:Int)<=a0/\a0<=(600:Int)):a0+a1/(4:Int)%(3:Int)≠(0:Int):=by walk_at "o"
theorem jyb{a0 a1 a2 a3 a4 a5 a7:Int}{a6:Nat}(h0:a0=a1)(h1:a2=a0+a3/(4:Int)%(3:Int))(h2:(16:Int)<=a2/\a2+a4<=a1/\(3:Int)<=a4/\a4=a5/\a6<=(3:Nat)/\(0:Int)<=a7/\a7<=(2:Int)):False:=by walk_at "o"
theorem jyc:(15:Int)≠(0:Int):=by decide
theorem jyd{a0:Int}(h0:a0=(15:Int))(h1:(16:Int)<=a0):False:=nfI (Int.lt_add_one_of_le (le_of_eq h0)) h1
theorem jye{a0 a1:Int}(h0:(3:Int)<=a1):a0<=a0+(1:Int)/\a0+(1:Int)<a0+a1:=by walk_at "o"
theorem jyf{a0 a1:Int}(h0:(3:Int)<=a1):a0<=a0+(2:Int)/\a0+(2:Int)<a0+a1:=by walk_at "o"
theorem jyg{a0:Int}:a0+(2:Int)≠a0:=Int.ne_of_gt (lt_add_of_pos_right a0 (by decide))
theorem jyh{a0:Nat}(h0:a0<(0:Nat)+(1:Nat)+(1:Nat)):a0=(0:Nat)\/a0=(1:Nat):=by walk_at "o"
theorem jyi{a0:Nat}(h0:a0<(2:Nat)):a0=(0:Nat)\/a0=(1:Nat):=by walk_at "o"
theorem jyj{a0 a1 a2:Nat}(h0:a1<(1000:Nat))(h1:a0+a2<=a1):a0<(1000:Nat):=lt_of_le_of_lt (leA h1) h0
theorem jyk{a0 a1 a2:Nat}(h0:a0+a1<=a2):a0+(1:Nat)+a1<=a2+(1:Nat):=Qle (Nat.add_right_comm a0 1 a1) (succ_le_succ h0)
theorem jyl{a0 a1 a2 a3 a4:Int}(h0:a3<=a1/\a1<a3+a4)(h1:a0=a3)(h2:a2=a4):a0<=a1/\a1<a0+a2:=by walk_at "o"
theorem jym{a0 a1:Int}(h0:(0:Int)<=a1)(h1:a0=(0:Int)):a0<=a1:=juV h1 h0
theorem jyn{a0:Int}(h0:a0=(0:Int)):(0:Int)<=a0:=iE h0
theorem jyo{a0 a1 a2 a3 a4 a6:Int}{a5:Nat}(h0:a1=a2)(h1:(16:Int)<=a0/\a0+a3<=a2/\(3:Int)<=a3/\a3=a4/\a5<=(3:Nat)/\(0:Int)<=a6/\a6<=(2:Int)):a0≠a1:=Int.ne_of_lt (i3t (jlY h1.right.left h0) h1.right.right.left)
theorem jyp{a0:Nat}(h0:a0<=(3:Nat)):a0<(100:Nat):=lt_of_le_of_lt h0 (le_of_ble_eq_true rfl)
theorem jyq{a0 a1 a2 a3 a4 a6:Int}{a5:Nat}(h0:(16:Int)<=a0/\a0+a2<=a3/\(3:Int)<=a2/\a2=a4/\a5<=(3:Nat)/\(0:Int)<=a6/\a6<=(2:Int))(h1:a1=a3):a0≠a1:=Int.ne_of_lt (i3t (jlY h0.right.left h1) h0.right.right.left)
theorem jyr{a0:Nat}(h0:(2:Nat)<a0)(h1:(2:Nat)=a0):False:=nfN h0 (leE h1)
theorem jys{a0:Int}:a0%(4:Int)=Nat.cast (R:=Int) (a0%(4:Int)).toNat:=by walk_at "o"
theorem jyt{a0:Nat}{a1:Int}(h0:a1%(4:Int)=(Nat.cast (R:=Int) a0)):a0<(1000000:Nat):=by walk_at "o"
theorem jyu{a0 a1 a3:Nat}{a2:Int}(h0:a2%(4:Int)=(Nat.cast (R:=Int) a3))(h1:(100200:Nat)<a1)(h2:a0<a3):a0<a1:=by walk_at "o"
theorem jyv{a0:Nat}{a1:Int}(h0:a1%(4:Int)=(Nat.cast (R:=Int) a0)):a0<=(3:Nat):=by walk_at "o"
theorem jyw{a0:Int}:(0:Int)<=a0/(4:Int)%(5:Int):=emod_nonneg (a0/4) (by decide)
theorem jyx{a0:Int}(h0:a0/(4:Int)%(5:Int)<(4:Int)):a0/(4:Int)%(5:Int)<(4:Int):=h0
theorem jyy{a0:Nat}(h0:(Nat.cast (R:=Int) a0)>(0:Int)):(Nat.cast (R:=Int) a0)≠(0:Int):=Int.ne_of_gt h0
theorem jyz{a0 a1:Nat}{a2:Int}(h0:a2%(Nat.cast (R:=Int) a1)=(Nat.cast (R:=Int) a0))(h1:a2%(Nat.cast (R:=Int) a1)<(Nat.cast (R:=Int) a1)):a0<a1:=ltI (Int.lt_of_le_of_lt (iE h0) h1)
theorem jyA{a0:Int}{a1:Nat}:(0:Int)<=a0/(Nat.cast (R:=Int) a1)%(4:Int):=emod_nonneg (a0/(Nat.cast (R:=Int) a1)) (by decide)
theorem jyB{a0:Int}{a1:Nat}:a0/(Nat.cast (R:=Int) a1)%(4:Int)<(4:Int):=emod_lt_of_pos (a0/(Nat.cast (R:=Int) a1)) (by decide)
theorem jyC{a0:Int}(h0:(3:Int)<=a0):a0≠(0:Int):=Int.ne_of_gt (Int.lt_of_lt_of_le (i3q (Int.le_refl 3)) h0)
theorem jyD{a0 a1 a2:Int}(h0:(0:Int)<=a1/(12:Int)%a2)(h1:a1/(12:Int)%a2<a2):a0<=a0+a1/(12:Int)%a2/\a0+a1/(12:Int)%a2<a0+a2:=by walk_at "o"
theorem jyE{a0:Nat}:a0+(1:Nat)<=a0+(3:Nat):=add_le_add_left (le_of_ble_eq_true rfl) a0
theorem jyF{a0:Nat}:a0+(1:Nat)+(1:Nat)=a0+(2:Nat):=add_assoc a0 1 1
theorem jyG{a0:Nat}:a0+(2:Nat)+(1:Nat)=a0+(3:Nat):=add_assoc a0 2 1
theorem jyH{a0:Nat}:a0+(3:Nat)+(1:Nat)=a0+(4:Nat):=add_assoc a0 3 1
theorem jyI{a0 a1:Nat}(h0:a0<a1):a0≠a1+(2:Nat):=ne_of_lt (lt_succ_of_lt (lt_succ_of_lt h0))
theorem jyJ{a0 a1:Nat}(h0:a0<a1):a0≠a1+(3:Nat):=ne_of_lt (lt_of_lt_of_le h0 (le_add_right a1 3))
theorem jyK{a0 a1:Nat}(h0:a0<a1):a0≠a1+(4:Nat):=ne_of_lt (lt_of_lt_of_le h0 (le_add_right a1 4))
theorem jyL{a0:Nat}:a0<a0+(1:Nat)+(1:Nat)+(1:Nat)+(1:Nat):=lt_succ_of_lt (Nat.lt_add_of_pos_right (le_of_ble_eq_true rfl))
theorem jyM{a0:Nat}:a0<a0+(1:Nat)+(1:Nat)+(1:Nat):=lt_succ_of_lt (Nat.lt_add_of_pos_right (le_of_ble_eq_true rfl))
theorem jyN{a0:Nat}:a0+(1:Nat)<a0+(1:Nat)+(1:Nat)+(1:Nat)+(1:Nat):=succ_lt_succ (Nat.lt_add_of_pos_right (le_of_ble_eq_true rfl))
theorem jyO{a0:Nat}:a0+(1:Nat)<a0+(1:Nat)+(1:Nat)+(1:Nat):=succ_lt_succ (Nat.lt_add_of_pos_right (le_of_ble_eq_true rfl))
theorem jyP{a0:Nat}:a0+(2:Nat)<a0+(1:Nat)+(1:Nat)+(1:Nat)+(1:Nat):=succ_lt_succ (Nat.add_lt_add_left (le_of_ble_eq_true rfl) a0)
theorem jyQ{a0:Nat}:a0+(2:Nat)<a0+(1:Nat)+(1:Nat)+(1:Nat):=lt_succ_self (a0+2)
theorem jyR{a0:Nat}:a0+(3:Nat)<a0+(1:Nat)+(1:Nat)+(1:Nat)+(1:Nat):=lt_succ_self (a0+3)
theorem jyS{a0 a1 a2:Nat}(h0:a0<a1)(h1:a2<a1)(h2:a1=a0\/a1=a2):False:=by walk_at "o"
theorem jyT{a0:Nat}(h0:a0=(2:Nat)):(1:Nat)<a0:=Nat.lt_of_succ_le (leE h0)
theorem jyU{a0:Nat}(h0:a0=(1:Nat)):(0:Nat)<a0:=Nat.lt_of_succ_le (leE h0)
theorem jyV{a0 a1 a2 a3:Int}{a4:Prop}(h0:a1<=a2/\a2<a1+a3)(h1:a0=a2)(h2:a4/\a1+a3<(1000:Int)/\(16:Int)<=a1):(0:Int)<=a0/\a0<(1000:Int):=by walk_at "o"
theorem jyW{a0 a1 a2:Nat}(h0:a0+a1<(1000:Nat))(h1:(100200:Nat)<a2):a0+a1<=a2:=le_of_lt (lt_of_lt_of_le h0 (leB h1))
theorem jyX{a0 a1 a2 a3:Nat}(h0:a2+a3<(1000:Nat))(h1:(100200:Nat)<a1)(h2:a0<=a2+a3):a0+(1:Nat)<a1:=by walk_at "o"
theorem jyY{a0 a1:Int}(h0: ¬a0>(0:Int))(h1:(0:Int)<=a1)(h2:a1<a0):False:=nfI h2 (Int.le_trans (Int.le_of_not_gt h0) h1)
theorem jyZ{a0 a1:Nat}(h0:a1<(100:Nat)):min a0 a1<(1000:Nat):=lt_of_lt_of_le (lt_of_le_of_lt (min_le_right a0 a1) h0) (le_of_ble_eq_true rfl)
theorem jy0{a0 a1:Nat}:(100:Nat)*min a0 a1<=(100:Nat)*a1:=by walk_at "o"
theorem jy1{a0 a1 a2:Nat}(h0:(100200:Nat)<a1)(h1:a0<=a2)(h2:a2<=(2:Nat)):a0<a1:=lt_of_le_of_lt h1 (lt_of_le_of_lt h2 (ltB h0))
theorem jy2{a0 a1 a2 a3 a4:Nat}(h0:(100200:Nat)<a2)(h1:a3<(100:Nat))(h2:a4<(100:Nat))(h3:a0<=(100:Nat)*a3)(h4:a1<=a4):a0+a1<a2:=by walk_at "o"
theorem jy3{a0 a1 a2 a3 a4:Int}(h0:a2<=a3+(1:Int))(h1:(3:Int)<=a4)(h2:a0<a2)(h3:a3+a4<=a1):a0<a1:=Int.lt_of_lt_of_le h2 (Int.le_trans h0 (Int.add_one_le_of_lt (i3t h3 h1)))
theorem jy4{a0 a1 a2 a3 a4 a5 a6:Int}(h0:a3-(1:Int)<=a0)(h1:a3+a4-(1:Int)<=a0+a2)(h2:a5<=a1/\a1<a5+a6)(h3:(3:Int)<=a4)(h4:a5+a6<=a3/\(3:Int)<=a6)(h5: ¬a1<a0):a0<=a1/\a1<a0+a2:=by walk_at "o"
theorem jy5{a0 a1 a2 a3 a4 a5 a6:Int}(h0:a2-(1:Int)<=a3)(h1:a4<=a1/\a1<a4+a5)(h2:a4+a5<=a2/\(3:Int)<=a5)(h3: ¬a1<a3)(h4:a0+a6<=a2/\(3:Int)<=a6):a0<=a1:=by walk_at "o"
theorem jy6{a0 a1 a2 a3 a4 a5 a6:Int}(h0:a2-(1:Int)<=a3)(h1:a4<=a0/\a0<a4+a5)(h2:(3:Int)<=a6)(h3:a4+a5<=a2/\(3:Int)<=a5)(h4: ¬a0<a3)(h5:a2+a6<=a1):a0<a1:=Int.lt_of_lt_of_le h1.right (Int.le_trans h3.left (i3 h5 h2))
theorem jy7{a0 a1 a2 a3 a4:Int}(h0:a3<=a1/\a1<a3+a4)(h1:a3≠a1)(h2:a0<=a3+(1:Int))(h3:a3+a4-(1:Int)<=a0+a2)(h4:a1≠a3+a4-(1:Int)\/a3+a4<=a0+a2):a0<=a1/\a1<a0+a2:=by walk_at "o"
theorem jy8{a0 a1 a2 a3 a4:Int}(h0:a2<=a1/\a1<a2+a3)(h1:a2≠a1)(h2:a0+a4<=a2/\(3:Int)<=a4):a0<=a1:=Int.le_trans (i3 h2.left h2.right) h0.left
theorem jy9{a0 a1 a2 a3 a4 a5 a6:Int}(h0:a2<=a1/\a1<a2+a3)(h1:(3:Int)<=a4)(h2:a2≠a1)(h3:a5+a4<=a2)(h4:a0+a6<=a5/\(3:Int)<=a6):a0<=a1:=Int.le_trans (Int.le_trans (i3 h4.left h4.right) (i3 h3 h1)) h0.left
theorem jza{a0 a1 a2 a3 a4 a5:Int}(h0:a2<=a1/\a1<a2+a3)(h1:(3:Int)<=a4)(h2:a2≠a1)(h3:a5≠a1)(h4:a5+a4<=a2)(h5:a0<=a5+(1:Int)):a0<=a1:=Int.le_trans h5 (Int.le_trans (Int.add_one_le_of_lt (i3t h4 h1)) h0.left)
theorem jzb{a0 a1 a2:Int}(h0:a1=a0+a2-(1:Int))(h1:(3:Int)<=a2):a0<=a1/\a1<a0+a2:=by walk_at "o"
theorem jzc{a0 a1 a2:Int}(h0:a0=a1+a2-(1:Int))(h1:(3:Int)<=a2)(h2:a1=a0):False:=by walk_at "o"
theorem jzd{a0 a1 a2 a3 a4:Int}(h0:a0=a3+a4-(1:Int))(h1:a1+a2=a0): ¬a0<a1+a2:=not_lt_of_ge (le_of_eq h1)
theorem jze{a0 a1 a2 a3:Int}(h0:a0=a2+a3-(1:Int))(h1:a2+a3<=a1):a0<a1:=Int.lt_of_lt_of_le (Int.lt_of_le_of_lt (le_of_eq h0) (Int.sub_lt_self (a2+a3) (by decide))) h1
theorem jzf{a0 a1 a2 a3:Int}(h0:a0+a1<=a2+a3):a0+a1-(1:Int)<=a2+a3:=Int.le_trans (sub_le_self (a0+a1) (by decide)) h0
theorem jzg{a0 a1 a2 a3:Int}(h0:a2=a3)(h1:a2=a0+a1):a0+(a1+(1:Int))>a2:=Int.lt_of_le_of_lt (le_of_eq h1) (Int.add_lt_add_left (lt_add_of_pos_right a1 (by decide)) a0)
theorem jzh{a0 a1:Int}:a0+a1<a0+(a1+(1:Int)):=Int.add_lt_add_left (lt_add_of_pos_right a1 (by decide)) a0
theorem jzi{a0 a1 a2 a3 a5:Int}{a4:Nat}(h0:(16:Int)<=a0/\a0+a1<=a2/\(3:Int)<=a1/\a1=a3/\a4<=(3:Nat)/\(0:Int)<=a5/\a5<=(2:Int)):a0<=a0+(1:Int)/\a0+(1:Int)<a0+a1:=by walk_at "o"
theorem jzj{a0:Int}(h0:a0=a0+(1:Int)):False:=nfI (Int.lt_add_one_of_le (iE h0)) (Int.le_refl (a0+1))
theorem jzk{a0:Int}: ¬a0+(1:Int)<a0:=not_lt_of_ge (Int.le_add_of_nonneg_right (by decide))
theorem jzl{a0 a1 a2 a3:Int}(h0:a2=a3)(h1:a2=a0+a1):a0+(1:Int)+a1>a2:=Int.lt_of_le_of_lt (le_of_eq h1) (Int.add_lt_add_right (lt_add_of_pos_right a0 (by decide)) a1)
theorem jzm{a0 a1:Int}:a0+a1<a0+(1:Int)+a1:=Int.add_lt_add_right (lt_add_of_pos_right a0 (by decide)) a1
theorem jzn{a0 a1 a2 a3:Int}(h0:a0<=a2+(1:Int))(h1:(3:Int)<=a3)(h2:a2+a3<=a1):a0<=a1:=Int.le_trans h0 (Int.add_one_le_of_lt (i3t h2 h1))
theorem jzo{a0 a1 a2 a3 a4:Nat}(h0:a0<a2)(h1:a2<=a3)(h2:a4<=a1)(h3:a3<a4):a0≠a1:=ne_of_lt (lt_of_lt_of_le (lt_trans h0 (lt_of_le_of_lt h1 h3)) h2)
theorem jzp{a0 a1 a2:Int}(h0:a2/(2:Int)%(3:Int)=a1): ¬a0>a0+(1:Int)+a1:=by walk_at "o"
theorem jzq{a0 a1 a2:Int}(h0:a2/(2:Int)%(3:Int)=a1):a0>a0-(1:Int)-a1:=by walk_at "o"
theorem jzr{a0:Int}{a1:Nat}(h0:(0:Nat)<a1)(h1:a0%(Nat.cast (R:=Int) a1)<(Nat.cast (R:=Int) a1)):(a0%(Nat.cast (R:=Int) a1)).toNat<a1:=by walk_at "o"
theorem jzs{a0 a1:Nat}(h0:(100200:Nat)<a1)(h1:a0<=(1:Nat)):a0+(1:Nat)<a1:=lt_of_le_of_lt (succ_le_succ h1) (ltB h0)
theorem jzt{a0 a1 a2 a3:Int}(h0:a1%(4:Int)=a2)(h1:a0=a3\/a0=a2)(h2:(0:Int)<=a3):(0:Int)<=a0:=by walk_at "o"
theorem jzu{a0 a1 a2 a3:Int}(h0:a2+a3=a0+a1-(1:Int)):a0+a1-(1:Int)<=a2+a3:=iE h0
theorem jzv{a0 a1 a2 a3 a4:Int}(h0:a0+a1=a3+a4-(1:Int))(h1:a2=a3+a4-(1:Int)):a0+a1=a2:=by walk_at "o"
theorem jzw{a0 a1 a2 a3 a4:Int}(h0:a0<=a2)(h1:a0+a3=a2+a4-(1:Int))(h2:(3:Int)<=a4)(h3:a1=a2+a4-(1:Int)):a0<=a1:=by walk_at "o"
theorem jzx{a0 a1:Int}:a0+(a1-(1:Int))=a0+a1-(1:Int):=by walk_at "o"
theorem jzy{a0 a1 a2 a3 a4 a6:Int}{a5:Nat}(h0:(16:Int)<=a0/\a0+a1<=a3/\(3:Int)<=a1/\a1=a4/\a5<=(3:Nat)/\(0:Int)<=a6/\a6<=(2:Int))(h1:a2=a3): ¬a0+(a1-(1:Int))>a2:=by walk_at "o"
theorem jzz{a0 a1:Int}: ¬a0+a1<a0+(a1-(1:Int)):=not_lt_of_ge (Int.add_le_add_left (sub_le_self a1 (by decide)) a0)
theorem jzA{a0 a1 a2 a3 a5:Int}{a4:Nat}(h0:(16:Int)<=a0/\a0+a1<=a2/\(3:Int)<=a1/\a1=a3/\a4<=(3:Nat)/\(0:Int)<=a5/\a5<=(2:Int)):a0<=a0/\a0<a0+a1:=by walk_at "o"
theorem jzB{a0 a1 a2:Int}(h0:a0=a1-(1:Int))(h1:(3:Int)<=a2):a0<=a1/\a1<a0+a2:=by walk_at "o"
theorem jzC{a0:Int}(h0:a0=a0-(1:Int)):False:=by walk_at "o"
theorem jzD{a0 a1:Int}:a0-(1:Int)+a1=a0+a1-(1:Int):=by walk_at "o"
theorem jzE{a0:Int}:a0-(1:Int)≠a0:=Int.ne_of_lt (Int.sub_lt_self a0 (by decide))
theorem jzF{a0:Int}:a0-(1:Int)<a0:=Int.sub_lt_self a0 (by decide)
theorem jzG{a0 a1 a2 a3 a4 a6:Int}{a5:Nat}(h0:(16:Int)<=a0/\a0+a1<=a3/\(3:Int)<=a1/\a1=a4/\a5<=(3:Nat)/\(0:Int)<=a6/\a6<=(2:Int))(h1:a2=a3): ¬a0-(1:Int)+a1>a2:=not_lt_of_ge (Int.le_trans (Int.add_le_add_right (sub_le_self a0 (by decide)) a1) (jlY h0.right.left h1))
theorem jzH{a0 a1:Int}: ¬a0+a1<a0-(1:Int)+a1:=not_lt_of_ge (Int.add_le_add_right (sub_le_self a0 (by decide)) a1)
theorem jzI{a0 a1 a2 a3 a4:Nat}(h0:a2<=a3)(h1:a0<a2)(h2:a4<=a1)(h3:a3<a4):a0≠a1:=ne_of_lt (lt_of_lt_of_le (lt_trans h1 (lt_of_le_of_lt h0 h3)) h2)
theorem jzJ{a0 a1 a2 a3:Nat}(h0:a0<=a2)(h1:a3<=a1)(h2:a2<a3):a0<=a1:=le_of_lt (lt_of_lt_of_le (lt_of_le_of_lt h0 h2) h1)
theorem jzK{a0:Int}:a0+(1:Int)-(1:Int)=a0:=Int.add_sub_cancel a0 1
theorem jzL{a0:Int}(h0: ¬a0%(2:Int)=(0:Int)):a0/(2:Int)%(2:Int)=Nat.cast (R:=Int) (a0/(2:Int)%(2:Int)).toNat:=by walk_at "o"
theorem jzM{a0:Nat}(h0:a0<=(5:Nat)):a0<(100000:Nat):=lt_of_le_of_lt h0 (le_of_ble_eq_true rfl)
theorem jzN{a0:Int}:a0-(1:Int)+(1:Int)=a0:=Int.sub_add_cancel a0 1
theorem jzO{a0 a1 a2 a3:Nat}(h0:a2<=a3)(h1:a3<=a1)(h2:a0<a2):a0≠a1:=ne_of_lt (lt_of_lt_of_le h2 (le_trans h0 h1))
theorem jzP{a0 a2:Int}{a1:Prop}(h0:a1/\a0+a2<(1000:Int)/\(16:Int)<=a0)(h1:(3:Int)<=a2):(0:Int)<=a0+(1:Int)/\a0+(1:Int)<(1000:Int):=by walk_at "o"
theorem jzQ{a0 a2:Int}{a1:Prop}(h0:a1/\a0+a2<(1000:Int)/\(16:Int)<=a0)(h1:(3:Int)<=a2):(0:Int)<=a0-(1:Int)/\a0-(1:Int)<(1000:Int):=by walk_at "o"
theorem jzR{a0 a1:Nat}(h0:(100200:Nat)<a1)(h1:a0<=(0:Nat)+(1:Nat)+(1:Nat)+((0:Nat)+(1:Nat)+(1:Nat)+(1:Nat))):(3:Nat)+a0<=a1:=le_trans (add_le_add_left h1 3) (leB h0)
theorem jzS{a0:Nat}(h0:a0<=(0:Nat)+(1:Nat)+(1:Nat)+((0:Nat)+(1:Nat)+(1:Nat)+(1:Nat))):(0:Nat)+(1:Nat)+(1:Nat)+(1:Nat)+a0<(100000:Nat):=lt_of_le_of_lt (add_le_add_left h0 (0+1+1+1)) (le_of_ble_eq_true (Eq.refl ((0+1+1+1+(0+1+1+(0+1+1+1))).succ.ble 100000)))
theorem jzT{a0 a1 a2:Nat}(h0:a0<a2)(h1:a2≠a0)(h2:a2<=a1):a0≠a1:=ne_of_lt (lt_of_lt_of_le h0 h2)
theorem jzU{a0 a1:Nat}(h0:a1<(64:Nat))(h1:a0<=a1):a0<(64:Nat):=lt_of_le_of_lt h1 h0
theorem jzV{a0:Nat}:(Nat.cast (R:=Int) a0)+(1:Int)≠(0:Int):=Int.ne_of_gt (Int.lt_add_one_of_le (natCast_nonneg a0))
theorem jzW{a0 a1 a2 a3:Nat}(h0:a2<(64:Nat))(h1:a3<=a2)(h2:(100200:Nat)<a1)(h3:a0=a3):a0<=a1:=by walk_at "o"
theorem jzX{a0:Int}{a1 a2:Nat}(h0:a2<(64:Nat))(h1:a1<=a2)(h2:a0/(2:Int)%((Nat.cast (R:=Int) a1)+(1:Int))<(Nat.cast (R:=Int) a1)+(1:Int)):a0/(2:Int)%((Nat.cast (R:=Int) a1)+(1:Int))<(1000000:Int):=by walk_at "o"
theorem jzY{a0 a1:Nat}(h0:a0=a1+(1:Nat)): ¬a0=a1:=ne_of_gt (Nat.lt_of_succ_le (leE h0))
theorem jzZ{a0 a1 a2 a3 a4 a5:Nat}(h0:a2<(64:Nat))(h1:a3<=a2)(h2:(100200:Nat)<a1)(h3:a4=a3)(h4:a0<=a5)(h5:a5<a4):a0<a1:=by walk_at "o"
theorem jz0{a0 a1 a2 a3 a4 a5:Nat}(h0:a2<=a3)(h1:a4<=a5)(h2:a0<a2)(h3:a3<a4)(h4:a5<a1):a0<a1:=by walk_at "o"
theorem jz1{a0 a1 a2:Nat}(h0:a0<a1)(h1:a1<=a2)(h2:a0=a2):False:=nfN h0 (jsi h1 h2)
theorem jz2{a0 a1 a2 a3 a4:Nat}(h0:a2<=a3)(h1:a0<a2)(h2:a3<a4)(h3:a4<=a1):a0≠a1:=ne_of_lt (lt_of_lt_of_le (lt_trans h1 (lt_of_le_of_lt h0 h2)) h3)
theorem jz3{a0 a1 a2 a3:Nat}(h0:a2<=a3)(h1:a0<a2)(h2:a3<a1):a0<a1:=lt_trans h1 (lt_of_le_of_lt h0 h2)
theorem jz4{a0 a1 a2 a3 a4 a5 a6:Nat}(h0:a0<=a2)(h1:a2<=a3)(h2:a4<=a5)(h3:a6<=a1)(h4:a3<a4)(h5:a5<a6):a0<=a1:=by walk_at "o"
theorem jz5{a0 a1 a2 a3 a4 a5 a7 a8 a9:Int}{a6:Nat}(h0:(16:Int)<=a2/\a2+a3<=a4/\(3:Int)<=a3/\a3=a5/\a6<=(3:Nat)/\(0:Int)<=a7/\a7<=(2:Int))(h1:a8<=a0/\a0<a8+a9)(h2:a8+a9<=a2)(h3:a2+a3<=a1):a0<a1:=by walk_at "o"
theorem jz6{a0 a1 a2:Int}(h0:a0<=a1/\a1<a0+a2):a0<=a1:=h0.left
theorem jz7{a0 a1 a2 a3 a5:Int}{a4:Nat}(h0:(16:Int)<=a0/\a0+a1<=a2/\(3:Int)<=a1/\a1=a3/\a4<=(3:Nat)/\(0:Int)<=a5/\a5<=(2:Int)):a0<a0+a1:=i3q h0.right.right.left
theorem jz8{a0 a2:Nat}{a1:Int}(h0:a1%(Nat.cast (R:=Int) a2)=(Nat.cast (R:=Int) a0)):((Nat.cast (R:=Int) a0)+(1:Int)).toNat=a0+(1:Nat):=by walk_at "o"
theorem jz9{a0 a1:Nat}{a2:Int}(h0:(0:Nat)<a0)(h1:a2%(Nat.cast (R:=Int) a0)=(Nat.cast (R:=Int) a1)):a0-a1<=a0:=by walk_at "o"
theorem jAa{a0 a1:Nat}{a2:Int}(h0:a2%(Nat.cast (R:=Int) a1)=(Nat.cast (R:=Int) a0))(h1:a0<a1):min (a0+(1:Nat)) a1<=a1:=min_le_right (a0+1) a1
theorem jAb{a0 a2:Nat}{a1:Int}(h0:a1%(Nat.cast (R:=Int) a2)=(Nat.cast (R:=Int) a0)):(0:Int)<=(Nat.cast (R:=Int) a0)+(1:Int):=Int.le_add_one (natCast_nonneg a0)
theorem jAc{a0 a1 a2:Nat}{a3:Int}(h0:a1<=(20:Nat))(h1:a2<=a1)(h2:a3%(Nat.cast (R:=Int) a2)=(Nat.cast (R:=Int) a0))(h3:a0<a2):(Nat.cast (R:=Int) a0)+(1:Int)<(1000000:Int):=by walk_at "o"
theorem jAd{a0 a1 a2:Nat}{a3:Int}(h0:a1<=(20:Nat))(h1:a2<=a1)(h2:a3%(Nat.cast (R:=Int) a2)=(Nat.cast (R:=Int) a0))(h3:a0<a2):(Nat.cast (R:=Int) a0)<(1000000:Int):=Int.lt_of_lt_of_le (itl (lt_of_lt_of_le h3 (le_trans h1 h0))) (by decide)
theorem jAe{a0 a1 a2 a3 a4:Nat}(h0:a3<=(20:Nat))(h1:a4<=a3)(h2:(100200:Nat)<a2)(h3:a1<=a4)(h4:a0<=a4):a0+a1<=a2:=by walk_at "o"
theorem jAf{a0 a1 a2 a3:Nat}(h0:a2<=(20:Nat))(h1:a3<=a2)(h2:a1<=a3)(h3:a0<=a3):a0+a1<(100:Nat):=by walk_at "o"
theorem jAg{a0 a1 a2:Nat}(h0:a2<=(20:Nat))(h1:a1<=a2):min a0 a1+(1:Nat)<(1000:Nat):=by walk_at "o"
theorem jAh{a0 a1:Nat}(h0:a1<=(20:Nat))(h1:a0<=a1):a0+(1:Nat)<(64:Nat):=succ_lt_succ (lt_of_le_of_lt h1 (lt_of_le_of_lt h0 (le_of_ble_eq_true rfl)))
theorem jAi{a0:Nat}(h0:a0<(100:Nat)):a0<(100000:Nat):=lt_of_lt_of_le h0 (le_of_ble_eq_true rfl)
theorem jAj{a0:Int}:a0%(2:Int)=Nat.cast (R:=Int) (a0%(2:Int)).toNat:=by walk_at "o"
theorem jAk{a0:Int}:a0/(2:Int)%(2:Int)=Nat.cast (R:=Int) (a0/(2:Int)%(2:Int)).toNat:=by walk_at "o"
theorem jAl{a0:Int}:a0/(3:Int)%(2:Int)=Nat.cast (R:=Int) (a0/(3:Int)%(2:Int)).toNat:=by walk_at "o"
theorem jAm{a0 a1:Int}(h0:(16:Int)<=a0/\a0<=(600:Int)):(0:Int)<=a0+a1/(6:Int)%(3:Int)/\a0+a1/(6:Int)%(3:Int)<(1000:Int):=by walk_at "o"
theorem jAn{a0 a1 a2 a3 a4 a5 a7:Int}{a6:Nat}(h0:a0=a1)(h1:a2<=a0+a3/(6:Int)%(3:Int)/\a0+a3/(6:Int)%(3:Int)<a2+a4)(h2:(16:Int)<=a2/\a2+a4<=a1/\(3:Int)<=a4/\a4=a5/\a6<=(3:Nat)/\(0:Int)<=a7/\a7<=(2:Int)):False:=by walk_at "o"
theorem jAo{a0 a1 a2 a3 a5:Int}{a4:Nat}(h0:a0<=(15:Int)/\(15:Int)<a0+a1)(h1:(16:Int)<=a0/\a0+a1<=a2/\(3:Int)<=a1/\a1=a3/\a4<=(3:Nat)/\(0:Int)<=a5/\a5<=(2:Int)):False:=by walk_at "o"
theorem jAp{a0 a1 a2 a3 a5:Int}{a4:Nat}(h0:a0<=(0:Int)/\(0:Int)<a0+a1)(h1:(16:Int)<=a0/\a0+a1<=a2/\(3:Int)<=a1/\a1=a3/\a4<=(3:Nat)/\(0:Int)<=a5/\a5<=(2:Int)):False:=nfN (ltI (Int.lt_of_lt_of_le h1.left h0.left)) (le_of_ble_eq_true rfl)
theorem jAq{a0:Int}:(0:Int)<=a0%(3:Int):=emod_nonneg a0 (by decide)
theorem jAr{a0:Int}:a0%(3:Int)<(1000:Int):=by walk_at "o"
theorem jAs{a0 a1 a2 a3:Nat}(h0:a2<=(100:Nat))(h1:a0+a3<=a2)(h2:(100200:Nat)<a1):a0<a1:=by walk_at "o"
theorem jAt{a0 a1 a2 a3:Nat}(h0:a2<=(100:Nat))(h1:a3+a0<=a2)(h2:(100200:Nat)<a1):a0<a1:=by walk_at "o"
theorem jAu{a0 a1 a2:Nat}(h0:a1<=(100:Nat))(h1:a0+a2<=a1):a0+(1:Nat)<(1000:Nat):=succ_lt_succ (lt_of_le_of_lt (le_trans (leA h1) h0) (le_of_ble_eq_true rfl))
theorem jAv{a0 a1 a2:Nat}(h0:a1<=(100:Nat))(h1:a2+a0<=a1):a0+(1:Nat)<(1000:Nat):=succ_lt_succ (lt_of_le_of_lt (le_trans (leB h1) h0) (le_of_ble_eq_true rfl))
theorem jAw{a0:Nat}(h0:a0=(2:Nat)):(0:Nat)<a0:=Nat.lt_of_succ_le (Nat.le_of_succ_le (leE h0))
theorem jAx{a0:Nat}(h0: ¬a0=(0:Nat)):(0:Nat)<a0:=by walk_at "o"
theorem jAy{a0:Nat}(h0:a0<=(2:Nat)):a0<(100000:Nat):=lt_of_le_of_lt h0 (le_of_ble_eq_true rfl)
theorem jAz{a0 a1 a2:Nat}(h0:(100200:Nat)<a2)(h1:a1<=(2:Nat)):min a0 a1<a2:=by walk_at "o"
theorem jAA{a0 a1 a2:Nat}(h0:a0<a2)(h1:a1=a2):a0≠a1:=ne_of_lt (jqN h0 h1)
theorem jAB{a0 a1 a2:Nat}(h0:a2<(1000:Nat))(h1:(100200:Nat)<a1)(h2:a0<=a2):a0<a1:=by walk_at "o"
theorem jAC{a0 a1:Nat}(h0:a1=(5:Nat)):min a0 a1<=(5:Nat):=leQ (min_le_right a0 a1) h0
theorem jAD{a0 a1 a2 a3 a4:Nat}(h0:(100200:Nat)<a3)(h1:a0=(1:Nat))(h2:a1<=(2:Nat)*a4)(h3:a4<=(5:Nat))(h4:a2<=(2:Nat)):a0+a1+a2<=a3:=by walk_at "o"
theorem jAE{a0 a1 a2:Nat}(h0:a0=(1:Nat))(h1:a2=(5:Nat))(h2:a1<=(2:Nat)*a2):a0+a1<=(20:Nat):=by walk_at "o"
theorem jAF{a0 a1 a2:Nat}(h0:a2<=(20:Nat))(h1:a1<=a2):min a0 a1<=(20:Nat):=by walk_at "o"
theorem jAG{a0 a1 a2:Nat}(h0:a0<=(20:Nat))(h1:a1<=(6:Nat)*a2)(h2:a2<=(20:Nat)):a0+a1<=(200:Nat):=by walk_at "o"
theorem jAH{a0 a1:Nat}(h0:a1<=(3:Nat)):min a0 a1<=(3:Nat):=le_trans (min_le_right a0 a1) h0
theorem jAI{a0 a1 a2 a3 a4:Nat}(h0:(100200:Nat)<a3)(h1:a0<=(200:Nat))(h2:a1<=(2:Nat)*a4)(h3:a4<=(3:Nat))(h4:a2<=(2:Nat)):a0+a1+a2<=a3:=by walk_at "o"
theorem jAJ{a0 a1 a2 a3:Nat}(h0:a2<=(20:Nat))(h1:a3<=a2)(h2:a0<=(20:Nat))(h3:a1<=(6:Nat)*a3):a0+a1<=(200:Nat):=by walk_at "o"
theorem jAK{a0 a1 a2 a3 a4 a5:Nat}(h0:a3<=(100:Nat))(h1:a4+a5<=a3)(h2:(100200:Nat)<a2)(h3:a0<=(200:Nat))(h4:a1<=a4):a0+a1<=a2:=by walk_at "o"
theorem jAL{a0 a1 a2 a3 a4 a5:Nat}(h0:a3<=(100:Nat))(h1:a4+a5<=a3)(h2:a0<=(200:Nat))(h3:a1<=a4)(h4:a2<=a5):a0+a1+a2<=(400:Nat):=by walk_at "o"
theorem jAM{a0 a1 a2 a3 a4 a5 a6:Nat}(h0:a4<=(100:Nat))(h1:a5+a6<=a4)(h2:(100200:Nat)<a3)(h3:a0<=(200:Nat))(h4:a1<=a5)(h5:a2<=a6):a0+a1+a2<=a3:=by walk_at "o"
theorem jAN{a0 a1 a2:Nat}(h0:a1<=(20:Nat))(h1:a2<=a1)(h2:a0<=a2):a0<(1000:Nat):=by walk_at "o"
theorem jAO{a0:Nat}(h0:a0<=(400:Nat)):a0<(100000:Nat):=lt_of_le_of_lt h0 (le_of_ble_eq_true rfl)
theorem jAP{a0 a1 a2:Nat}(h0:a1<=(20:Nat))(h1:a2<=a1)(h2:a0<=a2):a0<(64:Nat):=by walk_at "o"
theorem jAQ{a0 a1 a2:Nat}(h0:a1<a2)(h1:a2<=a0): ¬a0=a1:=ne_of_gt (lt_of_lt_of_le h0 h1)
theorem jAR{a0:Nat}:min (8:Nat) a0<=(8:Nat):=min_le_left 8 a0
theorem jAS{a0 a1 a2:Nat}(h0:(100200:Nat)<a2)(h1:a1<=(8:Nat)):min a0 a1<a2:=by walk_at "o"
theorem jAT{a0 a1:Nat}(h0:(100200:Nat)<a1)(h1:a0<=(8:Nat)):a0+(1:Nat)<=a1:=by walk_at "o"
theorem jAU{a0:Int}:a0%(4:Int)<(4:Int):=by walk_at "o"
theorem jAV{a0:Nat}: ¬a0=a0+(1:Nat)+(1:Nat)/\¬a0=a0+(1:Nat)+(2:Nat)/\¬a0=a0+(1:Nat)+(3:Nat)/\¬a0=a0+(1:Nat)+(4:Nat):=by walk_at "o"
theorem jAW:(0:Nat)<=(8:Nat):=le_of_ble_eq_true rfl
theorem jAX{a0:Nat}(h0:a0<=(8:Nat)):(5:Nat)+a0<(90:Nat):=lt_of_le_of_lt (add_le_add_left h0 5) (le_of_ble_eq_true rfl)
theorem jAY{a0:Nat}(h0:a0<=(8:Nat)):(2:Nat)+a0<(900:Nat):=by walk_at "o"
theorem jAZ{a0:Nat}(h0:a0<=(8:Nat)):(15:Nat)+(3:Nat)*a0<(900:Nat):=by walk_at "o"
theorem jA0{a0:Nat}:(3:Nat)*((5:Nat)+a0)<=(15:Nat)+(3:Nat)*a0:=by walk_at "o"
theorem jA1{a0:Nat}(h0:a0<=(8:Nat)):(5:Nat)+a0+(1:Nat)<=(20:Nat):=succ_le_succ (le_trans (add_le_add_left h0 5) (le_of_ble_eq_true rfl))
theorem jA2{a0:Nat}(h0:a0<=(8:Nat)):(2:Nat)+a0+(1:Nat)<=(100:Nat):=by walk_at "o"
theorem jA3{a0:Nat}(h0:a0<=(8:Nat)):(15:Nat)+(3:Nat)*a0+(3:Nat)<(64:Nat):=by walk_at "o"
theorem jA4{a0 a1:Nat}(h0:a0<=(8:Nat))(h1:a1<=(8:Nat))(h2:a0<a1):a0<=(7:Nat):=by walk_at "o"
theorem jA5{a0:Nat}:(5:Nat)+a0+(1:Nat)<=(5:Nat)+(a0+(1:Nat)):=Nat.le_of_eq (add_assoc 5 a0 1)
theorem jA6{a0:Nat}:(2:Nat)+a0+(1:Nat)<=(2:Nat)+(a0+(1:Nat)):=Nat.le_of_eq (add_assoc 2 a0 1)
theorem jA7{a0:Nat}:(15:Nat)+(3:Nat)*a0+(3:Nat)<=(15:Nat)+(3:Nat)*(a0+(1:Nat)):=by walk_at "o"
theorem jA8{a0 a1:Nat}(h0:a1<=(8:Nat))(h1:a0<=(5:Nat)+a1):a0<(64:Nat):=lt_of_le_of_lt h1 (lt_of_le_of_lt (add_le_add_left h0 5) (le_of_ble_eq_true rfl))
theorem jA9{a0 a1 a2:Nat}(h0:a2<=(8:Nat))(h1:a0+a1<=(2:Nat)+a2):a0+a1<(1000:Nat):=by walk_at "o"
theorem jBa{a0 a1 a2:Nat}(h0:a1<=(8:Nat))(h1:a2<=(5:Nat)+a1)(h2:a0<=(3:Nat)*a2):a0<(100000:Nat):=by walk_at "o"
theorem jdo{A0 A1 A2:Prop}{G:Prop}(h:A0/\A1/\A2)(f:A0->A1->A2->G):G:=f h.1 h.2.1 h.2.2
theorem jjF{A0 A1 A2 A3:Prop}{G:Prop}(h:A0/\A1/\A2/\A3)(f:A0->A1->A2->A3->G):G:=f h.1 h.2.1 h.2.2.1 h.2.2.2
theorem jgk{A0 A1 A2 A3 A4:Prop}{G:Prop}(h:A0/\A1/\A2/\A3/\A4)(f:A0->A1->A2->A3->A4->G):G:=f h.1 h.2.1 h.2.2.1 h.2.2.2.1 h.2.2.2.2
theorem jaj{aA:Sort _}{A0 A1:aA->Prop}{G:Prop}(h: ∃x0,A0 x0/\A1 x0)(f: ∀x0,A0 x0->A1 x0->G):G:=h.elim fun _ h=>f _ h.1 h.2
theorem jcs{aA:Sort _}{A0 A1 A2:aA->Prop}{G:Prop}(h: ∃x0,A0 x0/\A1 x0/\A2 x0)(f: ∀x0,A0 x0->A1 x0->A2 x0->G):G:=h.elim fun _ h=>f _ h.1 h.2.1 h.2.2
theorem jkV{aA:Sort _}{A0 A1 A2 A3:aA->Prop}{G:Prop}(h: ∃x0,A0 x0/\A1 x0/\A2 x0/\A3 x0)(f: ∀x0,A0 x0->A1 x0->A2 x0->A3 x0->G):G:=h.elim fun _ h=>f _ h.1 h.2.1 h.2.2.1 h.2.2.2
theorem jtn{aA:Sort _}{A0 A1 A2 A3 A4:aA->Prop}{G:Prop}(h: ∃x0,A0 x0/\A1 x0/\A2 x0/\A3 x0/\A4 x0)(f: ∀x0,A0 x0->A1 x0->A2 x0->A3 x0->A4 x0->G):G:=h.elim fun _ h=>f _ h.1 h.2.1 h.2.2.1 h.2.2.2.1 h.2.2.2.2
theorem jqR{aA:Sort _}{aH:Sort _}{A0:aA->aH->Prop}{G:Prop}(h: ∃x0 x1,A0 x0 x1)(f: ∀x0 x1,A0 x0 x1->G):G:=h.elim fun _ h=>h.elim fun _ h=>f _ _ h
theorem jdp{aA:Sort _}{aH:Sort _}{A0 A1:aA->aH->Prop}{G:Prop}(h: ∃x0 x1,A0 x0 x1/\A1 x0 x1)(f: ∀x0 x1,A0 x0 x1->A1 x0 x1->G):G:=h.elim fun _ h=>h.elim fun _ h=>f _ _ h.1 h.2
theorem jaT{aA:Sort _}{aH:Sort _}{A0 A1 A2:aA->aH->Prop}{G:Prop}(h: ∃x0 x1,A0 x0 x1/\A1 x0 x1/\A2 x0 x1)(f: ∀x0 x1,A0 x0 x1->A1 x0 x1->A2 x0 x1->G):G:=h.elim fun _ h=>h.elim fun _ h=>f _ _ h.1 h.2.1 h.2.2
theorem jmA{aA:Sort _}{aH:Sort _}{A0 A1 A2 A3:aA->aH->Prop}{G:Prop}(h: ∃x0 x1,A0 x0 x1/\A1 x0 x1/\A2 x0 x1/\A3 x0 x1)(f: ∀x0 x1,A0 x0 x1->A1 x0 x1->A2 x0 x1->A3 x0 x1->G):G:=h.elim fun _ h=>h.elim fun _ h=>f _ _ h.1 h.2.1 h.2.2.1 h.2.2.2
theorem jqJ{aA:Sort _}{aH:Sort _}{A0 A1 A2 A3 A4:aA->aH->Prop}{G:Prop}(h: ∃x0 x1,A0 x0 x1/\A1 x0 x1/\A2 x0 x1/\A3 x0 x1/\A4 x0 x1)(f: ∀x0 x1,A0 x0 x1->A1 x0 x1->A2 x0 x1->A3 x0 x1->A4 x0 x1->G):G:=h.elim fun _ h=>h.elim fun _ h=>f _ _ h.1 h.2.1 h.2.2.1 h.2.2.2.1 h.2.2.2.2
theorem jjG{aA:Sort _}{aH:Sort _}{A0 A1 A2 A3 A4 A5:aA->aH->Prop}{G:Prop}(h: ∃x0 x1,A0 x0 x1/\A1 x0 x1/\A2 x0 x1/\A3 x0 x1/\A4 x0 x1/\A5 x0 x1)(f: ∀x0 x1,A0 x0 x1->A1 x0 x1->A2 x0 x1->A3 x0 x1->A4 x0 x1->A5 x0 x1->G):G:=h.elim fun _ h=>h.elim fun _ h=>f _ _ h.1 h.2.1 h.2.2.1 h.2.2.2.1 h.2.2.2.2.1 h.2.2.2.2.2
theorem jqS{aA:Sort _}{aH:Sort _}{A0 A1 A2 A3 A4 A5 A6:aA->aH->Prop}{G:Prop}(h: ∃x0 x1,A0 x0 x1/\A1 x0 x1/\A2 x0 x1/\A3 x0 x1/\A4 x0 x1/\A5 x0 x1/\A6 x0 x1)(f: ∀x0 x1,A0 x0 x1->A1 x0 x1->A2 x0 x1->A3 x0 x1->A4 x0 x1->A5 x0 x1->A6 x0 x1->G):G:=h.elim fun _ h=>h.elim fun _ h=>f _ _ h.1 h.2.1 h.2.2.1 h.2.2.2.1 h.2.2.2.2.1 h.2.2.2.2.2.1 h.2.2.2.2.2.2
theorem jn5{aA:Sort _}{aH:Sort _}{aK:Sort _}{A0 A1:aA->aH->aK->Prop}{G:Prop}(h: ∃x0 x1 x2,A0 x0 x1 x2/\A1 x0 x1 x2)(f: ∀x0 x1 x2,A0 x0 x1 x2->A1 x0 x1 x2->G):G:=h.elim fun _ h=>h.elim fun _ h=>h.elim fun _ h=>f _ _ _ h.1 h.2
theorem jse{aA:Sort _}{aH:Sort _}{aK:Sort _}{A0 A1 A2:aA->aH->aK->Prop}{G:Prop}(h: ∃x0 x1 x2,A0 x0 x1 x2/\A1 x0 x1 x2/\A2 x0 x1 x2)(f: ∀x0 x1 x2,A0 x0 x1 x2->A1 x0 x1 x2->A2 x0 x1 x2->G):G:=h.elim fun _ h=>h.elim fun _ h=>h.elim fun _ h=>f _ _ _ h.1 h.2.1 h.2.2
theorem jhN{aA:Sort _}{aH:Sort _}{aK:Sort _}{A0 A1 A2 A3:aA->aH->aK->Prop}{G:Prop}(h: ∃x0 x1 x2,A0 x0 x1 x2/\A1 x0 x1 x2/\A2 x0 x1 x2/\A3 x0 x1 x2)(f: ∀x0 x1 x2,A0 x0 x1 x2->A1 x0 x1 x2->A2 x0 x1 x2->A3 x0 x1 x2->G):G:=h.elim fun _ h=>h.elim fun _ h=>h.elim fun _ h=>f _ _ _ h.1 h.2.1 h.2.2.1 h.2.2.2
theorem jto{aA:Sort _}{aH:Sort _}{aK:Sort _}{aP:Sort _}{A0:aA->aH->aK->aP->Prop}{G:Prop}(h: ∃x0 x1 x2 x3,A0 x0 x1 x2 x3)(f: ∀x0 x1 x2 x3,A0 x0 x1 x2 x3->G):G:=h.elim fun _ h=>h.elim fun _ h=>h.elim fun _ h=>h.elim fun _ h=>f _ _ _ _ h
theorem jmC{aA:Sort _}{aH:Sort _}{aK:Sort _}{aP:Sort _}{A0 A1 A2 A3 A4:aA->aH->aK->aP->Prop}{G:Prop}(h: ∃x0 x1 x2 x3,A0 x0 x1 x2 x3/\A1 x0 x1 x2 x3/\A2 x0 x1 x2 x3/\A3 x0 x1 x2 x3/\A4 x0 x1 x2 x3)(f: ∀x0 x1 x2 x3,A0 x0 x1 x2 x3->A1 x0 x1 x2 x3->A2 x0 x1 x2 x3->A3 x0 x1 x2 x3->A4 x0 x1 x2 x3->G):G:=h.elim fun _ h=>h.elim fun _ h=>h.elim fun _ h=>h.elim fun _ h=>f _ _ _ _ h.1 h.2.1 h.2.2.1 h.2.2.2.1 h.2.2.2.2
theorem juL{aA:Sort _}{aH:Sort _}{aK:Sort _}{aP:Sort _}{A0 A1 A2 A3 A4 A5 A6 A7:aA->aH->aK->aP->Prop}{G:Prop}(h: ∃x0 x1 x2 x3,A0 x0 x1 x2 x3/\A1 x0 x1 x2 x3/\A2 x0 x1 x2 x3/\A3 x0 x1 x2 x3/\A4 x0 x1 x2 x3/\A5 x0 x1 x2 x3/\A6 x0 x1 x2 x3/\A7 x0 x1 x2 x3)(f: ∀x0 x1 x2 x3,A0 x0 x1 x2 x3->A1 x0 x1 x2 x3->A2 x0 x1 x2 x3->A3 x0 x1 x2 x3->A4 x0 x1 x2 x3->A5 x0 x1 x2 x3->A6 x0 x1 x2 x3->A7 x0 x1 x2 x3->G):G:=h.elim fun _ h=>h.elim fun _ h=>h.elim fun _ h=>h.elim fun _ h=>f _ _ _ _ h.1 h.2.1 h.2.2.1 h.2.2.2.1 h.2.2.2.2.1 h.2.2.2.2.2.1 h.2.2.2.2.2.2.1 h.2.2.2.2.2.2.2
theorem jsf{aA:Sort _}{aH:Sort _}{aK:Sort _}{aP:Sort _}{A0 A1 A2 A3 A4 A5 A6 A7 A8 A9:aA->aH->aK->aP->Prop}{G:Prop}(h: ∃x0 x1 x2 x3,A0 x0 x1 x2 x3/\A1 x0 x1 x2 x3/\A2 x0 x1 x2 x3/\A3 x0 x1 x2 x3/\A4 x0 x1 x2 x3/\A5 x0 x1 x2 x3/\A6 x0 x1 x2 x3/\A7 x0 x1 x2 x3/\A8 x0 x1 x2 x3/\A9 x0 x1 x2 x3)(f: ∀x0 x1 x2 x3,A0 x0 x1 x2 x3->A1 x0 x1 x2 x3->A2 x0 x1 x2 x3->A3 x0 x1 x2 x3->A4 x0 x1 x2 x3->A5 x0 x1 x2 x3->A6 x0 x1 x2 x3->A7 x0 x1 x2 x3->A8 x0 x1 x2 x3->A9 x0 x1 x2 x3->G):G:=h.elim fun _ h=>h.elim fun _ h=>h.elim fun _ h=>h.elim fun _ h=>f _ _ _ _ h.1 h.2.1 h.2.2.1 h.2.2.2.1 h.2.2.2.2.1 h.2.2.2.2.2.1 h.2.2.2.2.2.2.1 h.2.2.2.2.2.2.2.1 h.2.2.2.2.2.2.2.2.1 h.2.2.2.2.2.2.2.2.2
theorem jtm{aA:Sort _}{aH:Sort _}{aK:Sort _}{aP:Sort _}{bD:Sort _}{bE:Sort _}{bU:Sort _}{bV:Sort _}{bW:Sort _}{bX:Sort _}{bY:Sort _}{cT:Sort _}{A0 A1:aA->aH->aK->aP->bD->bE->bU->bV->bW->bX->bY->cT->Prop}{G:Prop}(h: ∃x0 x1 x2 x3 x4 x5 x6 x7 x8 x9 x10 x11,A0 x0 x1 x2 x3 x4 x5 x6 x7 x8 x9 x10 x11/\A1 x0 x1 x2 x3 x4 x5 x6 x7 x8 x9 x10 x11)(f: ∀x0 x1 x2 x3 x4 x5 x6 x7 x8 x9 x10 x11,A0 x0 x1 x2 x3 x4 x5 x6 x7 x8 x9 x10 x11->A1 x0 x1 x2 x3 x4 x5 x6 x7 x8 x9 x10 x11->G):G:=h.elim fun _ h=>h.elim fun _ h=>h.elim fun _ h=>h.elim fun _ h=>h.elim fun _ h=>h.elim fun _ h=>h.elim fun _ h=>h.elim fun _ h=>h.elim fun _ h=>h.elim fun _ h=>h.elim fun _ h=>h.elim fun _ h=>f _ _ _ _ _ _ _ _ _ _ _ _ h.1 h.2
inductive PV where
 | none
 | bool (b:Bool)
 | int (i:Int)
 | str (s:Str)
 | tup (xs:List PV)
 | ref (l:Nat)
inductive Cls where
 | thing | heap | words
 deriving DecidableEq
inductive PObj where
 | list (xs:List PV)
 | dict (es:List (Int×PV))
 | inst (c:Cls) (fs:List (Option PV))
 | frozen (xs:List PV)
noncomputable def PObj.isFrozen:PObj->Bool
 | .frozen _=>true
 | _=>false
structure AHeap where
 objs:List PObj
noncomputable abbrev AHeap.sz (Y:AHeap):Nat:=Y.objs.length
noncomputable def AHeap.get(Y:AHeap)(l:Nat):Option PObj:=Y.objs[l]?
noncomputable def AHeap.set(Y:AHeap)(l:Nat)(o:PObj):AHeap:=⟨Y.objs.set l o⟩
noncomputable def AHeap.alloc(Y:AHeap)(o:PObj):AHeap:=⟨Y.objs++ [o]⟩
abbrev jao:=List (Option PV)
abbrev Phi:=Nat->List PV->AHeap->(PV->AHeap->Prop)->Prop
inductive Fl where
 | next
 | ret (v:PV)
inductive Bop where
 | add | sub | mul | div | mod | shr | pow
inductive Cop where
 | eq | ne | lt | le | gt | ge | isin | notin | is | isnot
set_option genCtorIdx false
mutual
inductive Ex where
 | none
 | bool (b:Bool)
 | int (i:Int)
 | str (s:String)
 | loc (i:Nat)
 | glob (j:Nat) (i:Int)
 | attr (e:Ex) (k:Nat)
 | item (e i:Ex)
 | sliceTo (e hi:Ex)
 | sliceFrom (e lo:Ex)
 | bin (op:Bop) (a b:Ex)
 | cmp (op:Cop) (a b:Ex)
 | and (es:Exs)
 | or (es:Exs)
 | not (e:Ex)
 | list (es:Exs)
 | tup (es:Exs)
 | dict0
 | dict1 (k v:Ex)
 | comp (slot:Nat) (elt it:Ex) (rng:Bool) (cond:Exs)
 | call (f:Nat) (es:Exs)
 | new (c:Cls) (f:Nat) (es:Exs)
 | len (e:Ex)
 | sorted (e:Ex)
 | strOf (e:Ex)
 | tupleOf (e:Ex)
 | append (o x:Ex)
 | pop (o:Ex)
 | get1 (o k:Ex)
 | get2 (o k d:Ex)
 | meth (f:Nat) (o x:Ex)
inductive Exs where
 | nil
 | cons (e:Ex) (es:Exs)
end
inductive Tgt where
 | one (i:Nat)
 | two (i j:Nat)
mutual
inductive St where
 | asgn (i:Nat) (e:Ex)
 | unpack (i j:Nat) (e:Ex)
 | setAttr (o:Ex) (k:Nat) (e:Ex)
 | setItem (o i e:Ex)
 | augLoc (i:Nat) (op:Bop) (e:Ex)
 | augAttr (o:Ex) (k:Nat) (op:Bop) (e:Ex)
 | ifs (c:Ex) (a b:Sts)
 | while (c:Ex) (b:Sts)
 | for (t:Tgt) (it:Ex) (rng:Bool) (b:Sts)
 | ret (e:Ex)
 | retNone
 | expr (e:Ex)
inductive Sts where
 | nil
 | cons (s:St) (ss:Sts)
end
set_option genCtorIdx true
noncomputable def Cls.off:Cls->Nat
 | .thing=>0
 | .heap=>6
 | .words=>18
noncomputable def Cls.num:Cls->Nat
 | .thing=>6
 | .heap=>12
 | .words=>2
noncomputable def PV.onI(v:PV)(f:Int->Prop):Prop:=PV.casesOn (motive_1:=fun _=>Prop) v False (fun _=>False) f (fun _=>False) (fun _=>False) fun _=>False
noncomputable def PV.onS(v:PV)(f:Str->Prop):Prop:=PV.casesOn (motive_1:=fun _=>Prop) v False (fun _=>False) (fun _=>False) f (fun _=>False) fun _=>False
noncomputable def PV.onR(v:PV)(f:Nat->Prop):Prop:=PV.casesOn (motive_1:=fun _=>Prop) v False (fun _=>False) (fun _=>False) (fun _=>False) (fun _=>False) f
noncomputable def PV.onRT(v:PV)(f:Nat->Prop)(g:List PV->Prop):Prop:=PV.casesOn (motive_1:=fun _=>Prop) v False (fun _=>False) (fun _=>False) (fun _=>False) g f
section
variable{v:PV}{f f':Int->Prop}{g g':Str->Prop}{k k':Nat->Prop}{m m':List PV->Prop}
theorem jeL(q:v.onI f): ∃i,v= .int i/\f i:=by cases v<;>first | exact⟨_,rfl,q⟩ | exact q.elim
theorem jpZ(q:v.onS g): ∃i,v= .str i/\g i:=by cases v<;>first | exact⟨_,rfl,q⟩ | exact q.elim
theorem jcG(q:v.onR k): ∃i,v= .ref i/\k i:=by cases v<;>first | exact⟨_,rfl,q⟩ | exact q.elim
theorem jnl(q:v.onRT k m):(∃ i,v= .ref i/\k i)\/∃xs,v= .tup xs/\m xs:=by cases v<;>first | exact .inl ⟨_,rfl,q⟩ | exact .inr ⟨_,rfl,q⟩ | exact q.elim
theorem jcF(q:v.onI f)(h: ∀i,f i->f' i):v.onI f':=by cases v<;>first | exact h _ q | exact q.elim
theorem jrt(q:v.onS g)(h: ∀i,g i->g' i):v.onS g':=by cases v<;>first | exact h _ q | exact q.elim
theorem jb5(q:v.onR k)(h: ∀i,k i->k' i):v.onR k':=by cases v<;>first | exact h _ q | exact q.elim
theorem jgA(q:v.onRT k m)(h: ∀i,k i->k' i)(h': ∀i,m i->m' i):v.onRT k' m':=by cases v<;>first | exact h _ q | exact h' _ q | exact q.elim
end
noncomputable def oS{ah:Type}(o:Option ah)(f:ah->Prop):Prop:=Option.casesOn (motive:=fun _=>Prop) o False f
noncomputable def oL(o:Option PObj)(f:List PV->Prop):Prop:=oS o fun o=>PObj.casesOn (motive:=fun _=>Prop) o f (fun _=>False) (fun _ _=>False) fun _=>False
noncomputable def oD(o:Option PObj)(f:List (Int×PV)->Prop):Prop:=oS o fun o=>PObj.casesOn (motive:=fun _=>Prop) o (fun _=>False) f (fun _ _=>False) fun _=>False
noncomputable def oN(o:Option PObj)(f:Cls->List (Option PV)->Prop):Prop:=oS o fun o=>PObj.casesOn (motive:=fun _=>Prop) o (fun _=>False) (fun _=>False) f fun _=>False
noncomputable def oLD(o:Option PObj)(f:List PV->Prop)(g:List (Int×PV)->Prop):Prop:=oS o fun o=>PObj.casesOn (motive:=fun _=>Prop) o f g (fun _ _=>False) fun _=>False
noncomputable def oLF(o:Option PObj)(f:List PV->Prop):Prop:=oS o fun o=>PObj.casesOn (motive:=fun _=>Prop) o f (fun _=>False) (fun _ _=>False) f
section
variable{o:Option PObj}{f f':List PV->Prop}{g g':List (Int×PV)->Prop}{k k':Cls->List (Option PV)->Prop}
theorem jkv{ah:Type}{o:Option ah}{f:ah->Prop}(q:oS o f): ∃x,o=some x/\f x:=by cases o<;>first | exact⟨_,rfl,q⟩ | exact q.elim
theorem jmw{ah:Type}{o:Option ah}{f f':ah->Prop}(q:oS o f)(h: ∀x,f x->f' x):oS o f':=by cases o<;>first | exact h _ q | exact q.elim
theorem jo9(q:oL o f): ∃xs,o=some (.list xs)/\f xs:=let ⟨o,e,q⟩:=jkv q;by cases o<;>first | exact⟨_,e,q⟩ | exact q.elim
theorem jrs(q:oD o g): ∃xs,o=some (.dict xs)/\g xs:=let ⟨o,e,q⟩:=jkv q;by cases o<;>first | exact⟨_,e,q⟩ | exact q.elim
theorem jsj(q:oN o k): ∃c fs,o=some (.inst c fs)/\k c fs:=let ⟨o,e,q⟩:=jkv q;by cases o<;>first | exact⟨_,_,e,q⟩ | exact q.elim
theorem jox(q:oLD o f g):(∃ xs,o=some (.list xs)/\f xs)\/∃xs,o=some (.dict xs)/\g xs:=let ⟨o,e,q⟩:=jkv q;by cases o<;>first | exact .inl ⟨_,e,q⟩ | exact .inr ⟨_,e,q⟩ | exact q.elim
theorem jsR(q:oLF o f):(∃ xs,o=some (.list xs)/\f xs)\/∃xs,o=some (.frozen xs)/\f xs:=let ⟨o,e,q⟩:=jkv q;by cases o<;>first | exact .inl ⟨_,e,q⟩ | exact .inr ⟨_,e,q⟩ | exact q.elim
theorem jqP(q:oL o f)(h: ∀x,f x->f' x):oL o f':=jmw q fun o q=>by cases o<;>first | exact h _ q | exact q.elim
theorem jux(q:oD o g)(h: ∀x,g x->g' x):oD o g':=jmw q fun o q=>by cases o<;>first | exact h _ q | exact q.elim
theorem juy(q:oN o k)(h: ∀x y,k x y->k' x y):oN o k':=jmw q fun o q=>by cases o<;>first | exact h _ _ q | exact q.elim
theorem joy(q:oLD o f g)(h: ∀x,f x->f' x)(h': ∀x,g x->g' x):oLD o f' g':=jmw q fun o q=>by cases o<;>first | exact h _ q | exact h' _ q | exact q.elim
theorem jsS(q:oLF o f)(h: ∀x,f x->f' x):oLF o f':=jmw q fun o q=>by cases o<;>first | exact h _ q | exact q.elim
end
noncomputable def jee(Z:jao)(i:Nat)(K:PV->Prop):Prop:=oS Z[i]? fun o=>oS o K
theorem jhm{Z:jao}{i:Nat}{K:PV->Prop}(q:jee Z i K): ∃v,Z[i]? =some (some v)/\K v:=let ⟨_,e,q⟩:=jkv q;let ⟨x,e',q⟩:=jkv q;⟨x,e'▸e,q⟩
noncomputable def jey(k:Nat)(v:PV)(Y:AHeap)(K:PV->Prop):Prop:=v.onR fun l=>oN (Y.get l) fun c fs=>c.off<=k/\jee fs (k-c.off) K
noncomputable def jbO(k:Nat)(v x:PV)(Y:AHeap)(K:AHeap->Prop):Prop:=v.onR fun l=>oN (Y.get l) fun c fs=>c.off<=k/\k-c.off<fs.length/\K (Y.set l (.inst c (fs.set (k-c.off) (some x))))
noncomputable def jbu(es:List (Int×PV))(k:Int):Option PV:=(es.find? fun p=>p.1=k).map (·.2)
noncomputable def jhO(es:List (Int×PV))(k:Int)(v:PV):List (Int×PV):=
 if(es.any fun p=>decide (p.1=k))=true then es.map fun p=>if p.1=k then(p.1,v)else p else es++ [(k,v)]
noncomputable def jgD(v i:PV)(Y:AHeap)(K:PV->Prop):Prop:=i.onI fun k=>v.onRT (fun l=>oLD (Y.get l) (fun xs=>0<=k/\oS xs[k.toNat]? K) fun es=>oS (jbu es k) K) fun xs=>0<=k/\k<1000/\oS xs[k.toNat]? K
noncomputable def jck(v i x:PV)(Y:AHeap)(K:AHeap->Prop):Prop:=i.onI fun k=>v.onR fun l=>oLD (Y.get l) (fun xs=>0<=k/\k<xs.length/\K (Y.set l (.list (xs.set k.toNat x)))) fun es=>es.length<sizeLine/\K (Y.set l (.dict (jhO es k x)))
noncomputable def jcl(v i:PV)(Y:AHeap)(K:PV->AHeap->Prop):Prop:=i.onI fun k=>v.onRT (fun l=>oLF (Y.get l) fun xs=>0<=k/\k<1000000/\xs.length<=sizeLine/\K (.ref Y.sz) (Y.alloc (.list (xs.take k.toNat))))
 fun xs=>0<=k/\k.toNat<xs.length/\xs.length<=sizeLine/\K (.tup (xs.take k.toNat)) Y
noncomputable def jbD(v i:PV)(Y:AHeap)(K:PV->AHeap->Prop):Prop:=i.onI fun k=>v.onR fun l=>oL (Y.get l) fun xs=>0<=k/\k<1000000/\xs.length<=sizeLine/\K (.ref Y.sz) (Y.alloc (.list (xs.drop k.toNat)))
noncomputable def jru(a b:PV)(Y:AHeap)(K:PV->AHeap->Prop):Prop:=PV.casesOn (motive_1:=fun _=>Prop) a False (fun _=>False) (fun x=>b.onI fun y=>K (.int (x+y)) Y) (fun x=>b.onS fun y=>x.length+y.length<=sizeLine/\K (.str (x++y)) Y)
 (fun _=>False) fun l=>b.onR fun r=>oL (Y.get l) fun xs=>oL (Y.get r) fun ys=>xs.length+ys.length<=sizeLine/\K (.ref Y.sz) (Y.alloc (.list (xs++ys)))
noncomputable def jeM(a b:PV)(f:Int->Int->Prop):Prop:=a.onI fun x=>b.onI fun y=>f x y
theorem jcD{a b:PV}{f:Int->Int->Prop}(q:jeM a b f): ∃x y,a= .int x/\b= .int y/\f x y:=let ⟨x,e,q⟩:=jeL q;let ⟨y,e',q⟩:=jeL q;⟨x,y,e,e',q⟩
theorem jbT{a b:PV}{f g:Int->Int->Prop}(q:jeM a b f)(h: ∀x y,f x y->g x y):jeM a b g:=jcF q fun _ q=>jcF q fun _=>h _ _
noncomputable def jl2(op:Bop)(a b:PV)(Y:AHeap)(K:PV->AHeap->Prop):Prop:=Bop.casesOn (motive:=fun _=>Prop) op (jru a b Y K) (jeM a b fun x y=>K (.int (x-y)) Y)
 (jeM a b fun x y=>(0<=x/\x<1000000)/\K (.int (x*y)) Y) (jeM a b fun x y=>0<y/\y<1000000/\K (.int (x/y)) Y) (jeM a b fun x y=>0<y/\K (.int (x%y)) Y)
 (jeM a b fun x y=>0<=x/\0<=y/\y<4/\K (.int (x/2 ^ y.toNat)) Y) (jeM a b fun x y=>x=2/\0<=y/\y<4/\K (.int (2 ^ y.toNat)) Y)
noncomputable def jhk(op:Bop)(a b:PV)(K:PV->Prop):Prop:=Bop.casesOn (motive:=fun _=>Prop) op (jeM a b fun x y=>K (.int (x+y))) (jeM a b fun x y=>K (.int (x-y))) False False False False False
noncomputable def PV.atomEq:PV->PV->Option Bool
 | .int a,.int b=>some (decide (a=b))
 | .str a,.str b=>some (decide (a=b))
 | _,_=>Option.none
noncomputable def jbE(f:PV->PV->Option Bool):List PV->List PV->Option Bool
 | [],[]=>some true
 | x::xs,y::ys=>match f x y,jbE f xs ys with
  | some a,some b=>some (a&&b)
  | _,_=>Option.none
 | _,_=>Option.none
noncomputable def jd1(xs ys:List PV):Option Bool:=jbE PV.atomEq xs ys
noncomputable def PV.flatEq:PV->PV->Option Bool
 | .tup xs,.tup ys=>jd1 xs ys
 | a,b=>a.atomEq b
noncomputable def jko(xs ys:List PV):Option Bool:=jbE PV.flatEq xs ys
noncomputable def jfo(xs ys:List PV):Option Bool:=if xs.length=ys.length then jko xs ys else some false
noncomputable def jl6(a b:PV)(Y:AHeap)(K:Bool->Prop):Prop:=
 match a,b with
 | .ref l,.ref r=>l≠r/\(match Y.get l,Y.get r with
  | some (.list xs),some (.list ys)=>(match jfo xs ys with
   | some e=>K e
   | _=>False)
  | _,_=>False)
 | a,b=>(match a.flatEq b with
  | some e=>K e
  | _=>False)
noncomputable def jcR:List PV->Option (List Int)
 | []=>some []
 | .int i::r=>(jcR r).map (i:: ·)
 | _=>Option.none
noncomputable def jmx(a b:PV)(Y:AHeap)(K:Bool->Prop):Prop:=
 match a,b with
 | .ref l,.ref r=>(match Y.get l,Y.get r with
  | some (.list xs),some (.list ys)=>(match jcR xs,jcR ys with
   | some is,some js=>K (decide (is≠js))
   | _,_=>False)
  | _,_=>False)
 | a,b=>(match a.atomEq b with
  | some e=>K !e
  | _=>False)
noncomputable def jqQ(a b:PV)(Y:AHeap)(K:Bool->Prop):Prop:=a.onI fun k=>b.onR fun l=>oLD (Y.get l) (fun xs=>oS (jcR xs) fun is=>K (is.contains k)) fun es=>K (jbu es k).isSome
noncomputable def PV.isNone:PV->Bool
 | .none=>true
 | _=>false
noncomputable def ji7(b:PV)(X:Prop):Prop:=PV.casesOn (motive_1:=fun _=>Prop) b X (fun _=>False) (fun _=>False) (fun _=>False) (fun _=>False) fun _=>False
theorem jc4{b:PV}{X:Prop}(q:ji7 b X):b= .none/\X:=by cases b<;>first | exact⟨rfl,q⟩ | exact q.elim
noncomputable def jl4(op:Cop)(a b:PV)(Y:AHeap)(K:PV->Prop):Prop:=Cop.casesOn (motive:=fun _=>Prop) op (jl6 a b Y fun e=>K (.bool e)) (jmx a b Y fun e=>K (.bool e))
 (jeM a b fun x y=>K (.bool (decide (x<y)))) (jeM a b fun x y=>K (.bool (decide (x<=y)))) (jeM a b fun x y=>K (.bool (decide (x>y)))) (jeM a b fun x y=>K (.bool (decide (x>=y))))
 (jqQ a b Y fun e=>K (.bool e)) (jqQ a b Y fun e=>K (.bool !e)) (ji7 b (K (.bool a.isNone))) (ji7 b (K (.bool !a.isNone)))
noncomputable def jl8(v:PV)(Y:AHeap)(K:PV->Prop):Prop:=v.onRT (fun l=>oLD (Y.get l) (fun xs=>xs.length<=sizeLine/\K (.int xs.length)) fun es=>K (.int es.length)) fun xs=>xs.length<=sizeLine/\K (.int xs.length)
noncomputable def jmu(k:Int):List Int->List Int
 | []=>[k]
 | x::r=>if k<=x then k::x::r else x::jmu k r
noncomputable def jba:List Int->List Int
 | []=>[]
 | x::r=>jmu x (jba r)
noncomputable def jc6(v:PV)(Y:AHeap)(K:PV->AHeap->Prop):Prop:=v.onR fun l=>oD (Y.get l) fun es=>es.length<64/\K (.ref Y.sz) (Y.alloc (.list ((jba (es.map (·.1))).map .int)))
noncomputable def jmc(v:PV)(K:PV->Prop):Prop:=v.onI fun i=> -1000000000<i/\i<1000000000/\K (.str (Str.ofString (toString i)))
noncomputable def jeg(v:PV)(Y:AHeap)(K:PV->Prop):Prop:=v.onR fun l=>oL (Y.get l) fun xs=>xs.length<=sizeLine/\K (.tup xs)
noncomputable def jbv(v x:PV)(Y:AHeap)(K:AHeap->Prop):Prop:=v.onR fun l=>oL (Y.get l) fun xs=>xs.length<sizeLine/\K (Y.set l (.list (xs++ [x])))
noncomputable def jma(v:PV)(Y:AHeap)(K:PV->AHeap->Prop):Prop:=v.onR fun l=>oL (Y.get l) fun xs=>oS xs.getLast? fun x=>K x (Y.set l (.list xs.dropLast))
noncomputable def jjb(v k d:PV)(Y:AHeap)(K:PV->Prop):Prop:=v.onR fun l=>k.onI fun k=>oD (Y.get l) fun es=>K ((jbu es k).getD d)
noncomputable def jhl(k v:PV)(Y:AHeap)(K:PV->AHeap->Prop):Prop:=k.onI fun k=>K (.ref Y.sz) (Y.alloc (.dict [(k,v)]))
noncomputable def jnc(c:Cls)(v:PV)(Y:AHeap):Prop:=v.onR fun l=>oN (Y.get l) fun c' _=>c'=c
noncomputable def jdy(v:PV)(Y:AHeap):Prop:=v.onR fun l=>oL (Y.get l) fun _=>True
noncomputable def jdx(v:PV)(Y:AHeap):Prop:=v.onR fun l=>oD (Y.get l) fun _=>True
noncomputable def jbt(v:PV)(Y:AHeap):Option (List PV):=
 match v with
 | .ref l=>(match Y.get l with
  | some (.list xs)=>some xs
  | _=>Option.none)
 | .tup xs=>if xs.length<=sizeLine then some xs else Option.none
 | _=>Option.none
noncomputable def jam(rng:Bool)(v:PV)(Y:AHeap):Option (List PV):=
 match rng with
 | true=>(match v with
  | .int n=>if 0<=n/\n<=1000000 then some ((List.range n.toNat).map fun(k:Nat)=>PV.int (k:Int))else Option.none
  | _=>Option.none)
 | false=>jbt v Y
noncomputable def ifB(v:PV)(T F:Prop):Prop:=
 match v with
 | .bool b=>(b=true->T)/\(b=false->F)
 | _=>False
noncomputable def jd4(t:Tgt)(x:PV)(Z:jao)(K:jao->Prop):Prop:=
 match t with
 | .one i=>i<Z.length/\K (Z.set i (some x))
 | .two i j=>(match x with
  | .tup [a,b]=>i<Z.length/\j<Z.length/\K ((Z.set i (some a)).set j (some b))
  | _=>False)
abbrev WE:=jao->AHeap->(PV->AHeap->Prop)->Prop
abbrev WL:=jao->AHeap->(List PV->AHeap->Prop)->Prop
abbrev WS:=jao->AHeap->(Fl->jao->AHeap->Prop)->Prop
noncomputable def Ex.wp(ax:Phi)(Z:jao)(Y:AHeap)(Q:PV->AHeap->Prop)(e:Ex):Prop:=Ex.rec (motive_1:=fun _=>WE) (motive_2:=fun _=>WL×WE×WE)
 ((fun _ Y Q=>Q .none Y))
 (fun b=>fun _ Y Q=>Q (.bool b) Y)
 (fun i=>fun _ Y Q=>Q (.int i) Y)
 (fun s=>fun _ Y Q=>Q (.str (Str.ofString s)) Y)
 (fun i=>fun Z Y Q=>jee Z i fun v=>Q v Y)
 (fun u0 i=>fun _ Y Q=>Q (.int i) Y)
 (fun e k ih_e=>fun Z Y Q=>ih_e Z Y fun v af=>jey k v af fun x=>Q x af)
 (fun e i ih_e ih_i=>fun Z Y Q=>ih_e Z Y fun v af=>ih_i Z af fun iv ai=>jgD v iv ai fun x=>Q x ai)
 (fun e i ih_e ih_i=>fun Z Y Q=>ih_e Z Y fun v af=>ih_i Z af fun iv ai=>jcl v iv ai Q)
 (fun e i ih_e ih_i=>fun Z Y Q=>ih_e Z Y fun v af=>ih_i Z af fun iv ai=>jbD v iv ai Q)
 (fun op a b ih_a ih_b=>fun Z Y Q=>ih_a Z Y fun x af=>ih_b Z af fun y ai=>jl2 op x y ai Q)
 (fun op a b ih_a ih_b=>fun Z Y Q=>ih_a Z Y fun x af=>ih_b Z af fun y ai=>jl4 op x y ai fun r=>Q r ai)
 (fun es ih_es=>fun Z Y Q=>ih_es.2.1 Z Y Q)
 (fun es ih_es=>fun Z Y Q=>ih_es.2.2 Z Y Q)
 (fun e ih_e=>fun Z Y Q=>ih_e Z Y fun v af=>ifB v (Q (.bool false) af) (Q (.bool true) af))
 (fun es ih_es=>fun Z Y Q=>ih_es.1 Z Y fun vs af=>vs.length<=sizeLine/\Q (.ref af.sz) (af.alloc (.list vs)))
 (fun es ih_es=>fun Z Y Q=>ih_es.1 Z Y fun vs af=>vs.length<=sizeLine/\Q (.tup vs) af)
 ((fun _ Y Q=>Q (.ref Y.sz) (Y.alloc (.dict []))))
 (fun k v ih_k ih_v=>fun Z Y Q=>ih_k Z Y fun kv af=>ih_v Z af fun vv ai=>jhl kv vv ai Q)
 (fun slot elt it rng cond ih_elt ih_it ih_cond=>fun Z Y Q=>ih_it Z Y fun v af=>
   ∃(I:Nat->AHeap->Prop) (N:Nat),I 0 (af.alloc (.list []))/\∀i Y',I i Y'->i<=N/\∃xs,jam rng v Y'=some xs/\
    (match xs[i]? with
     | Option.none=>Q (.ref af.sz) Y'
     | some x=>ih_cond.2.1 (Z.set slot (some x)) Y' fun b ai=>
      ifB b (ih_elt (Z.set slot (some x)) ai fun y aI=>jbv (.ref af.sz) y aI fun aZ=>I (i+1) aZ) (I (i+1) ai)))
 (fun f es ih_es=>fun Z Y Q=>ih_es.1 Z Y fun vs af=>ax f vs af Q)
 (fun c f es ih_es=>fun Z Y Q=>ih_es.1 Z Y fun vs af=>
   ax f (.ref af.sz::vs) (af.alloc (.inst c (replicate c.num Option.none))) fun r ai=>r= .none/\Q (.ref af.sz) ai)
 (fun e ih_e=>fun Z Y Q=>ih_e Z Y fun v af=>jl8 v af fun x=>Q x af)
 (fun e ih_e=>fun Z Y Q=>ih_e Z Y fun v af=>jc6 v af Q)
 (fun e ih_e=>fun Z Y Q=>ih_e Z Y fun v af=>jmc v fun x=>Q x af)
 (fun e ih_e=>fun Z Y Q=>ih_e Z Y fun v af=>jeg v af fun x=>Q x af)
 (fun o x ih_o ih_x=>fun Z Y Q=>ih_o Z Y fun v af=>jdy v af/\ih_x Z af fun y ai=>jbv v y ai fun aI=>Q .none aI)
 (fun o ih_o=>fun Z Y Q=>ih_o Z Y fun v af=>jdy v af/\jma v af Q)
 (fun o k ih_o ih_k=>fun Z Y Q=>ih_o Z Y fun v af=>jdx v af/\ih_k Z af fun kv ai=>jjb v kv .none ai fun x=>Q x ai)
 (fun o k d ih_o ih_k ih_d=>fun Z Y Q=>ih_o Z Y fun v af=>jdx v af/\ih_k Z af fun kv ai=>ih_d Z ai fun dv aI=>jjb v kv dv aI fun x=>Q x aI)
 (fun f o x ih_o ih_x=>fun Z Y Q=>ih_o Z Y fun v af=>jnc .words v af/\ih_x Z af fun y ai=>ax f [v,y] ai Q)
 (⟨fun _ Y Q=>Q [] Y,fun _ Y Q=>Q (.bool true) Y,fun _ Y Q=>Q (.bool false) Y⟩)
 (fun e es ih_e ih_es=>⟨fun Z Y Q=>ih_e Z Y fun v af=>ih_es.1 Z af fun vs ai=>Q (v::vs) ai,fun Z Y Q=>ih_e Z Y fun v af=>ifB v (ih_es.2.1 Z af Q) (Q (.bool false) af),fun Z Y Q=>ih_e Z Y fun v af=>ifB v (Q (.bool true) af) (ih_es.2.2 Z af Q)⟩) e Z Y Q
noncomputable def Exs.w3(ax:Phi)(e:Exs):WL×WE×WE:=Exs.rec (motive_1:=fun _=>WE) (motive_2:=fun _=>WL×WE×WE)
 ((fun _ Y Q=>Q .none Y))
 (fun b=>fun _ Y Q=>Q (.bool b) Y)
 (fun i=>fun _ Y Q=>Q (.int i) Y)
 (fun s=>fun _ Y Q=>Q (.str (Str.ofString s)) Y)
 (fun i=>fun Z Y Q=>jee Z i fun v=>Q v Y)
 (fun u0 i=>fun _ Y Q=>Q (.int i) Y)
 (fun e k ih_e=>fun Z Y Q=>ih_e Z Y fun v af=>jey k v af fun x=>Q x af)
 (fun e i ih_e ih_i=>fun Z Y Q=>ih_e Z Y fun v af=>ih_i Z af fun iv ai=>jgD v iv ai fun x=>Q x ai)
 (fun e i ih_e ih_i=>fun Z Y Q=>ih_e Z Y fun v af=>ih_i Z af fun iv ai=>jcl v iv ai Q)
 (fun e i ih_e ih_i=>fun Z Y Q=>ih_e Z Y fun v af=>ih_i Z af fun iv ai=>jbD v iv ai Q)
 (fun op a b ih_a ih_b=>fun Z Y Q=>ih_a Z Y fun x af=>ih_b Z af fun y ai=>jl2 op x y ai Q)
 (fun op a b ih_a ih_b=>fun Z Y Q=>ih_a Z Y fun x af=>ih_b Z af fun y ai=>jl4 op x y ai fun r=>Q r ai)
 (fun es ih_es=>fun Z Y Q=>ih_es.2.1 Z Y Q)
 (fun es ih_es=>fun Z Y Q=>ih_es.2.2 Z Y Q)
 (fun e ih_e=>fun Z Y Q=>ih_e Z Y fun v af=>ifB v (Q (.bool false) af) (Q (.bool true) af))
 (fun es ih_es=>fun Z Y Q=>ih_es.1 Z Y fun vs af=>vs.length<=sizeLine/\Q (.ref af.sz) (af.alloc (.list vs)))
 (fun es ih_es=>fun Z Y Q=>ih_es.1 Z Y fun vs af=>vs.length<=sizeLine/\Q (.tup vs) af)
 ((fun _ Y Q=>Q (.ref Y.sz) (Y.alloc (.dict []))))
 (fun k v ih_k ih_v=>fun Z Y Q=>ih_k Z Y fun kv af=>ih_v Z af fun vv ai=>jhl kv vv ai Q)
 (fun slot elt it rng cond ih_elt ih_it ih_cond=>fun Z Y Q=>ih_it Z Y fun v af=>
   ∃(I:Nat->AHeap->Prop) (N:Nat),I 0 (af.alloc (.list []))/\∀i Y',I i Y'->i<=N/\∃xs,jam rng v Y'=some xs/\
    (match xs[i]? with
     | Option.none=>Q (.ref af.sz) Y'
     | some x=>ih_cond.2.1 (Z.set slot (some x)) Y' fun b ai=>
      ifB b (ih_elt (Z.set slot (some x)) ai fun y aI=>jbv (.ref af.sz) y aI fun aZ=>I (i+1) aZ) (I (i+1) ai)))
 (fun f es ih_es=>fun Z Y Q=>ih_es.1 Z Y fun vs af=>ax f vs af Q)
 (fun c f es ih_es=>fun Z Y Q=>ih_es.1 Z Y fun vs af=>
   ax f (.ref af.sz::vs) (af.alloc (.inst c (replicate c.num Option.none))) fun r ai=>r= .none/\Q (.ref af.sz) ai)
 (fun e ih_e=>fun Z Y Q=>ih_e Z Y fun v af=>jl8 v af fun x=>Q x af)
 (fun e ih_e=>fun Z Y Q=>ih_e Z Y fun v af=>jc6 v af Q)
 (fun e ih_e=>fun Z Y Q=>ih_e Z Y fun v af=>jmc v fun x=>Q x af)
 (fun e ih_e=>fun Z Y Q=>ih_e Z Y fun v af=>jeg v af fun x=>Q x af)
 (fun o x ih_o ih_x=>fun Z Y Q=>ih_o Z Y fun v af=>jdy v af/\ih_x Z af fun y ai=>jbv v y ai fun aI=>Q .none aI)
 (fun o ih_o=>fun Z Y Q=>ih_o Z Y fun v af=>jdy v af/\jma v af Q)
 (fun o k ih_o ih_k=>fun Z Y Q=>ih_o Z Y fun v af=>jdx v af/\ih_k Z af fun kv ai=>jjb v kv .none ai fun x=>Q x ai)
 (fun o k d ih_o ih_k ih_d=>fun Z Y Q=>ih_o Z Y fun v af=>jdx v af/\ih_k Z af fun kv ai=>ih_d Z ai fun dv aI=>jjb v kv dv aI fun x=>Q x aI)
 (fun f o x ih_o ih_x=>fun Z Y Q=>ih_o Z Y fun v af=>jnc .words v af/\ih_x Z af fun y ai=>ax f [v,y] ai Q)
 (⟨fun _ Y Q=>Q [] Y,fun _ Y Q=>Q (.bool true) Y,fun _ Y Q=>Q (.bool false) Y⟩)
 (fun e es ih_e ih_es=>⟨fun Z Y Q=>ih_e Z Y fun v af=>ih_es.1 Z af fun vs ai=>Q (v::vs) ai,fun Z Y Q=>ih_e Z Y fun v af=>ifB v (ih_es.2.1 Z af Q) (Q (.bool false) af),fun Z Y Q=>ih_e Z Y fun v af=>ifB v (Q (.bool true) af) (ih_es.2.2 Z af Q)⟩) e
noncomputable def Exs.wp(ax:Phi)(Z:jao)(Y:AHeap)(Q:List PV->AHeap->Prop)(e:Exs):Prop:=(e.w3 ax).1 Z Y Q
noncomputable def Exs.wpAnd(ax:Phi)(Z:jao)(Y:AHeap)(Q:PV->AHeap->Prop)(e:Exs):Prop:=(e.w3 ax).2.1 Z Y Q
noncomputable def Exs.wpOr(ax:Phi)(Z:jao)(Y:AHeap)(Q:PV->AHeap->Prop)(e:Exs):Prop:=(e.w3 ax).2.2 Z Y Q
noncomputable def St.wp(ax:Phi)(Z:jao)(Y:AHeap)(Q:Fl->jao->AHeap->Prop)(e:St):Prop:=St.rec (motive_1:=fun _=>WS) (motive_2:=fun _=>WS)
 (fun i e=>fun Z Y Q=>e.wp ax Z Y fun v af=>i<Z.length/\Q .next (Z.set i (some v)) af)
 (fun i j e=>fun Z Y Q=>e.wp ax Z Y fun v af=>jd4 (.two i j) v Z fun Z'=>Q .next Z' af)
 (fun o k e=>fun Z Y Q=>e.wp ax Z Y fun x af=>o.wp ax Z af fun v ai=>jbO k v x ai fun aI=>Q .next Z aI)
 (fun o i e=>fun Z Y Q=>e.wp ax Z Y fun x af=>o.wp ax Z af fun v ai=>i.wp ax Z ai fun iv aI=>jck v iv x aI fun aZ=>Q .next Z aZ)
 (fun i op e=>fun Z Y Q=>jee Z i fun old=>e.wp ax Z Y fun v af=>jhk op old v fun r=>Q .next (Z.set i (some r)) af)
 (fun o k op e=>fun Z Y Q=>o.wp ax Z Y fun ov af=>jey k ov af fun old=>e.wp ax Z af fun v ai=>jhk op old v fun r=>
   jbO k ov r ai fun aI=>Q .next Z aI)
 (fun c a b ih_a ih_b=>fun Z Y Q=>c.wp ax Z Y fun v af=>ifB v (ih_a Z af Q) (ih_b Z af Q))
 (fun c b ih_b=>fun Z Y Q=>∃(I:Nat->jao->AHeap->Prop) (aY:Nat),I aY Z Y/\∀n Z' Y',I n Z' Y'->
   c.wp ax Z' Y' fun v af=>ifB v
    (ih_b Z' af fun fl aJ ai=>match fl with
     | .next=>∃m,m<n/\I m aJ ai
     | .ret r=>Q (.ret r) aJ ai)
    (Q .next Z' af))
 (fun t it rng b ih_b=>fun Z Y Q=>it.wp ax Z Y fun v af=>
   ∃(I:Nat->jao->AHeap->Prop) (N:Nat),I 0 Z af/\∀i Z' Y',I i Z' Y'->i<=N/\∃xs,jam rng v Y'=some xs/\
    (match xs[i]? with
     | Option.none=>Q .next Z' Y'
     | some x=>jd4 t x Z' fun aV=>ih_b aV Y' fun fl aJ ai=>match fl with
      | .next=>I (i+1) aJ ai
      | .ret r=>Q (.ret r) aJ ai))
 (fun e=>fun Z Y Q=>e.wp ax Z Y fun v af=>Q (.ret v) Z af)
 ((fun Z Y Q=>Q (.ret .none) Z Y))
 (fun e=>fun Z Y Q=>e.wp ax Z Y fun _ af=>Q .next Z af)
 ((fun Z Y Q=>Q .next Z Y))
 (fun s ss ih_s ih_ss=>fun Z Y Q=>ih_s Z Y fun fl aV af=>match fl with
  | .next=>ih_ss aV af Q
  | .ret r=>Q (.ret r) aV af) e Z Y Q
noncomputable def Sts.wp(ax:Phi)(Z:jao)(Y:AHeap)(Q:Fl->jao->AHeap->Prop)(e:Sts):Prop:=Sts.rec (motive_1:=fun _=>WS) (motive_2:=fun _=>WS)
 (fun i e=>fun Z Y Q=>e.wp ax Z Y fun v af=>i<Z.length/\Q .next (Z.set i (some v)) af)
 (fun i j e=>fun Z Y Q=>e.wp ax Z Y fun v af=>jd4 (.two i j) v Z fun Z'=>Q .next Z' af)
 (fun o k e=>fun Z Y Q=>e.wp ax Z Y fun x af=>o.wp ax Z af fun v ai=>jbO k v x ai fun aI=>Q .next Z aI)
 (fun o i e=>fun Z Y Q=>e.wp ax Z Y fun x af=>o.wp ax Z af fun v ai=>i.wp ax Z ai fun iv aI=>jck v iv x aI fun aZ=>Q .next Z aZ)
 (fun i op e=>fun Z Y Q=>jee Z i fun old=>e.wp ax Z Y fun v af=>jhk op old v fun r=>Q .next (Z.set i (some r)) af)
 (fun o k op e=>fun Z Y Q=>o.wp ax Z Y fun ov af=>jey k ov af fun old=>e.wp ax Z af fun v ai=>jhk op old v fun r=>
   jbO k ov r ai fun aI=>Q .next Z aI)
 (fun c a b ih_a ih_b=>fun Z Y Q=>c.wp ax Z Y fun v af=>ifB v (ih_a Z af Q) (ih_b Z af Q))
 (fun c b ih_b=>fun Z Y Q=>∃(I:Nat->jao->AHeap->Prop) (aY:Nat),I aY Z Y/\∀n Z' Y',I n Z' Y'->
   c.wp ax Z' Y' fun v af=>ifB v
    (ih_b Z' af fun fl aJ ai=>match fl with
     | .next=>∃m,m<n/\I m aJ ai
     | .ret r=>Q (.ret r) aJ ai)
    (Q .next Z' af))
 (fun t it rng b ih_b=>fun Z Y Q=>it.wp ax Z Y fun v af=>
   ∃(I:Nat->jao->AHeap->Prop) (N:Nat),I 0 Z af/\∀i Z' Y',I i Z' Y'->i<=N/\∃xs,jam rng v Y'=some xs/\
    (match xs[i]? with
     | Option.none=>Q .next Z' Y'
     | some x=>jd4 t x Z' fun aV=>ih_b aV Y' fun fl aJ ai=>match fl with
      | .next=>I (i+1) aJ ai
      | .ret r=>Q (.ret r) aJ ai))
 (fun e=>fun Z Y Q=>e.wp ax Z Y fun v af=>Q (.ret v) Z af)
 ((fun Z Y Q=>Q (.ret .none) Z Y))
 (fun e=>fun Z Y Q=>e.wp ax Z Y fun _ af=>Q .next Z af)
 ((fun Z Y Q=>Q .next Z Y))
 (fun s ss ih_s ih_ss=>fun Z Y Q=>ih_s Z Y fun fl aV af=>match fl with
  | .next=>ih_ss aV af Q
  | .ret r=>Q (.ret r) aV af) e Z Y Q
theorem jsp{ax:Phi}{Z:jao}{Y:AHeap}{Q:PV->AHeap->Prop}{e}:Ex.wp ax (e:=.not e) Z Y Q=e.wp ax Z Y fun v af=>ifB v (Q (.bool false) af) (Q (.bool true) af):=rfl
theorem jqU{ax:Phi}{Z:jao}{Y:AHeap}{Q:PV->AHeap->Prop}:Exs.wpAnd ax (e:=.nil) Z Y Q=Q (.bool true) Y:=rfl
theorem jmE{ax:Phi}{Z:jao}{Y:AHeap}{Q:PV->AHeap->Prop}{e es}:Exs.wpAnd ax (e:=.cons e es) Z Y Q=e.wp ax Z Y fun v af=>ifB v (es.wpAnd ax Z af Q) (Q (.bool false) af):=rfl
theorem jpg{ax:Phi}{Z:jao}{Y:AHeap}{Q:PV->AHeap->Prop}{e es}:Exs.wpOr ax (e:=.cons e es) Z Y Q=e.wp ax Z Y fun v af=>ifB v (Q (.bool true) af) (es.wpOr ax Z af Q):=rfl
abbrev Ad:=Addr×Addr
noncomputable def InMu(O:List Ad)(a:Addr):Prop:=∃p∈O,a=p.1\/a=p.2
noncomputable abbrev jdZ (vs:List Value):Obj:={cls:=.type "tuple",data:=.seq vs.toArray}
mutual
noncomputable def VRep(O:List Ad)(h:Heap):PV->Value->Prop
 | .none,v=>v= .none
 | .bool b,v=>v= .bool b
 | .int i,v=>∃t,v= .int i t
 | .str s,v=>∃t,v= .str s t
 | .ref l,v=>∃p,O[l]? =some p/\v= .ref p.1
 | .tup xs,v=>∃a vs,v= .ref a/\h.get? a=some (jdZ vs)/\VReps O h xs vs
noncomputable def VReps(O:List Ad)(h:Heap):List PV->List Value->Prop
 | [],vs=>vs= []
 | x::xs,vs=>∃v vs',vs=v::vs'/\VRep O h x v/\VReps O h xs vs'
end
noncomputable def TK(h h':Heap):Prop:=∀a vs,h.get? a=some (jdZ vs)->h'.get? a=some (jdZ vs)
theorem TK.refl(h:Heap):TK h h:=fun _ _ e=>e
theorem TK.trans{aQ cv cw:Heap}(x:TK aQ cv)(y:TK cv cw):TK aQ cw:=fun a vs e=>y a vs (x a vs e)
theorem jb0{ah:Type}{l l':List ah}(h:l <+: l'){i:Nat}{x:ah}(e:l[i]? =some x):l'[i]? =some x:=by
 obtain⟨r,rfl⟩:=h
 have:=(List.getElem?_eq_some_iff.mp e).1
 rw[List.getElem?_append_left this,e]
mutual
theorem VRep.mono{O O':List Ad}{h h':Heap}(hp:O <+: O')(ht:TK h h'): ∀{x:PV} {v:Value},VRep O h x v->VRep O' h' x v
 | .none,_,e=>by simpa only[VRep]using e
 | .bool _,_,e=>by simpa only[VRep]using e
 | .int _,_,e=>by simpa only[VRep]using e
 | .str _,_,e=>by simpa only[VRep]using e
 | .ref l,_,e=>by
  simp only[VRep]at e ⊢
  refine jaj e fun p e1 e2=>?_;clear e
  exact⟨p,jb0 hp e1,e2⟩
 | .tup xs,_,e=>by
  simp only[VRep]at e ⊢
  refine jaT e fun a vs e1 e2 e3=>?_;clear e
  exact⟨a,vs,e1,ht _ _ e2,VReps.mono hp ht e3⟩
theorem VReps.mono{O O':List Ad}{h h':Heap}(hp:O <+: O')(ht:TK h h'): ∀{xs:List PV} {vs:List Value},VReps O h xs vs->VReps O' h' xs vs
 | [],_,e=>by simpa only[VReps]using e
 | x::xs,_,e=>by
  simp only[VReps]at e ⊢
  refine jaT e fun v vs' e1 e2 e3=>?_;clear e
  exact⟨v,vs',e1,VRep.mono hp ht e2,VReps.mono hp ht e3⟩
end
theorem VReps.length{O:List Ad}{h:Heap}: ∀{xs:List PV} {vs:List Value},VReps O h xs vs->vs.length=xs.length
 | [],_,e=>by simp only[VReps]at e;subst e;rfl
 | x::xs,_,e=>by
  simp only[VReps]at e
  refine jaT e fun v vs' zq1 _ e3=>?_;clear e;subst zq1
  simp[VReps.length e3]
theorem VReps.get{O:List Ad}{h:Heap}: ∀{xs:List PV} {vs:List Value} {i:Nat} {x:PV},VReps O h xs vs->xs[i]? =some x->∃v,vs[i]? =some v/\VRep O h x v
 | [],_,_,_,_,e=>by simp at e
 | y::ys,_,i,x,e,hx=>by
  simp only[VReps]at e
  refine jaT e fun v vs' zq2 e2 e3=>?_;clear e;subst zq2
  cases i with
  | zero=>simp at hx;subst hx;exact⟨v,by simp,e2⟩
  | succ i=>simp at hx;simpa using VReps.get e3 hx
theorem VReps.append{O:List Ad}{h:Heap}: ∀{xs ys:List PV} {vs us:List Value},VReps O h xs vs->VReps O h ys us->VReps O h (xs++ys) (vs++us)
 | [],_,_,_,e,f=>by simp only[VReps]at e;subst e;simpa using f
 | x::xs,_,_,_,e,f=>by
  simp only[VReps]at e
  refine jaT e fun v vs' zq4 e2 e3=>?_;clear e;subst zq4
  simp only[cons_append,VReps]
  exact⟨v,_,rfl,e2,VReps.append e3 f⟩
theorem VReps.one{O:List Ad}{h:Heap}{x:PV}{v:Value}(e:VRep O h x v):VReps O h [x] [v]:=by simp only[VReps];exact⟨v,[],rfl,e,rfl⟩
theorem VReps.nil{O:List Ad}{h:Heap}:VReps O h [] []:=by simp only[VReps]
theorem VReps.cons{O:List Ad}{h:Heap}{x:PV}{v:Value}{xs:List PV}{vs:List Value}(e:VRep O h x v)(f:VReps O h xs vs):VReps O h (x::xs) (v::vs):=by
 simp only[VReps];exact⟨v,vs,rfl,e,f⟩
theorem VReps.uncons{O:List Ad}{h:Heap}{x:PV}{xs:List PV}{vs:List Value}(e:VReps O h (x::xs) vs): ∃v vs',vs=v::vs'/\VRep O h x v/\VReps O h xs vs':=by
 simpa only[VReps]using e
theorem VReps.eq_nil{O:List Ad}{h:Heap}{vs:List Value}(e:VReps O h [] vs):vs= []:=by simpa only[VReps]using e
theorem VReps.set{O:List Ad}{h:Heap}{x:PV}{v:Value}(ex:VRep O h x v): ∀{xs:List PV} {vs:List Value} {i:Nat},VReps O h xs vs->VReps O h (xs.set i x) (vs.set i v)
 | [],_,_,e=>by simp only[VReps]at e;subst e;simp[VReps]
 | y::ys,_,i,e=>by
  refine jaT e.uncons fun u us zq5 e2 e3=>?_;subst zq5
  cases i with
  | zero=>exact VReps.cons ex e3
  | succ i=>exact VReps.cons e2 (VReps.set ex e3)
theorem VReps.take{O:List Ad}{h:Heap}: ∀{xs:List PV} {vs:List Value} (i:Nat),VReps O h xs vs->VReps O h (xs.take i) (vs.take i)
 | _,_,0,_=>by simp[VReps]
 | [],_,_,e=>by have:=e.eq_nil;subst this;simp[VReps]
 | y::ys,_,i+1,e=>by
  refine jaT e.uncons fun u us zq6 e2 e3=>?_;subst zq6
  exact VReps.cons e2 (VReps.take i e3)
theorem VReps.drop{O:List Ad}{h:Heap}: ∀{xs:List PV} {vs:List Value} (i:Nat),VReps O h xs vs->VReps O h (xs.drop i) (vs.drop i)
 | _,_,0,e=>by simpa using e
 | [],_,_,e=>by have:=e.eq_nil;subst this;simp[VReps]
 | y::ys,_,i+1,e=>by
  refine jaT e.uncons fun u us zq7 e2 e3=>?_;subst zq7
  simpa using VReps.drop i e3
section
variable(prog:Program)(w:World)(cl:Cls->Addr)(fld:Nat->Str)
noncomputable abbrev iK:=PySem.intKind prog w
noncomputable def FOk(O:List Ad)(h:Heap)(c:Cls)(fs:List (Option PV))(es:List DictEntry):Prop:=
 es.length<=fs.countP (·.isSome)/\fs.length=c.num/\getL "new_word" es=some none/\
 (∀ i,i<c.num->match fs[i]? with
  | some (some x)=>∃v,getL (fld (c.off+i)) es=some (some v)/\VRep O h x v
  | _=>getL (fld (c.off+i)) es=some none)
noncomputable def ORep(O:List Ad)(h:Heap)(p:Ad):PObj->Prop
 | .list xs=>p.2=p.1/\∃vs:List Value,h.PlainList p.1 vs.toArray/\VReps O h xs vs/\xs.length<=sizeLine
 | .dict es=>p.2=p.1/\∃kvs:List (Int×Value),h.DictOf (iK prog w) p.1 kvs/\kvs.map (·.1)=es.map (·.1)/\VReps O h (es.map (·.2)) (kvs.map (·.2))/\es.length<=sizeLine
 | .frozen xs=>p.2=p.1/\∃vs:List Value,h.IsList p.1 vs.toArray/\VReps O h xs vs
 | .inst c fs=>p.1≠p.2/\h.get? p.1=some (instObj (cl c) p.2)/\∃es n,h.get? p.2=some (dictOf es n)/\FOk fld O h c fs es
structure SR (U:Heap) (Y:AHeap) (O:List Ad) (h:Heap):Prop where
 len:O.length=Y.objs.length
 keep: ∀b o,U.get? b=some o->h.get? b=some o
 above: ∀(i:Nat) (p:Ad) (o:PObj),O[i]? =some p->Y.objs[i]? =some o->o.isFrozen=false->U.get? p.1=none/\U.get? p.2=none
 sep: ∀(i j:Nat) (p q:Ad),O[i]? =some p->O[j]? =some q->i≠j->p.1≠q.1/\p.1≠q.2/\p.2≠q.1/\p.2≠q.2
 obj: ∀(i:Nat) (p:Ad) (o:PObj),O[i]? =some p->Y.objs[i]? =some o->ORep prog w cl fld O h p o
variable{prog w cl fld}
variable{U:Heap}{Y:AHeap}{O:List Ad}{h h':Heap}
theorem jdw{i:Nat}{p:Ad}(e:O[i]? =some p):InMu O p.1/\InMu O p.2:=
 ⟨⟨p,mem_of_getElem? e,.inl rfl⟩,⟨p,mem_of_getElem? e,.inr rfl⟩⟩
theorem InMu.get{a:Addr}(x:InMu O a): ∃(i:Nat) (p:Ad),O[i]? =some p/\(a=p.1\/a=p.2):=by
 refine jaj x fun p hp e=>?_;clear x
 obtain⟨i,hi⟩:=mem_iff_getElem?.mp hp
 exact⟨i,p,hi,e⟩
noncomputable def NT(o:Obj):Prop:=∀vs,o≠jdZ vs
theorem NT.of_cls{o:Obj}(e:o.cls≠ .type "tuple"):NT o:=fun vs q=>e (by rw[q])
theorem NT.of_dict{o:Obj}{es ep}(e:o.data= .dict es ep):NT o:=fun vs q=>by rw[q]at e;cases e
theorem NT.of_cell{o:Obj}{v}(e:o.data= .cell v):NT o:=fun vs q=>by rw[q]at e;cases e
theorem NT.of_fields{o:Obj}{v}(e:o.data= .fields v):NT o:=fun vs q=>by rw[q]at e;cases e
theorem jgp{kvs:List (Int×Value)}{a:Addr}(x:h.DictOf (iK prog w) a kvs): ∃o,h.get? a=some o/\NT o:=by
 refine jhN x fun o es ep ho _ hd _=>?_;clear x
 exact⟨o,ho,.of_dict hd⟩
theorem ORep.gets{p:Ad}{o:PObj}(x:ORep prog w cl fld O h p o):(∃ ob,h.get? p.1=some ob/\NT ob)/\∃ob,h.get? p.2=some ob/\NT ob:=by
 cases o with
 | list xs=>
  obtain⟨e,zu8⟩:=x;refine jaj zu8 fun vs zv9 _=>?_;clear zu8;obtain⟨n,hg⟩:=zv9
  have: ∃ob,h.get? p.1=some ob/\NT ob:=⟨_,hg,.of_cls (by simp)⟩
  exact⟨this,e▸this⟩
 | dict es=>
  obtain⟨e,zu0⟩:=x;refine jaj zu0 fun kvs hd _=>?_;clear zu0
  have:=jgp hd
  exact⟨this,e▸this⟩
 | frozen xs=>
  obtain⟨e,zu1⟩:=x;refine jaj zu1 fun vs zv2 _=>?_;clear zu1;obtain⟨ob,hg,hc,_⟩:=zv2
  have: ∃ob,h.get? p.1=some ob/\NT ob:=⟨_,hg,.of_cls (by rw[hc];simp)⟩
  exact⟨this,e▸this⟩
 | inst c fs=>
  refine jdo x fun _ h1 zu3=>?_;clear x;refine jdp zu3 fun es n h2 _=>?_;clear zu3
  exact⟨⟨_,h1,.of_cls (by simp)⟩,⟨_,h2,.of_dict rfl⟩⟩
theorem SR.mu(R:SR prog w cl fld U Y O h){a:Addr}(x:InMu O a): ∃ob,h.get? a=some ob/\NT ob:=by
 refine jdp x.get fun i p hi e=>?_
 have hlt:i<Y.objs.length:=by rw[<- R.len];exact(List.getElem?_eq_some_iff.mp hi).1
 have g:=(R.obj i p _ hi (getElem?_eq_getElem hlt)).gets
 rcases e with rfl | rfl
 ·exact g.1
 ·exact g.2
theorem FOk.mono{O':List Ad}(hp:O <+: O')(ht:TK h h'){c:Cls}{fs:List (Option PV)}{es:List DictEntry}(x:FOk fld O h c fs es):FOk fld O' h' c fs es:=by
 refine⟨x.1,x.2.1,x.2.2.1,fun i hi=>?_⟩
 have:=x.2.2.2 i hi
 revert this
 cases fs[i]? with
 | none=>exact id
 | some o=>
  cases o with
  | none=>exact id
  | some y=>intro zu4;refine jaj zu4 fun v e1 e2=>?_;clear zu4;exact⟨v,e1,e2.mono hp ht⟩
theorem jfg{kvs:List (Int×Value)}{a:Addr}(x:h.DictOf (iK prog w) a kvs)(k: ∀o,h.get? a=some o->h'.get? a=some o):h'.DictOf (iK prog w) a kvs:=by
 refine jn5 x fun o es ep ho r=>?_;clear x
 exact⟨o,es,ep,k _ ho,r⟩
theorem ORep.mono{O':List Ad}(hp:O <+: O')(ht:TK h h'){p:Ad}(k1: ∀o,h.get? p.1=some o->h'.get? p.1=some o)(k2: ∀o,h.get? p.2=some o->h'.get? p.2=some o)
  {o:PObj} (x:ORep prog w cl fld O h p o):ORep prog w cl fld O' h' p o:=by
 cases o with
 | list xs=>
  obtain⟨e,zu5⟩:=x;refine jcs zu5 fun vs zv6 r z=>?_;clear zu5;obtain⟨n,hg⟩:=zv6
  exact⟨e,vs,⟨n,k1 _ hg⟩,r.mono hp ht,z⟩
 | dict es=>
  obtain⟨e,zu7⟩:=x;refine jkV zu7 fun kvs hd e1 r z=>?_;clear zu7
  exact⟨e,kvs,jfg hd k1,e1,r.mono hp ht,z⟩
 | frozen xs=>
  obtain⟨e,zu8⟩:=x;refine jaj zu8 fun vs zv9 r=>?_;clear zu8;obtain⟨ob,hg,hc,hd⟩:=zv9
  exact⟨e,vs,⟨ob,k1 _ hg,hc,hd⟩,r.mono hp ht⟩
 | inst c fs=>
  refine jdo x fun e h1 zu0=>?_;clear x;refine jdp zu0 fun es n h2 f=>?_;clear zu0
  exact⟨e,k1 _ h1,es,n,k2 _ h2,f.mono hp ht⟩
noncomputable def Kp(P:Addr->Prop)(h h':Heap):Prop:=∀b o,h.get? b=some o->¬P b->h'.get? b=some o
theorem Kp.of_all{P:Addr->Prop}(k: ∀b o,h.get? b=some o->h'.get? b=some o):Kp P h h':=fun b o e _=>k b o e
theorem Kp.tk{P:Addr->Prop}(k:Kp P h h')(np: ∀a o,h.get? a=some o->P a->NT o):TK h h':=fun a vs e=>
 k a _ e fun x=>np a _ e x vs rfl
theorem SR.keepBut{P:Addr->Prop}(R:SR prog w cl fld U Y O h)(k:Kp P h h')(np: ∀a o,h.get? a=some o->P a->NT o)(nm: ∀a,P a->¬InMu O a)(nb: ∀a,P a->U.get? a=none):
  SR prog w cl fld U Y O h':=by
 have ht:=k.tk np
 refine⟨R.len,fun b o e=>k b o (R.keep b o e) (fun x=>by rw[nb b x]at e;cases e),R.above,R.sep,fun i p o hi ho=>?_⟩
 have m:=jdw hi
 exact(R.obj i p o hi ho).mono (prefix_refl _) ht (fun o e=>k _ _ e fun x=>nm _ x m.1) (fun o e=>k _ _ e fun x=>nm _ x m.2)
theorem SR.grow(R:SR prog w cl fld U Y O h)(k: ∀b o,h.get? b=some o->h'.get? b=some o):SR prog w cl fld U Y O h':=
 R.keepBut (P:=fun _=>False) (.of_all k) (fun _ _ _ x=>x.elim) (fun _ x=>x.elim) fun _ x=>x.elim
theorem getElem?_append_one{ah:Type}{l:List ah}{x y:ah}{i:Nat}(e:(l++ [x])[i]? =some y):l[i]? =some y\/(i=l.length/\y=x):=by
 rw[List.getElem?_append]at e
 split at e
 ·exact .inl e
 ·rename_i h
  have hi:i-l.length=0:=by
   cases q:i-l.length with
   | zero=>rfl
   | succ n=>rw[q]at e;simp at e
  rw[hi]at e
  simp at e
  exact .inr ⟨by exact ju7 h hi,e.symm⟩
theorem SR.add(R:SR prog w cl fld U Y O h){p:Ad}{o:PObj}(nm1: ¬InMu O p.1)(nm2: ¬InMu O p.2)(nb1:U.get? p.1=none)(nb2:U.get? p.2=none)
  (x:ORep prog w cl fld (O++ [p]) h p o):SR prog w cl fld U (Y.alloc o) (O++ [p]) h:=by
 have hp:O <+: O++ [p]:=prefix_append _ _
 have no: ∀q:Ad,q∈O->p.1≠q.1/\p.1≠q.2/\p.2≠q.1/\p.2≠q.2:=fun q hq=>
  ⟨fun e=>nm1 ⟨q,hq,.inl e⟩,fun e=>nm1 ⟨q,hq,.inr e⟩,fun e=>nm2 ⟨q,hq,.inl e⟩,fun e=>nm2 ⟨q,hq,.inr e⟩⟩
 refine⟨by simp[AHeap.alloc,R.len],R.keep,fun i p' o' hi ho hf=>?_,fun i j p' q' hi hj hne=>?_,fun i p' o' hi ho=>?_⟩
 ·rcases getElem?_append_one hi with hi' | ⟨hi',rfl⟩
  ·have hlt:i<Y.objs.length:=by rw[<- R.len];exact(List.getElem?_eq_some_iff.mp hi').1
   simp only[AHeap.alloc]at ho
   rw[List.getElem?_append_left hlt]at ho
   exact R.above i _ _ hi' ho hf
  ·exact⟨nb1,nb2⟩
 ·rcases getElem?_append_one hi with hi' | ⟨hi',rfl⟩<;>rcases getElem?_append_one hj with hj' | ⟨hj',rfl⟩
  ·exact R.sep i j _ _ hi' hj' hne
  ·have:=no p' (mem_of_getElem? hi')
   exact⟨this.1.symm,this.2.2.1.symm,this.2.1.symm,this.2.2.2.symm⟩
  ·exact no q' (mem_of_getElem? hj')
  ·exact ju8 hne hi' hj'
 ·rcases getElem?_append_one hi with hi' | ⟨hi',rfl⟩
  ·have hlt:i<Y.objs.length:=by rw[<- R.len];exact(List.getElem?_eq_some_iff.mp hi').1
   simp only[AHeap.alloc]at ho
   rw[List.getElem?_append_left hlt]at ho
   exact(R.obj i _ _ hi' ho).mono hp (TK.refl _) (fun _ e=>e) (fun _ e=>e)
  ·rw[hi',R.len]at ho
   simp[AHeap.alloc]at ho
   subst ho
   exact x
theorem SR.alloc(R:SR prog w cl fld U Y O h){p:Ad}{o:PObj}(k: ∀b o,h.get? b=some o->h'.get? b=some o)(n1:h.get? p.1=none)(n2:h.get? p.2=none)
  (x:ORep prog w cl fld (O++ [p]) h' p o):SR prog w cl fld U (Y.alloc o) (O++ [p]) h':=by
 have nn: ∀a,h.get? a=none->U.get? a=none:=fun a na=>by
  cases e0:U.get? a with
  | none=>rfl
  | some ob=>have:=R.keep _ _ e0;rw[na]at this;cases this
 have nm: ∀a,h.get? a=none->¬InMu O a:=fun a na q=>by
  refine jaj (R.mu q) fun o e _=>?_
  rw[na]at e;cases e
 exact(R.grow k).add (nm _ n1) (nm _ n2) (nn _ n1) (nn _ n2) x
theorem SR.put(R:SR prog w cl fld U Y O h){l:Nat}{p:Ad}{bZ o:PObj}(hl:O[l]? =some p)(h0:Y.objs[l]? =some bZ)(hf0:bZ.isFrozen=false)(k:Kp (fun b=>b=p.1\/b=p.2) h h')
  (x:TK h h'->ORep prog w cl fld O h' p o) (hf:o.isFrozen=false):SR prog w cl fld U (Y.set l o) O h':=by
 have m:=jdw hl
 have ab:=R.above l p bZ hl h0 hf0
 have ht:TK h h':=k.tk fun a o e q=>by
  obtain⟨ob,e',nt⟩: ∃ob,h.get? a=some ob/\NT ob:=by
   rcases q with rfl | rfl
   ·exact R.mu m.1
   ·exact R.mu m.2
  rw[e]at e';cases e';exact nt
 refine⟨by simp[AHeap.set,R.len],fun b o e=>k b o (R.keep b o e) (fun q=>?_),fun i p' o' hi ho hf'=>?_,R.sep,fun i p' o' hi ho=>?_⟩
 ·rcases q with rfl | rfl
  ·rw[ab.1]at e;cases e
  ·rw[ab.2]at e;cases e
 ·simp only[AHeap.set,getElem?_set]at ho
  by_cases hil:l=i
  ·subst hil
   rw[hl]at hi;cases hi
   exact ab
  ·rw[if_neg hil]at ho
   exact R.above i p' o' hi ho hf'
 ·simp only[AHeap.set,getElem?_set]at ho
  by_cases hil:l=i
  ·subst hil
   rw[hl]at hi;cases hi
   rw[if_pos rfl]at ho
   split at ho
   ·cases ho;exact x ht
   ·cases ho
  ·rw[if_neg hil]at ho
   have s:=R.sep l i _ _ hl hi hil
   exact(R.obj i _ _ hi ho).mono (prefix_refl _) ht (fun o e=>k _ _ e fun q=>by rcases q with q | q;exact s.1 q.symm;exact s.2.2.1 q.symm)
    (fun o e=>k _ _ e fun q=>by rcases q with q | q;exact s.2.1 q.symm;exact s.2.2.2 q.symm)
end
structure Stp (P:Addr->Prop) (O:List Ad) (s:Shared) (O':List Ad) (s':Shared):Prop where
 pre:O <+: O'
 new: ∀a,InMu O' a->¬InMu O a->s.heap.get? a=none
 keep:Kp (fun b=>InMu O b\/P b) s.heap s'.heap
 ex: ∀a o,s.heap.get? a=some o->∃o',s'.heap.get? a=some o'
 tk:TK s.heap s'.heap
 os:s'.os=s.os
 gens:s'.gens=s.gens
abbrev No:Addr->Prop:=fun _=>False
theorem Stp.refl(P:Addr->Prop)(O:List Ad)(s:Shared):Stp P O s O s:=
 ⟨prefix_refl _,fun _ a b=>absurd a b,fun _ _ e _=>e,fun _ o e=>⟨o,e⟩,TK.refl _,rfl,rfl⟩
theorem Stp.trans{P:Addr->Prop}{ak aE bj:List Ad}{ag ar aT:Shared}(x:Stp P ak ag aE ar)(y:Stp P aE ar bj aT):Stp P ak ag bj aT:=by
 refine⟨x.pre.trans y.pre,fun a h3 h1=>?_,fun b o e n=>?_,fun a o e=>?_,x.tk.trans y.tk,y.os.trans x.os,y.gens.trans x.gens⟩
 ·by_cases h2:InMu aE a
  ·exact x.new a h2 h1
  ·cases e:ag.heap.get? a with
   | none=>rfl
   | some o=>
    obtain⟨o',e'⟩:=x.ex a o e
    rw[y.new a h3 h2]at e';cases e'
 ·refine y.keep b o (x.keep b o e n) fun q=>?_
  rcases q with q | q
  ·have:=x.new b q fun z=>n (.inl z)
   rw[this]at e;cases e
  ·exact n (.inr q)
 ·obtain⟨o',e'⟩:=x.ex a o e
  exact y.ex a o' e'
theorem Stp.weaken{P P':Addr->Prop}{ak aE:List Ad}{ag ar:Shared}(x:Stp P ak ag aE ar)(h: ∀a,P a->P' a):Stp P' ak ag aE ar:=
 ⟨x.pre,x.new,fun b o e n=>x.keep b o e fun q=>n (q.imp id (h b)),x.ex,x.tk,x.os,x.gens⟩
theorem Stp.ofNo{P:Addr->Prop}{ak aE:List Ad}{ag ar:Shared}(x:Stp No ak ag aE ar):Stp P ak ag aE ar:=x.weaken fun _ q=>q.elim
theorem Stp.grow{P:Addr->Prop}{O:List Ad}{s s':Shared}(k: ∀b o,s.heap.get? b=some o->s'.heap.get? b=some o)(h1:s'.os=s.os)(h2:s'.gens=s.gens):Stp P O s O s':=
 ⟨prefix_refl _,fun _ a b=>absurd a b,.of_all k,fun a o e=>⟨o,k a o e⟩,fun a vs e=>k a _ e,h1,h2⟩
theorem Stp.forget{P:Addr->Prop}{ak aE:List Ad}{ag ar:Shared}(x:Stp P ak ag aE ar){P':Addr->Prop}(h: ∀a o,P a->ag.heap.get? a=some o->P' a):Stp P' ak ag aE ar:=
 ⟨x.pre,x.new,fun b o e n=>x.keep b o e fun q=>n (q.imp id fun z=>h b o z e),x.ex,x.tk,x.os,x.gens⟩
structure Tb where
 gints:List (Str×Int)
 fns:List Str
 nGlob:Nat
 flds:List Str
 clsn:Cls->Str
noncomputable def Bop.py(b:Bop):Operator:=Bop.casesOn (motive:=fun _=>Operator) b .Add .Sub .Mult .FloorDiv .Mod .RShift .Pow
noncomputable def Bop.is(b:Bop)(o:Operator):Bool:=decide (o=b.py)
noncomputable def Cop.py(b:Cop):CmpOp:=Cop.casesOn (motive:=fun _=>CmpOp) b .Eq .NotEq .Lt .LtE .Gt .GtE .In .NotIn .Is .IsNot
noncomputable def Cop.is'(b:Cop)(o:CmpOp):Bool:=decide (o=b.py)
noncomputable def jn7(ctx:List (Option Str))(slot:Nat)(x:Str)(scope:Scope):List (Option Str):=
 (ctx.map fun o=>o.bind fun y=>if scope.names.lookup y==some .free then some y else none).set slot (some x)
noncomputable def isG(sc:Scope)(x:Str):Bool:=sc.names.lookup x==some .globalImplicit
noncomputable def scR(scope sc:Scope):Scope:=
 {scope with names:=scope.names.map fun y=>if y.2== .free&&sc.names.lookup y.1==some .cell then(y.1,.cell)else y}
noncomputable def scC(scope sc:Scope)(x:Str):Bool:=
 scope.kind== .function&&scope.names.all (fun y=>y.2 != .cell)&&(scope.names.all fun y=>y.2 != .free||sc.names.lookup y.1==some .cell)&&(scope.names.all fun y=>y.2 != .local||scope.names.lookup y.1==some .local)&&scope.names.lookup x==some .local
noncomputable def jau:PySem.Expr->Bool
 | .Call (.Name _ _) [] [] _=>false
 | _=>true
noncomputable def jpN:PySem.Expr->Bool
 | .Tuple _ _ _=>true
 | .List _ _=>true
 | _=>false
noncomputable def jfn:PySem.Expr->Bool
 | .ListComp .. =>true
 | .SetComp .. =>true
 | .DictComp .. =>true
 | _=>false
noncomputable def Exs.len:Exs->Nat
 | .nil=>0
 | .cons _ es=>es.len+1
section
variable{ah:Type}
noncomputable def jbS(l:List ah)(b:Bool):Bool:=List.casesOn (motive:=fun _=>Bool) l b fun _ _=>false
@[elab_as_elim] theorem eNil {P:List ah->Prop} {l:List ah} {b:Bool} (hm:jbS l b=true) (k:b=true->P []):P l:=List.casesOn (motive:=fun l=>jbS l b=true->P l) l k (fun _ _ h=>(Bool.false_ne_true h).elim) hm
noncomputable def jbe(l:List ah)(f:ah->List ah->Bool):Bool:=List.casesOn (motive:=fun _=>Bool) l false f
@[elab_as_elim] theorem eCons {P:List ah->Prop} {l:List ah} {f:ah->List ah->Bool} (hm:jbe l f=true) (k: ∀a r,f a r=true->P (a::r)):P l:=List.casesOn (motive:=fun l=>jbe l f=true->P l) l (fun h=>(Bool.false_ne_true h).elim) k hm
noncomputable def vNo(l:Option ah)(b:Bool):Bool:=Option.casesOn (motive:=fun _=>Bool) l b fun _=>false
@[elab_as_elim] theorem eNo {P:Option ah->Prop} {l:Option ah} {b:Bool} (hm:vNo l b=true) (k:b=true->P none):P l:=Option.casesOn (motive:=fun l=>vNo l b=true->P l) l k (fun _ h=>(Bool.false_ne_true h).elim) hm
noncomputable def vSo(l:Option ah)(f:ah->Bool):Bool:=Option.casesOn (motive:=fun _=>Bool) l false f
@[elab_as_elim] theorem eSo {P:Option ah->Prop} {l:Option ah} {f:ah->Bool} (hm:vSo l f=true) (k: ∀a,f a=true->P (some a)):P l:=Option.casesOn (motive:=fun l=>vSo l f=true->P l) l (fun h=>(Bool.false_ne_true h).elim) k hm
end
noncomputable def joU(i:Int)(b:Bool):Bool:=Int.casesOn (motive:=fun _=>Bool) i (fun n=>Nat.casesOn (motive:=fun _=>Bool) n b fun _=>false) fun _=>false
@[elab_as_elim] theorem eZero {P:Int->Prop} {i:Int} {b:Bool} (hm:joU i b=true) (k:b=true->P 0):P i:=Int.casesOn (motive:=fun i=>joU i b=true->P i) i (fun n=>Nat.casesOn (motive:=fun n=>joU (.ofNat n) b=true->P (.ofNat n)) n k fun _ h=>(Bool.false_ne_true h).elim) (fun _ h=>(Bool.false_ne_true h).elim) hm
noncomputable def jr6(g:PySem.Comprehension)(f:PySem.Expr->PySem.Expr->List PySem.Expr->Int->Bool):Bool:=f g.target g.iter g.ifs g.is_async
@[elab_as_elim] theorem eComp {P:PySem.Comprehension->Prop} {g:PySem.Comprehension} {f:PySem.Expr->PySem.Expr->List PySem.Expr->Int->Bool} (hm:jr6 g f=true) (k: ∀a b c d,f a b c d=true->P ⟨a,b,c,d⟩):P g:=by cases g;exact k _ _ _ _ hm
noncomputable def jcq(e:PySem.Expr)(f:PySem.Const->Nat->Pos->Bool):Bool:=if h:e.ctorIdx=19 then PySem.Expr.Constant.elim (motive_1:=fun _=>Bool) e h f else false
@[elab_as_elim] theorem eConstant {P:PySem.Expr->Prop} {e:PySem.Expr} {f:PySem.Const->Nat->Pos->Bool} (hm:jcq e f=true) (k: ∀a b c,f a b c=true->P (.Constant a b c)):P e:=if h:e.ctorIdx=19 then PySem.Expr.Constant.elim (motive_1:=fun e=>jcq e f=true->P e) e h k hm else(Bool.false_ne_true ((dif_neg h).symm.trans hm)).elim
noncomputable def jn0(e:PySem.Const)(b:Bool):Bool:=if e.ctorIdx=0 then b else false
@[elab_as_elim] theorem eKnone {P:PySem.Const->Prop} {e:PySem.Const} {b:Bool} (hm:jn0 e b=true) (k:b=true->P .none):P e:=if h:e.ctorIdx=0 then PySem.Const.none.elim (motive:=fun e=>jn0 e b=true->P e) e h k hm else(Bool.false_ne_true ((if_neg h).symm.trans hm)).elim
noncomputable def jnZ(e:PySem.Const)(f:Bool->Bool):Bool:=if h:e.ctorIdx=1 then PySem.Const.bool.elim (motive:=fun _=>Bool) e h f else false
@[elab_as_elim] theorem eKbool {P:PySem.Const->Prop} {e:PySem.Const} {f:Bool->Bool} (hm:jnZ e f=true) (k: ∀a,f a=true->P (.bool a)):P e:=if h:e.ctorIdx=1 then PySem.Const.bool.elim (motive:=fun e=>jnZ e f=true->P e) e h k hm else(Bool.false_ne_true ((dif_neg h).symm.trans hm)).elim
noncomputable def jqB(e:PySem.Const)(f:Int->Bool):Bool:=if h:e.ctorIdx=2 then PySem.Const.int.elim (motive:=fun _=>Bool) e h f else false
@[elab_as_elim] theorem eKint {P:PySem.Const->Prop} {e:PySem.Const} {f:Int->Bool} (hm:jqB e f=true) (k: ∀a,f a=true->P (.int a)):P e:=if h:e.ctorIdx=2 then PySem.Const.int.elim (motive:=fun e=>jqB e f=true->P e) e h k hm else(Bool.false_ne_true ((dif_neg h).symm.trans hm)).elim
noncomputable def jqC(e:PySem.Const)(f:Str->Bool):Bool:=if h:e.ctorIdx=5 then PySem.Const.str.elim (motive:=fun _=>Bool) e h f else false
@[elab_as_elim] theorem eKstr {P:PySem.Const->Prop} {e:PySem.Const} {f:Str->Bool} (hm:jqC e f=true) (k: ∀a,f a=true->P (.str a)):P e:=if h:e.ctorIdx=5 then PySem.Const.str.elim (motive:=fun e=>jqC e f=true->P e) e h k hm else(Bool.false_ne_true ((dif_neg h).symm.trans hm)).elim
noncomputable def jbX(e:PySem.Expr)(f:Str->Pos->Bool):Bool:=if h:e.ctorIdx=23 then PySem.Expr.Name.elim (motive_1:=fun _=>Bool) e h f else false
@[elab_as_elim] theorem eName {P:PySem.Expr->Prop} {e:PySem.Expr} {f:Str->Pos->Bool} (hm:jbX e f=true) (k: ∀a b,f a b=true->P (.Name a b)):P e:=if h:e.ctorIdx=23 then PySem.Expr.Name.elim (motive_1:=fun e=>jbX e f=true->P e) e h k hm else(Bool.false_ne_true ((dif_neg h).symm.trans hm)).elim
noncomputable def jaX(e:PySem.Expr)(f:PySem.Expr->Str->Pos->Bool):Bool:=if h:e.ctorIdx=20 then PySem.Expr.Attribute.elim (motive_1:=fun _=>Bool) e h f else false
@[elab_as_elim] theorem eAttribute {P:PySem.Expr->Prop} {e:PySem.Expr} {f:PySem.Expr->Str->Pos->Bool} (hm:jaX e f=true) (k: ∀a b c,f a b c=true->P (.Attribute a b c)):P e:=if h:e.ctorIdx=20 then PySem.Expr.Attribute.elim (motive_1:=fun e=>jaX e f=true->P e) e h k hm else(Bool.false_ne_true ((dif_neg h).symm.trans hm)).elim
noncomputable def jb1(e:PySem.Expr)(f:PySem.Expr->PySem.Expr->Pos->Bool):Bool:=if h:e.ctorIdx=21 then PySem.Expr.Subscript.elim (motive_1:=fun _=>Bool) e h f else false
@[elab_as_elim] theorem eSubscript {P:PySem.Expr->Prop} {e:PySem.Expr} {f:PySem.Expr->PySem.Expr->Pos->Bool} (hm:jb1 e f=true) (k: ∀a b c,f a b c=true->P (.Subscript a b c)):P e:=if h:e.ctorIdx=21 then PySem.Expr.Subscript.elim (motive_1:=fun e=>jb1 e f=true->P e) e h k hm else(Bool.false_ne_true ((dif_neg h).symm.trans hm)).elim
noncomputable def jlB(e:PySem.Expr)(f:Option PySem.Expr->Option PySem.Expr->Option PySem.Expr->Pos->Bool):Bool:=if h:e.ctorIdx=26 then PySem.Expr.Slice.elim (motive_1:=fun _=>Bool) e h f else false
@[elab_as_elim] theorem eSlice {P:PySem.Expr->Prop} {e:PySem.Expr} {f:Option PySem.Expr->Option PySem.Expr->Option PySem.Expr->Pos->Bool} (hm:jlB e f=true) (k: ∀a b c d,f a b c d=true->P (.Slice a b c d)):P e:=if h:e.ctorIdx=26 then PySem.Expr.Slice.elim (motive_1:=fun e=>jlB e f=true->P e) e h k hm else(Bool.false_ne_true ((dif_neg h).symm.trans hm)).elim
noncomputable def jnY(e:PySem.Expr)(f:PySem.Expr->PySem.Operator->PySem.Expr->Pos->Bool):Bool:=if h:e.ctorIdx=2 then PySem.Expr.BinOp.elim (motive_1:=fun _=>Bool) e h f else false
@[elab_as_elim] theorem eBinOp {P:PySem.Expr->Prop} {e:PySem.Expr} {f:PySem.Expr->PySem.Operator->PySem.Expr->Pos->Bool} (hm:jnY e f=true) (k: ∀a b c d,f a b c d=true->P (.BinOp a b c d)):P e:=if h:e.ctorIdx=2 then PySem.Expr.BinOp.elim (motive_1:=fun e=>jnY e f=true->P e) e h k hm else(Bool.false_ne_true ((dif_neg h).symm.trans hm)).elim
noncomputable def jhI(e:PySem.Expr)(f:PySem.Expr->List PySem.CmpOp->List PySem.Expr->Pos->Bool):Bool:=if h:e.ctorIdx=15 then PySem.Expr.Compare.elim (motive_1:=fun _=>Bool) e h f else false
@[elab_as_elim] theorem eCompare {P:PySem.Expr->Prop} {e:PySem.Expr} {f:PySem.Expr->List PySem.CmpOp->List PySem.Expr->Pos->Bool} (hm:jhI e f=true) (k: ∀a b c d,f a b c d=true->P (.Compare a b c d)):P e:=if h:e.ctorIdx=15 then PySem.Expr.Compare.elim (motive_1:=fun e=>jhI e f=true->P e) e h k hm else(Bool.false_ne_true ((dif_neg h).symm.trans hm)).elim
noncomputable def jhH(e:PySem.Expr)(f:PySem.BoolOp->List PySem.Expr->Pos->Bool):Bool:=if h:e.ctorIdx=0 then PySem.Expr.BoolOp.elim (motive_1:=fun _=>Bool) e h f else false
@[elab_as_elim] theorem eBoolOp {P:PySem.Expr->Prop} {e:PySem.Expr} {f:PySem.BoolOp->List PySem.Expr->Pos->Bool} (hm:jhH e f=true) (k: ∀a b c,f a b c=true->P (.BoolOp a b c)):P e:=if h:e.ctorIdx=0 then PySem.Expr.BoolOp.elim (motive_1:=fun e=>jhH e f=true->P e) e h k hm else(Bool.false_ne_true ((dif_neg h).symm.trans hm)).elim
noncomputable def jqA(e:PySem.BoolOp)(b:Bool):Bool:=if e.ctorIdx=0 then b else false
@[elab_as_elim] theorem eBAnd {P:PySem.BoolOp->Prop} {e:PySem.BoolOp} {b:Bool} (hm:jqA e b=true) (k:b=true->P .And):P e:=if h:e.ctorIdx=0 then PySem.BoolOp.And.elim (motive:=fun e=>jqA e b=true->P e) e h k hm else(Bool.false_ne_true ((if_neg h).symm.trans hm)).elim
noncomputable def jtb(e:PySem.BoolOp)(b:Bool):Bool:=if e.ctorIdx=1 then b else false
@[elab_as_elim] theorem eBOr {P:PySem.BoolOp->Prop} {e:PySem.BoolOp} {b:Bool} (hm:jtb e b=true) (k:b=true->P .Or):P e:=if h:e.ctorIdx=1 then PySem.BoolOp.Or.elim (motive:=fun e=>jtb e b=true->P e) e h k hm else(Bool.false_ne_true ((if_neg h).symm.trans hm)).elim
noncomputable def jhJ(e:PySem.Expr)(f:PySem.UnaryOp->PySem.Expr->Pos->Bool):Bool:=if h:e.ctorIdx=3 then PySem.Expr.UnaryOp.elim (motive_1:=fun _=>Bool) e h f else false
@[elab_as_elim] theorem eUnaryOp {P:PySem.Expr->Prop} {e:PySem.Expr} {f:PySem.UnaryOp->PySem.Expr->Pos->Bool} (hm:jhJ e f=true) (k: ∀a b c,f a b c=true->P (.UnaryOp a b c)):P e:=if h:e.ctorIdx=3 then PySem.Expr.UnaryOp.elim (motive_1:=fun e=>jhJ e f=true->P e) e h k hm else(Bool.false_ne_true ((dif_neg h).symm.trans hm)).elim
noncomputable def jqF(e:PySem.UnaryOp)(b:Bool):Bool:=if e.ctorIdx=1 then b else false
@[elab_as_elim] theorem eUNot {P:PySem.UnaryOp->Prop} {e:PySem.UnaryOp} {b:Bool} (hm:jqF e b=true) (k:b=true->P .Not):P e:=if h:e.ctorIdx=1 then PySem.UnaryOp.Not.elim (motive:=fun e=>jqF e b=true->P e) e h k hm else(Bool.false_ne_true ((if_neg h).symm.trans hm)).elim
noncomputable def jqD(e:PySem.Expr)(f:List PySem.Expr->Pos->Bool):Bool:=if h:e.ctorIdx=24 then PySem.Expr.List.elim (motive_1:=fun _=>Bool) e h f else false
@[elab_as_elim] theorem eList {P:PySem.Expr->Prop} {e:PySem.Expr} {f:List PySem.Expr->Pos->Bool} (hm:jqD e f=true) (k: ∀a b,f a b=true->P (.List a b)):P e:=if h:e.ctorIdx=24 then PySem.Expr.List.elim (motive_1:=fun e=>jqD e f=true->P e) e h k hm else(Bool.false_ne_true ((dif_neg h).symm.trans hm)).elim
noncomputable def jjD(e:PySem.Expr)(f:List PySem.Expr->Nat->Pos->Bool):Bool:=if h:e.ctorIdx=25 then PySem.Expr.Tuple.elim (motive_1:=fun _=>Bool) e h f else false
@[elab_as_elim] theorem eTuple {P:PySem.Expr->Prop} {e:PySem.Expr} {f:List PySem.Expr->Nat->Pos->Bool} (hm:jjD e f=true) (k: ∀a b c,f a b c=true->P (.Tuple a b c)):P e:=if h:e.ctorIdx=25 then PySem.Expr.Tuple.elim (motive_1:=fun e=>jjD e f=true->P e) e h k hm else(Bool.false_ne_true ((dif_neg h).symm.trans hm)).elim
noncomputable def joT(e:PySem.Expr)(f:List (Option PySem.Expr)->List PySem.Expr->Pos->Bool):Bool:=if h:e.ctorIdx=6 then PySem.Expr.Dict.elim (motive_1:=fun _=>Bool) e h f else false
@[elab_as_elim] theorem eDict {P:PySem.Expr->Prop} {e:PySem.Expr} {f:List (Option PySem.Expr)->List PySem.Expr->Pos->Bool} (hm:joT e f=true) (k: ∀a b c,f a b c=true->P (.Dict a b c)):P e:=if h:e.ctorIdx=6 then PySem.Expr.Dict.elim (motive_1:=fun e=>joT e f=true->P e) e h k hm else(Bool.false_ne_true ((dif_neg h).symm.trans hm)).elim
noncomputable def jfW(e:PySem.Expr)(f:PySem.Expr->List PySem.Comprehension->Scope->Pos->Bool):Bool:=if h:e.ctorIdx=8 then PySem.Expr.ListComp.elim (motive_1:=fun _=>Bool) e h f else false
@[elab_as_elim] theorem eListComp {P:PySem.Expr->Prop} {e:PySem.Expr} {f:PySem.Expr->List PySem.Comprehension->Scope->Pos->Bool} (hm:jfW e f=true) (k: ∀a b c d,f a b c d=true->P (.ListComp a b c d)):P e:=if h:e.ctorIdx=8 then PySem.Expr.ListComp.elim (motive_1:=fun e=>jfW e f=true->P e) e h k hm else(Bool.false_ne_true ((dif_neg h).symm.trans hm)).elim
noncomputable def jcz(e:PySem.Expr)(f:PySem.Expr->List PySem.Expr->List PySem.Keyword->Pos->Bool):Bool:=if h:e.ctorIdx=16 then PySem.Expr.Call.elim (motive_1:=fun _=>Bool) e h f else false
@[elab_as_elim] theorem eCall {P:PySem.Expr->Prop} {e:PySem.Expr} {f:PySem.Expr->List PySem.Expr->List PySem.Keyword->Pos->Bool} (hm:jcz e f=true) (k: ∀a b c d,f a b c d=true->P (.Call a b c d)):P e:=if h:e.ctorIdx=16 then PySem.Expr.Call.elim (motive_1:=fun e=>jcz e f=true->P e) e h k hm else(Bool.false_ne_true ((dif_neg h).symm.trans hm)).elim
noncomputable def jde(e:PySem.Stmt)(f:List PySem.Expr->PySem.Expr->Pos->Bool):Bool:=if h:e.ctorIdx=5 then PySem.Stmt.Assign.elim (motive_2:=fun _=>Bool) e h f else false
@[elab_as_elim] theorem eSAssign {P:PySem.Stmt->Prop} {e:PySem.Stmt} {f:List PySem.Expr->PySem.Expr->Pos->Bool} (hm:jde e f=true) (k: ∀a b c,f a b c=true->P (.Assign a b c)):P e:=if h:e.ctorIdx=5 then PySem.Stmt.Assign.elim (motive_2:=fun e=>jde e f=true->P e) e h k hm else(Bool.false_ne_true ((dif_neg h).symm.trans hm)).elim
noncomputable def jcA(e:PySem.Stmt)(f:PySem.Expr->PySem.Operator->PySem.Expr->Pos->Bool):Bool:=if h:e.ctorIdx=7 then PySem.Stmt.AugAssign.elim (motive_2:=fun _=>Bool) e h f else false
@[elab_as_elim] theorem eSAugAssign {P:PySem.Stmt->Prop} {e:PySem.Stmt} {f:PySem.Expr->PySem.Operator->PySem.Expr->Pos->Bool} (hm:jcA e f=true) (k: ∀a b c d,f a b c d=true->P (.AugAssign a b c d)):P e:=if h:e.ctorIdx=7 then PySem.Stmt.AugAssign.elim (motive_2:=fun e=>jcA e f=true->P e) e h k hm else(Bool.false_ne_true ((dif_neg h).symm.trans hm)).elim
noncomputable def jtc(e:PySem.Stmt)(f:PySem.Expr->List PySem.Stmt->List PySem.Stmt->Pos->Bool):Bool:=if h:e.ctorIdx=12 then PySem.Stmt.If.elim (motive_2:=fun _=>Bool) e h f else false
@[elab_as_elim] theorem eSIf {P:PySem.Stmt->Prop} {e:PySem.Stmt} {f:PySem.Expr->List PySem.Stmt->List PySem.Stmt->Pos->Bool} (hm:jtc e f=true) (k: ∀a b c d,f a b c d=true->P (.If a b c d)):P e:=if h:e.ctorIdx=12 then PySem.Stmt.If.elim (motive_2:=fun e=>jtc e f=true->P e) e h k hm else(Bool.false_ne_true ((dif_neg h).symm.trans hm)).elim
noncomputable def jkR(e:PySem.Stmt)(f:PySem.Expr->List PySem.Stmt->List PySem.Stmt->Pos->Bool):Bool:=if h:e.ctorIdx=11 then PySem.Stmt.While.elim (motive_2:=fun _=>Bool) e h f else false
@[elab_as_elim] theorem eSWhile {P:PySem.Stmt->Prop} {e:PySem.Stmt} {f:PySem.Expr->List PySem.Stmt->List PySem.Stmt->Pos->Bool} (hm:jkR e f=true) (k: ∀a b c d,f a b c d=true->P (.While a b c d)):P e:=if h:e.ctorIdx=11 then PySem.Stmt.While.elim (motive_2:=fun e=>jkR e f=true->P e) e h k hm else(Bool.false_ne_true ((dif_neg h).symm.trans hm)).elim
noncomputable def jqE(e:PySem.Stmt)(f:PySem.Expr->PySem.Expr->List PySem.Stmt->List PySem.Stmt->Pos->Bool):Bool:=if h:e.ctorIdx=9 then PySem.Stmt.For.elim (motive_2:=fun _=>Bool) e h f else false
@[elab_as_elim] theorem eSFor {P:PySem.Stmt->Prop} {e:PySem.Stmt} {f:PySem.Expr->PySem.Expr->List PySem.Stmt->List PySem.Stmt->Pos->Bool} (hm:jqE e f=true) (k: ∀a b c d e,f a b c d e=true->P (.For a b c d e)):P e:=if h:e.ctorIdx=9 then PySem.Stmt.For.elim (motive_2:=fun e=>jqE e f=true->P e) e h k hm else(Bool.false_ne_true ((dif_neg h).symm.trans hm)).elim
noncomputable def jeY(e:PySem.Stmt)(f:Option PySem.Expr->Pos->Bool):Bool:=if h:e.ctorIdx=3 then PySem.Stmt.Return.elim (motive_2:=fun _=>Bool) e h f else false
@[elab_as_elim] theorem eSReturn {P:PySem.Stmt->Prop} {e:PySem.Stmt} {f:Option PySem.Expr->Pos->Bool} (hm:jeY e f=true) (k: ∀a b,f a b=true->P (.Return a b)):P e:=if h:e.ctorIdx=3 then PySem.Stmt.Return.elim (motive_2:=fun e=>jeY e f=true->P e) e h k hm else(Bool.false_ne_true ((dif_neg h).symm.trans hm)).elim
noncomputable def jn1(e:PySem.Stmt)(f:PySem.Expr->Pos->Bool):Bool:=if h:e.ctorIdx=24 then PySem.Stmt.Expr.elim (motive_2:=fun _=>Bool) e h f else false
@[elab_as_elim] theorem eSExpr {P:PySem.Stmt->Prop} {e:PySem.Stmt} {f:PySem.Expr->Pos->Bool} (hm:jn1 e f=true) (k: ∀a b,f a b=true->P (.Expr a b)):P e:=if h:e.ctorIdx=24 then PySem.Stmt.Expr.elim (motive_2:=fun e=>jn1 e f=true->P e) e h k hm else(Bool.false_ne_true ((dif_neg h).symm.trans hm)).elim
variable(T:Tb)
mutual
noncomputable def mtE(sc:Scope)(ctx:List (Option Str)):Ex->PySem.Expr->Bool
 | .none,e=>jcq e fun u3 w1 w2=>jn0 u3 (true)
 | .bool b,e=>jcq e fun u3 w1 w2=>jnZ u3 fun c=>b==c
 | .int i,e=>jcq e fun u3 w1 w2=>jqB u3 fun j=>i==j
 | .str s,e=>jcq e fun u3 w1 w2=>jqC u3 fun t=>t==Str.ofString s
 | .loc i,e=>jbX e fun x w1=>ctx[i]? ==some (some x)&&x !=("__debug__":Str)
 | .glob j i,e=>jbX e fun x w1=>T.gints[j]? ==some (x,i)&&isG sc x&&x !=("__debug__":Str)
 | .attr a k,e=>jaX e fun v n w1=>T.flds[k]? ==some n&&jau v&&mtE sc ctx a v
 | .item a i,e=>jb1 e fun v s w1=>mtE sc ctx a v&&mtE sc ctx i s
 | .sliceTo a i,e=>jb1 e fun v u3 w2=>jlB u3 fun u4 u5 u6 w1=>vNo u4 (vSo u5 fun s=>vNo u6 (mtE sc ctx a v&&mtE sc ctx i s))
 | .sliceFrom a i,e=>jb1 e fun v u3 w2=>jlB u3 fun u4 u5 u6 w1=>vSo u4 fun s=>vNo u5 (vNo u6 (mtE sc ctx a v&&mtE sc ctx i s))
 | .bin op a b,e=>jnY e fun l o r w1=>op.is o&&mtE sc ctx a l&&mtE sc ctx b r
 | .cmp op a b,e=>jhI e fun l u2 u3 w1=>jbe u2 fun o u4=>jbS u4 (jbe u3 fun r u5=>jbS u5 (op.is' o&&mtE sc ctx a l&&mtE sc ctx b r))
 | .and es,e=>jhH e fun u2 vs w1=>jqA u2 (ble 2 es.len&&jed sc ctx es vs)
 | .or es,e=>jhH e fun u2 vs w1=>jtb u2 (ble 2 es.len&&jed sc ctx es vs)
 | .not a,e=>jhJ e fun u2 x w1=>jqF u2 (mtE sc ctx a x)
 | .list es,e=>jqD e fun vs w1=>jed sc ctx es vs
 | .tup es,e=>jjD e fun vs w1 w2=>jed sc ctx es vs
 | .dict0,e=>joT e fun u2 u3 w1=>jbS u2 (jbS u3 (true))
 | .dict1 k v,e=>joT e fun u2 u3 w1=>jbe u2 fun u4 u5=>vSo u4 fun a=>jbS u5 (jbe u3 fun b u6=>jbS u6 (mtE sc ctx k a&&mtE sc ctx v b))
 | .comp slot elt it rng cond,e=>jfW e fun el u3 scope w2=>jbe u3 fun u4 u5=>jr6 u4 fun u6 iter ifs u7=>jbX u6 fun x w1=>joU u7 (jbS u5 (scC scope sc x&&blt slot ctx.length&&(ctx[slot]? ==some none)&&_root_.cond rng (jcz iter fun r1 r2 r3 _=>jbX r1 fun f _=>jbe r2 fun n r4=>jbS r4 (jbS r3 (f==("range":Str)&&isG sc f&&mtE sc ctx it n))) (mtE sc ctx it iter)&&mtE (scR scope sc) (jn7 ctx slot x scope) elt el&&jed (scR scope sc) (jn7 ctx slot x scope) cond ifs))
 | .call f es,e=>jcz e fun u3 as u4 w2=>jbX u3 fun x w1=>jbS u4 (T.fns[f]? ==some x&&blt f T.nGlob&&isG sc x&&x !=("__debug__":Str)&&jed sc ctx es as)
 | .new c f es,e=>jcz e fun u3 as u4 w2=>jbX u3 fun x w1=>jbS u4 (T.clsn c==x&&isG sc x&&x !=("__debug__":Str)&&jed sc ctx es as&&(T.fns[f]? ==some ("__init__"++x:Str)))
 | .len a,e=>jcz e fun u3 u4 u5 w2=>jbX u3 fun x w1=>jbe u4 fun v u6=>jbS u6 (jbS u5 (x==("len":Str)&&isG sc x&&mtE sc ctx a v))
 | .sorted a,e=>jcz e fun u3 u4 u5 w2=>jbX u3 fun x w1=>jbe u4 fun v u6=>jbS u6 (jbS u5 (x==("sorted":Str)&&isG sc x&&mtE sc ctx a v))
 | .strOf a,e=>jcz e fun u3 u4 u5 w2=>jbX u3 fun x w1=>jbe u4 fun v u6=>jbS u6 (jbS u5 (x==("str":Str)&&isG sc x&&mtE sc ctx a v))
 | .tupleOf a,e=>jcz e fun u3 u4 u5 w2=>jbX u3 fun x w1=>jbe u4 fun v u6=>jbS u6 (jbS u5 (x==("tuple":Str)&&isG sc x&&mtE sc ctx a v))
 | .append o x,e=>jcz e fun u1 u2 u3 p=>jaX u1 fun v n ap=>jbe u2 fun y u4=>jbS u4 (jbS u3 (n==("append":Str)&&ap.endLine==p.line&&jau v&&mtE sc ctx o v&&mtE sc ctx x y))
 | .pop o,e=>jcz e fun u1 u2 u3 p=>jaX u1 fun v n ap=>jbS u2 (jbS u3 (n==("pop":Str)&&ap.endLine==p.line&&jau v&&mtE sc ctx o v))
 | .get1 o x,e=>jcz e fun u1 u2 u3 p=>jaX u1 fun v n ap=>jbe u2 fun y u4=>jbS u4 (jbS u3 (n==("get":Str)&&ap.endLine==p.line&&jau v&&mtE sc ctx o v&&mtE sc ctx x y))
 | .get2 o x d,e=>jcz e fun u1 u2 u3 p=>jaX u1 fun v n ap=>jbe u2 fun y u4=>jbe u4 fun z u5=>jbS u5 (jbS u3 (n==("get":Str)&&ap.endLine==p.line&&jau v&&mtE sc ctx o v&&mtE sc ctx x y&&mtE sc ctx d z))
 | .meth f o x,e=>jcz e fun u1 u2 u3 p=>jaX u1 fun v n ap=>jbe u2 fun y u4=>jbS u4 (jbS u3 (n==("new_word":Str)&&(T.fns[f]? ==some n)&&ap.endLine==p.line&&jau v&&mtE sc ctx o v&&mtE sc ctx x y))
noncomputable def jed(sc:Scope)(ctx:List (Option Str)):Exs->List PySem.Expr->Bool
 | .nil,es=>jbS es true
 | .cons a as,es=>jbe es fun e r=>mtE sc ctx a e&&jed sc ctx as r
end
noncomputable def mtT(ctx:List (Option Str)):Tgt->PySem.Expr->Bool
 | .one i,e=>jbX e fun x w1=>ctx[i]? ==some (some x)
 | .two i j,e=>jjD e fun u5 w3 w4=>jbe u5 fun u6 u7=>jbX u6 fun x w1=>jbe u7 fun u8 u9=>jbX u8 fun y w2=>jbS u9 (ctx[i]? ==some (some x)&&ctx[j]? ==some (some y)&&i !=j)
mutual
noncomputable def mtS(sc:Scope)(ctx:List (Option Str)):St->PySem.Stmt->Bool
 | .asgn i a,s=>jde s fun u3 v w2=>jbe u3 fun u4 u5=>jbX u4 fun x w1=>jbS u5 (ctx[i]? ==some (some x)&&mtE T sc ctx a v)
 | .unpack i j a,s=>jde s fun u6 v w5=>jbe u6 fun u7 u8=>jjD u7 fun u9 w3 w4=>jbe u9 fun u10 u11=>jbX u10 fun x w1=>jbe u11 fun u12 u13=>jbX u12 fun y w2=>jbS u13 (jbS u8 (ctx[i]? ==some (some x)&&ctx[j]? ==some (some y)&&i !=j&& !jpN v&&mtE T sc ctx a v))
 | .setAttr o k a,s=>jde s fun u3 x w2=>jbe u3 fun u4 u5=>jaX u4 fun v n w1=>jbS u5 (T.flds[k]? ==some n&&mtE T sc ctx o v&&mtE T sc ctx a x)
 | .setItem o i a,s=>jde s fun u3 x w2=>jbe u3 fun u4 u5=>jb1 u4 fun v y w1=>jbS u5 (mtE T sc ctx o v&&mtE T sc ctx i y&&mtE T sc ctx a x)
 | .augLoc i op a,s=>jcA s fun u3 o v w2=>jbX u3 fun x w1=>ctx[i]? ==some (some x)&&op.is o&&mtE T sc ctx a v
 | .augAttr b k op a,s=>jcA s fun u3 o x w2=>jaX u3 fun v n w1=>T.flds[k]? ==some n&&op.is o&&mtE T sc ctx b v&&mtE T sc ctx a x
 | .ifs c a b,s=>jtc s fun t x y w1=>mtE T sc ctx c t&&jmv sc ctx a x&&jmv sc ctx b y
 | .while c b,s=>jkR s fun t x u2 w1=>jbS u2 (mtE T sc ctx c t&&jmv sc ctx b x)
 | .for t it rng b,s=>jqE s fun tgt iter x u2 w1=>jbS u2 (mtT ctx t tgt&&_root_.cond rng (jcz iter fun r1 r2 r3 _=>jbX r1 fun f _=>jbe r2 fun n r4=>jbS r4 (jbS r3 (f==("range":Str)&&isG sc f&&mtE T sc ctx it n))) (mtE T sc ctx it iter)&&jmv sc ctx b x)
 | .ret a,s=>jeY s fun u2 w1=>vSo u2 fun v=>mtE T sc ctx a v
 | .retNone,s=>jeY s fun u2 w1=>vNo u2 (true)
 | .expr a,s=>jn1 s fun v w1=> !jfn v&&mtE T sc ctx a v
noncomputable def jmv(sc:Scope)(ctx:List (Option Str)):Sts->List PySem.Stmt->Bool
 | .nil,ss=>jbS ss true
 | .cons a as,ss=>jbe ss fun s r=>mtS sc ctx a s&&jmv sc ctx as r
end
noncomputable def Tb.fld(T:Tb)(k:Nat):Str:=(T.flds[k]?).getD ⟨#[]⟩
structure Gl (T:Tb) (cl:Cls->Addr) (fa:Nat->Addr) (K:Frag) (U:Heap):Prop where
 top: ∃p loose mg mb,TopRead p loose mg mb U
 kin:K.In U
 gint: ∀(j:Nat) (x:Str) (i:Int),T.gints[j]? =some (x,i)->∃t,nsIn K mainGlobals x=some (some (.int i t))
 fn: ∀(f:Nat) (x:Str),T.fns[f]? =some x->f<T.nGlob->nsIn K mainGlobals x=some (some (.ref (fa f)))
 keeps: ∀(f:Nat) (x:Str),T.fns[f]? =some x->keepIn K (.ref (fa f))=true
 clsg: ∀c,nsIn K mainGlobals (T.clsn c)=some (some (.ref (cl c)))
 clsk: ∀c,keepIn K (.ref (cl c))=true
 bi: ∀x∈(["len","str","range","sorted","tuple"]:List Str),nsIn K mainGlobals x=some none
 cget: ∀c,plainGet K (cl c) ⟨#[]⟩=true/\hasDictIn K (cl c)=true/\findIn K (.ref (cl c)) "__setattr__"=some (some (.builtin "object.__setattr__"))/\plainOver K (cl c)=true/\makesIn K (cl c)=true
 cfld: ∀(c:Cls) (i:Nat),i<c.num->findIn K (.ref (cl c)) (T.fld (c.off+i))=some none
 cinit: ∀(c:Cls) (f:Nat),T.fns[f]? =some ("__init__"++T.clsn c:Str)->findIn K (.ref (cl c)) "__init__"=some (some (.ref (fa f)))/\typeIn K (.ref (fa f))=some (.type "function")
 fldinj: ∀(c:Cls) (i j:Nat),i<c.num->j<c.num->T.fld (c.off+i)=T.fld (c.off+j)->i=j
 fldnw: ∀(c:Cls) (i:Nat),i<c.num->T.fld (c.off+i)≠("new_word":Str)
 nw: ∀(f:Nat),T.fns[f]? =some ("new_word":Str)->findIn K (.ref (cl .words)) "new_word"=some (some (.ref (fa f)))/\typeIn K (.ref (fa f))=some (.type "function")
 stat:(U.get? sysModules).isSome=true
noncomputable def jqX(env:Env)(x:Str)(a:Addr)(o:Obj)(v:Value):Prop:=
 (env.kindOf x=some .local/\a=env.locals/\∃es ep,o.data= .dict es ep/\StrKeys es/\nsFind es x=some v)\/
 (env.kindOf x=some .cell/\env.cells.lookup x=some a/\o.data= .cell (some v))
structure EnvOk (env:Env) (sc:Scope) (ctx:List (Option Str)) (Z:jao) (O:List Ad) (h:Heap):Prop where
 kind:env.scope.kind= .function
 names:env.scope.names=sc.names
 globals:env.globals=mainGlobals
 bi:env.builtins=builtinsNs
 len:Z.length=ctx.length
 cells: ∀y,env.kindOf y=some .cell->∃c,env.cells.lookup y=some c
 vars: ∀(i:Nat) (x:Str) (pv:PV),ctx[i]? =some (some x)->Z[i]? =some (some pv)->∃v a o,VRep O h pv v/\h.get? a=some o/\¬InMu O a/\jqX env x a o v
structure AOk (d:Nat) (A:Around):Prop where
 handled:A.handled=none
 depth:A.depth+3*d<=500
 units:A.units+40*d<=5000
structure COk (d:Nat) (A:Around):Prop where
 handled:A.handled=none
 depth:A.depth+3*d<=502
 units:A.units+40*d<=5020
theorem AOk.c{d:Nat}{A:Around}(h:AOk d A):COk d A:=⟨h.handled,by have:=h.depth;exact ju9 this,by have:=h.units;exact jva this⟩
section
variable{prog:Program}{w:World}{T:Tb}{cl:Cls->Addr}{fa:Nat->Addr}{K:Frag}{U:Heap}{env:Env}{sc:Scope}{ctx:List (Option Str)}{Z:jao}{Y:AHeap}{O:List Ad}{A:Around}{d:Nat}
variable(prog w T cl U) in
noncomputable def Post(P:Addr->Prop)(O:List Ad)(s:Shared)(Q:PV->AHeap->Prop)(v:Value)(s':Shared):Prop:=
 ∃pv Y' O',Q pv Y'/\SR prog w cl T.fld U Y' O' s'.heap/\VRep O' s'.heap pv v/\Stp P O s O' s'
abbrev NoE:Value->Shared->Prop:=fun _ _=>False
theorem EnvOk.step{P:Addr->Prop}{O':List Ad}{s s':Shared}(E:EnvOk env sc ctx Z O s.heap)(S:Stp P O s O' s')(hP: ∀a,P a->s.heap.get? a=none):EnvOk env sc ctx Z O' s'.heap:=by
 refine⟨E.kind,E.names,E.globals,E.bi,E.len,E.cells,fun i x pv h1 h2=>?_⟩
 refine jhN (E.vars i x pv h1 h2) fun v a o r1 r2 r3 r4=>?_
 refine⟨v,a,o,r1.mono S.pre S.tk,S.keep a o r2 (fun q=>?_),fun q=>?_,r4⟩
 ·rcases q with q | q
  ·exact r3 q
  ·rw[hP a q]at r2;cases r2
 ·have:=S.new a q r3
  rw[this]at r2;cases r2
theorem EnvOk.stepNo{O':List Ad}{s s':Shared}(E:EnvOk env sc ctx Z O s.heap)(S:Stp No O s O' s'):EnvOk env sc ctx Z O' s'.heap:=E.step S fun _ q=>q.elim
theorem Post.before{P:Addr->Prop}{O':List Ad}{s s' s'':Shared}{Q:PV->AHeap->Prop}{v:Value}(S:Stp P O s O' s')(x:Post prog w T cl U P O' s' Q v s''):Post prog w T cl U P O s Q v s'':=by
 refine jhN x fun pv Y' aE q R V S'=>?_;clear x
 exact⟨pv,Y',aE,q,R,V,S.trans S'⟩
theorem Post.grow{P:Addr->Prop}{s s':Shared}{Q:PV->AHeap->Prop}{v:Value}{pv:PV}(R:SR prog w cl T.fld U Y O s.heap)(k: ∀b o,s.heap.get? b=some o->s'.heap.get? b=some o)
  (V:VRep O s'.heap pv v) (q:Q pv Y) (h1:s'.os=s.os:=by rfl) (h2:s'.gens=s.gens:=by rfl):Post prog w T cl U P O s Q v s':=
 ⟨pv,Y,O,q,R.grow k,V,.grow k h1 h2⟩
theorem Post.same{P:Addr->Prop}{s s':Shared}{Q:PV->AHeap->Prop}{v:Value}{pv:PV}(R:SR prog w cl T.fld U Y O s.heap)(V:VRep O s.heap pv v)(q:Q pv Y)
  (h0:s'.heap=s.heap:=by rfl) (h1:s'.os=s.os:=by rfl) (h2:s'.gens=s.gens:=by rfl):Post prog w T cl U P O s Q v s':=
 Post.grow R (fun b o e=>by rw[h0];exact e) (by rw[h0];exact V) q h1 h2
theorem Post.alloc{P:Addr->Prop}{s s':Shared}{Q:PV->AHeap->Prop}{p:Ad}{o:PObj}(R:SR prog w cl T.fld U Y O s.heap)(k: ∀b o,s.heap.get? b=some o->s'.heap.get? b=some o)
  (n1:s.heap.get? p.1=none) (n2:s.heap.get? p.2=none) (x:ORep prog w cl T.fld (O++ [p]) s'.heap p o) (q:Q (.ref Y.sz) (Y.alloc o)) (h1:s'.os=s.os:=by rfl) (h2:s'.gens=s.gens:=by rfl):
  Post prog w T cl U P O s Q (.ref p.1) s':=by
 refine⟨_,_,O++ [p],q,R.alloc k n1 n2 x,?_,prefix_append _ _,fun a ha hn=>?_,.of_all k,fun a o e=>⟨o,k a o e⟩,fun a vs e=>k a _ e,h1,h2⟩
 ·simp only[VRep]
  exact⟨p,by rw[AHeap.sz,<-R.len];simp,rfl⟩
 ·refine jaj ha fun r hr e=>?_;clear ha
  rcases mem_append.mp hr with hr | hr
  ·exact absurd ⟨r,hr,e⟩ hn
  ·have:=mem_singleton.mp hr;subst this
   rcases e with rfl | rfl
   ·exact n1
   ·exact n2
theorem Stp.put{P:Addr->Prop}{s s':Shared}{p:Ad}{l:Nat}{h':Heap}(R:SR prog w cl T.fld U Y O s.heap)(hl:O[l]? =some p)(hh:s'.heap=h')(k:Kp (fun b=>b=p.1\/b=p.2) s.heap h')(ex: ∀a,(a=p.1\/a=p.2)->∃o,h'.get? a=some o)
  (h1:s'.os=s.os:=by rfl) (h2:s'.gens=s.gens:=by rfl):Stp P O s O s':=by
 subst hh
 have m:=jdw hl
 refine⟨prefix_refl _,fun _ a b=>absurd a b,fun b o e n=>k b o e fun q=>n (.inl (by rcases q with rfl | rfl;exact m.1;exact m.2)),fun a o e=>?_,k.tk fun a o e q=>?_,h1,h2⟩
 ·by_cases q:a=p.1\/a=p.2
  ·exact ex a q
  ·exact⟨o,k a o e q⟩
 ·obtain⟨ob,e',nt⟩: ∃ob,s.heap.get? a=some ob/\NT ob:=by
   rcases q with rfl | rfl
   ·exact R.mu m.1
   ·exact R.mu m.2
  rw[e]at e';cases e';exact nt
theorem jaH(h:Heap):h.get? h.objs.size=none:=by
 cases e:h.get? h.objs.size with
 | none=>rfl
 | some o=>exact absurd (Heap.lt_size e) (lt_irrefl _)
theorem jax(h:Heap)(o:Obj): ∀b x,h.get? b=some x->(h.push o).get? b=some x:=fun _ _ e=>Heap.get?_push_of_some _ e
theorem Post.list{P:Addr->Prop}{s s':Shared}{Q:PV->AHeap->Prop}{xs:List PV}{vs:List Value}(R:SR prog w cl T.fld U Y O s.heap)(V:VReps O s.heap xs vs)(z:xs.length<=sizeLine)(q:Q (.ref Y.sz) (Y.alloc (.list xs)))
  (h0:s'.heap=s.heap.push {cls:=.type "list",data:=.seq vs.toArray}:=by rfl) (h1:s'.os=s.os:=by rfl) (h2:s'.gens=s.gens:=by rfl):Post prog w T cl U P O s Q (.ref s.heap.objs.size) s':=by
 refine Post.alloc (p:=(s.heap.objs.size,s.heap.objs.size)) (o:=.list xs) R (fun b o e=>by rw[h0];exact jax _ _ _ _ e) (jaH _) (jaH _) ⟨rfl,vs,⟨0,?_⟩,?_,z⟩ q h1 h2
 ·rw[h0];exact Heap.get?_push_size _ rfl
 ·rw[h0];exact V.mono (prefix_append _ _) fun a vs e=>jax _ _ _ _ e
theorem Post.listAt{P:Addr->Prop}{s s':Shared}{Q:PV->AHeap->Prop}{xs:List PV}{vs:List Value}{a:Addr}(R:SR prog w cl T.fld U Y O s.heap)(k: ∀b o,s.heap.get? b=some o->s'.heap.get? b=some o)
  (hn:s.heap.get? a=none) (hp:s'.heap.PlainList a vs.toArray) (V:VReps O s.heap xs vs) (z:xs.length<=sizeLine) (q:Q (.ref Y.sz) (Y.alloc (.list xs)))
  (h1:s'.os=s.os:=by rfl) (h2:s'.gens=s.gens:=by rfl):Post prog w T cl U P O s Q (.ref a) s':=
 Post.alloc (p:=(a,a)) (o:=.list xs) R k hn hn ⟨rfl,vs,hp,V.mono (prefix_append _ _) fun _ vs e=>k _ _ e,z⟩ q h1 h2
theorem SR.list{aQ:Heap}(R:SR prog w cl T.fld U Y O aQ){l:Nat}{v:Value}{xs:List PV}(V:VRep O aQ (.ref l) v)(e:Y.get l=some (.list xs)):
  ∃p vs,O[l]? =some p/\v= .ref p.1/\p.2=p.1/\aQ.PlainList p.1 vs.toArray/\VReps O aQ xs vs/\xs.length<=sizeLine:=by
 simp only[VRep]at V
 refine jaj V fun p hp zq1=>?_;clear V;subst zq1
 obtain⟨e2,zu2⟩:=R.obj l p _ hp e;refine jcs zu2 fun vs pl r z=>?_;clear zu2
 exact⟨p,vs,hp,rfl,e2,pl,r,z⟩
theorem SR.dict{aQ:Heap}(R:SR prog w cl T.fld U Y O aQ){l:Nat}{v:Value}{es:List (Int×PV)}(V:VRep O aQ (.ref l) v)(e:Y.get l=some (.dict es)):
  ∃p kvs,O[l]? =some p/\v= .ref p.1/\p.2=p.1/\aQ.DictOf (iK prog w) p.1 kvs/\kvs.map (·.1)=es.map (·.1)/\VReps O aQ (es.map (·.2)) (kvs.map (·.2))/\es.length<=sizeLine:=by
 simp only[VRep]at V
 refine jaj V fun p hp zq3=>?_;clear V;subst zq3
 obtain⟨e2,zu4⟩:=R.obj l p _ hp e;refine jcs zu4 fun kvs pl r z=>?_;clear zu4
 exact⟨p,kvs,hp,rfl,e2,pl,r,z⟩
theorem jqe(G:Gl T cl fa K U){i:Nat}{x:Str}{pos:Pos}{s:Shared}{Q:PV->AHeap->Prop}(E:EnvOk env sc ctx Z O s.heap)(R:SR prog w cl T.fld U Y O s.heap)
  (hx:ctx[i]? =some (some x)) (hd:(x==("__debug__":Str))=false) (q:jee Z i fun v=>Q v Y):wpAny (model prog w) A (eval (.Name x pos) env) (Post prog w T cl U No O s Q) NoE s:=by
 refine jaj (jhm q) fun pv bk q=>?_
 refine jhN (E.vars i x pv hx bk) fun v a o r1 r2 r3 r4=>?_
 refine wpAny_Name ?_ hd
 have fin:Post prog w T cl U No O s Q v s:=Post.same R r1 q
 rcases r4 with ⟨k1,rfl,es,ep,k2,k3,k4⟩ | ⟨k1,k2,k3⟩
 ·exact wpAny_loadName_local (m:=nsFind es) E.kind k1 ⟨o,es,ep,r2,k2,k3,fun _=>rfl⟩ k4 fin
 ·exact wpAny_loadName_cell E.kind k1 k2 ⟨o,r2,k3⟩ fin
theorem jlb{aQ:Heap}(E:EnvOk env sc ctx Z O aQ){x:Str}(g:isG sc x=true):env.kindOf x=some .globalImplicit:=by
 unfold isG at g
 unfold Env.kindOf
 rw[E.names];exact beq_iff_eq.mp g
theorem jdz(G:Gl T cl fa K U){x:Str}{pos:Pos}{s:Shared}{v:Value}{Q:Value->Shared->Prop}{E':Value->Shared->Prop}(E:EnvOk env sc ctx Z O s.heap)(R:SR prog w cl T.fld U Y O s.heap)
  (g:isG sc x=true) (hd:(x==("__debug__":Str))=false) (e:nsIn K mainGlobals x=some (some v)) (q:Q v s):wpAny (model prog w) A (eval (.Name x pos) env) Q E' s:=by
 refine jto G.top fun p loose mg mb T=>?_
 exact Calls.Name_function_global E.kind (jlb E g) (Calls.loadGlobal_global (env:=env) (by rw[E.globals];exact T.g.keeps R.keep) (mg_of G.kin T.g e) q) hd
theorem jbN(G:Gl T cl fa K U){x:Str}{pos:Pos}{s:Shared}{v:Value}{Q:Value->Shared->Prop}{E':Value->Shared->Prop}(E:EnvOk env sc ctx Z O s.heap)(R:SR prog w cl T.fld U Y O s.heap)
  (g:isG sc x=true) (hd:(x==("__debug__":Str))=false) (hn:x≠"__name__") (e:nsIn K mainGlobals x=some none) (hb:bootBuiltins x=some v) (q:Q v s):wpAny (model prog w) A (eval (.Name x pos) env) Q E' s:=by
 refine jto G.top fun p loose mg mb T=>?_
 exact Calls.Name_function_global E.kind (jlb E g) (Calls.loadGlobal_builtin (env:=env) (by rw[E.globals];exact T.g.keeps R.keep) (mg_none_of G.kin T.g e) (by rw[E.bi];exact T.b.keeps R.keep) ((T.builtins x hn).trans hb) q) hd
end
section
variable{prog:Program}{w:World}{T:Tb}{cl:Cls->Addr}{fa:Nat->Addr}{K:Frag}{U:Heap}{env:Env}{sc:Scope}{ctx:List (Option Str)}{Z:jao}{Y:AHeap}{O:List Ad}{A:Around}{d:Nat}
theorem jak{h:Heap}{i:Int}{v:Value}(V:VRep O h (.int i) v): ∃t,v= .int i t:=by simpa only[VRep]using V
theorem jbQ{h:Heap}{x:Str}{v:Value}(V:VRep O h (.str x) v): ∃t,v= .str x t:=by simpa only[VRep]using V
theorem jcv{h:Heap}{b:Bool}{v:Value}(V:VRep O h (.bool b) v):v= .bool b:=by simpa only[VRep]using V
theorem jdU{h:Heap}{v:Value}(V:VRep O h .none v):v= .none:=by simpa only[VRep]using V
theorem jb6{h:Heap}{xs:List PV}{v:Value}(V:VRep O h (.tup xs) v): ∃a vs,v= .ref a/\h.get? a=some (jdZ vs)/\VReps O h xs vs:=by simpa only[VRep]using V
theorem ja3{h:Heap}{i:Int}{t:Tok}:VRep O h (.int i) (.int i t):=by simp only[VRep];exact⟨t,rfl⟩
theorem jkH{h:Heap}{x:Str}{t:Tok}:VRep O h (.str x) (.str x t):=by simp only[VRep];exact⟨t,rfl⟩
theorem ja7{h:Heap}{b:Bool}:VRep O h (.bool b) (.bool b):=by simp only[VRep]
theorem jdO{h:Heap}:VRep O h .none .none:=by simp only[VRep]
theorem jhg{i:Int}{s:Shared}{Q:Value->Shared->Prop}(h:Q (.int i s.toks) {s with toks:=s.toks+1}):(Made.int i).post Q s:=h
theorem joG{x:Int}{k:Nat}(h0:0<=x)(h:(k:Int)>=((Builtin.Int.intBits x:Nat):Int)):x/2 ^ k=0:=by
 apply Int.ediv_eq_zero_of_lt h0
 unfold Builtin.Int.intBits at h
 split at h
 ·rename_i e
  have:x=0:=by simpa using e
  subst this;exact Int.pow_pos (by decide)
 ·have hk:x.natAbs.log2+1<=k:=by exact jvb h
  have h2:x.natAbs<2 ^ (x.natAbs.log2+1):=Nat.lt_log2_self
  have h3:2 ^ (x.natAbs.log2+1)<=2 ^ k:=Nat.pow_le_pow_right (by decide) hk
  have h4:(x.natAbs:Int)=x:=Int.natAbs_of_nonneg h0
  have h5:((2 ^ k:Nat):Int)=(2:Int) ^ k:=by norm_cast
  have h6:(x.natAbs:Int)<((2 ^ k:Nat):Int):=by exact_mod_cast lt_of_lt_of_le h2 h3
  rw[h4,h5]at h6
  exact h6
theorem jjk{y:Int}(h0:0<y)(h1:y<1000000)(x:Int):Builtin.divisionGoesByPylong x y=false:=by
 unfold Builtin.divisionGoesByPylong
 have h2:y.natAbs<2 ^ 20:=by exact jvc h0 h1
 have h3:y.natAbs.log2<20:=by
  rcases Nat.eq_zero_or_pos y.natAbs with e | e
  ·rw[e];decide
  ·exact(Nat.log2_lt (ne_of_gt e)).mpr h2
 have h4:(if y==0 then 0 else y.natAbs.log2/30+1)<=1:=by split<;>walk_at "o"
 have: ¬(if y==0 then 0 else y.natAbs.log2/30+1)>300:=by exact jvd h4
 simp only[this,decide_false,Bool.false_and]
theorem jnm{op:Bop}{op':Operator}(ho:op.is op'=true){x y:PV}{a b:Value}{s:Shared}{Q:PV->AHeap->Prop}(R:SR prog w cl T.fld U Y O s.heap)
  (va:VRep O s.heap x a) (vb:VRep O s.heap y b) (q:jl2 op x y Y Q):wpAny (model prog w) A (binaryOp op' a b) (Post prog w T cl U No O s Q) NoE s:=by
 have e:=of_decide_eq_true ho;subst e
 cases op
 ·cases x with
  | int x=>
   obtain⟨y,rfl,q⟩:=jeL q
   obtain⟨t,rfl⟩:=jak va;obtain⟨u,rfl⟩:=jak vb
   exact add_int (Post.same R ja3 q)
  | str x=>
   obtain⟨y,rfl,q1,q⟩:=jpZ q
   obtain⟨t,rfl⟩:=jbQ va;obtain⟨u,rfl⟩:=jbQ vb
   exact add_str (fun t' tk=>Post.same R jkH q) q1
  | ref l=>
   obtain⟨r,rfl,q⟩:=jcG q
   obtain⟨xs,e1,q⟩:=jo9 q
   obtain⟨ys,e2,q1,q⟩:=jo9 q
   refine jjG (R.list va e1) fun p vs hp zq9 _ zv0 r1 _=>?_;subst zq9;obtain⟨n,hl⟩:=zv0
   refine jjG (R.list vb e2) fun p' us hp' zq1 _ zv2 r2 _=>?_;subst zq1;obtain⟨n',hl'⟩:=zv2
   have hv:=r1.length
   have hu:=r2.length
   refine concat_meets ⟨_,hl,rfl⟩ ⟨_,hl',rfl⟩ noFill_list_add seq_list_add PySem.F.slot_list_add PySem.F.entry_list_add (PySem.F.args_list_add_2 _ _) (list_addW p.1 p'.1 vs.toArray us.toArray n n' none none #[] #[] (by simp;exact jvi q1 hv hu)) ⟨hl,hl',?_⟩
   refine Post.list (xs:=xs++ys) (vs:=vs++us) R (r1.append r2) (by simpa using q1) q ?_
   simp
  | _=>exact q.elim
 ·refine jaT (jcD q) fun x y ex ey q=>?_;subst ex;subst ey
  obtain⟨t,rfl⟩:=jak va;obtain⟨u,rfl⟩:=jak vb
  exact sub_int (Post.same R ja3 q)
 ·refine jaT (jcD q) fun x y ex ey q=>?_;subst ex;subst ey
  obtain⟨t,rfl⟩:=jak va;obtain⟨u,rfl⟩:=jak vb
  obtain⟨⟨q1,q2⟩,q⟩:=q
  exact mul_int (Post.same R ja3 q) (IntMulOk.of_left (intBits_le_64 (jve q1) (jvf q2)))
 ·refine jaT (jcD q) fun x y ex ey q=>?_;subst ex;subst ey
  obtain⟨t,rfl⟩:=jak va;obtain⟨u,rfl⟩:=jak vb
  revert q;intro zo5;refine jdo zo5 fun q1 q2 q=>?_;clear zo5
  refine floordiv_int (o89 q1) ?_ (.inl (jjk q1 q2 _))
  rw[Int.fdiv_eq_ediv_of_nonneg _ (o90 q1)]
  exact Post.same R ja3 q
 ·refine jaT (jcD q) fun x y ex ey q=>?_;subst ex;subst ey
  obtain⟨t,rfl⟩:=jak va;obtain⟨u,rfl⟩:=jak vb
  obtain⟨q1,q⟩:=q
  refine mod_int' (o89 q1) ?_
  rw[Int.fmod_eq_emod_of_nonneg _ (o90 q1)]
  exact Post.same R ja3 q
 ·refine jaT (jcD q) fun x y ex ey q=>?_;subst ex;subst ey
  obtain⟨t,rfl⟩:=jak va;obtain⟨u,rfl⟩:=jak vb
  revert q;intro zo6;refine jjF zo6 fun q1 q2 q3 q=>?_;clear zo6
  by_cases hb:y>=((Builtin.Int.intBits x:Nat):Int)
  ·refine AutoIntOps.rshift_1 (o42 q2) hb (jhg ?_)
   rw[if_neg (o42 q1)]
   rw[joG q1 (jvg q2 hb)]at q
   exact Post.same R ja3 q
  ·refine AutoIntOps.rshift_2 (o42 q2) hb (jhg ?_)
   rw[Int.fdiv_eq_ediv_of_nonneg _ (by exact Int.le_of_lt (Int.pow_pos (by decide)))]
   exact Post.same R ja3 q
 ·replace q:=jcD q;obtain⟨x,y,rfl,rfl,q⟩:=q
  obtain⟨t,rfl⟩:=jak va;obtain⟨u,rfl⟩:=jak vb
  obtain⟨rfl,q2,q3,q⟩:=q
  exact pow_int_small q2 (jvh q3) (by decide) (Post.same R ja3 q)
theorem ji8{op:Bop}{op':Operator}(ho:op.is op'=true){x y:PV}{a b:Value}{s:Shared}{Q:PV->Prop}(R:SR prog w cl T.fld U Y O s.heap)
  (va:VRep O s.heap x a) (vb:VRep O s.heap y b) (q:jhk op x y Q):wpAny (model prog w) A (inplaceOp op' a b) (Post prog w T cl U No O s fun v Y'=>Q v/\Y'=Y) NoE s:=by
 have e:=of_decide_eq_true ho;subst e
 cases op<;>first | exact q.elim | skip
 ·refine jaT (jcD q) fun x y ex ey q=>?_;subst ex;subst ey
  obtain⟨t,rfl⟩:=jak va;obtain⟨u,rfl⟩:=jak vb
  exact wpAny_iadd_int (Post.same R ja3 ⟨q,rfl⟩)
 ·refine jaT (jcD q) fun x y ex ey q=>?_;subst ex;subst ey
  obtain⟨t,rfl⟩:=jak va;obtain⟨u,rfl⟩:=jak vb
  exact AutoIntOps.isub_0 (jhg (Post.same R ja3 ⟨q,rfl⟩))
end
open PySem.SeqAt
section
variable{prog:Program}{w:World}{T:Tb}{cl:Cls->Addr}{fa:Nat->Addr}{K:Frag}{U:Heap}{env:Env}{sc:Scope}{ctx:List (Option Str)}{Z:jao}{Y:AHeap}{O:List Ad}{A:Around}{d:Nat}
theorem je4{s:Shared}{x y:PV}{a b:Value}{e:Bool}(q:x.atomEq y=some e)(va:VRep O s.heap x a)(vb:VRep O s.heap y b):EqAt A s a b e:=by
 unfold PV.atomEq at q
 split at q
 ·cases q
  obtain⟨t,rfl⟩:=jak va;obtain⟨u,rfl⟩:=jak vb
  exact EqAt.int_int _ t _ u
 ·cases q
  obtain⟨t,rfl⟩:=jbQ va;obtain⟨u,rfl⟩:=jbQ vb
  exact EqAt.str_str _ t _ u
 ·cases q
theorem jc7{s:Shared}{f:PV->PV->Option Bool}(hf: ∀{x y:PV} {a b:Value} {e:Bool},f x y=some e->VRep O s.heap x a->VRep O s.heap y b->EqAt A s a b e):
  ∀{xs ys:List PV} {vs us:List Value} {e:Bool},jbE f xs ys=some e->VReps O s.heap xs vs->VReps O s.heap ys us->
   vs.length=us.length/\∃e':Nat->Bool,(∀ j (h1:j<vs.length) (h2:j<us.length),EqAt A s vs[j] us[j] (e' j))/\(List.range vs.length).all e'=e
 | [],[],_,_,e,q,va,vb=>by
  have:=va.eq_nil;have:=vb.eq_nil;subst_vars
  simp only[jbE,Option.some.injEq]at q
  exact⟨rfl,fun _=>true,fun j h1=>absurd h1 (Nat.not_lt_zero _),by simpa using q⟩
 | x::xs,y::ys,_,_,e,q,va,vb=>by
  refine jaT va.uncons fun a vs zq3 a1 a2=>?_;subst zq3
  refine jaT vb.uncons fun b us zq4 b1 b2=>?_;subst zq4
  simp only[jbE]at q
  split at q
  ·rename_i e1 e2 q1 q2
   cases q
   obtain⟨hl,zu5⟩:=jc7 hf q2 a2 b2;refine jaj zu5 fun e' he hr=>?_;clear zu5
   refine⟨by simp[hl],fun j=>match j with | 0=>e1 | j+1=>e' j,fun j h1 h2=>?_,?_⟩
   ·cases j with
    | zero=>exact hf q1 a1 b1
    | succ j=>exact he j (by simpa using h1) (by simpa using h2)
   ·rw[length_cons,List.range_succ_eq_map,List.all_cons,List.all_map,<-hr]
    rfl
  ·cases q
 | [],_::_,_,_,_,q,_,_=>by simp[jbE]at q
 | _::_,[],_,_,_,q,_,_=>by simp[jbE]at q
theorem jgl{h:Heap}: ∀{xs ys:List PV} {vs:List Value} {e:Bool},jd1 xs ys=some e->VReps O h xs vs->VReps O h ys vs->e=true
 | [],[],_,e,q,va,vb=>by simpa [jd1,jbE]using q.symm
 | x::xs,y::ys,_,e,q,va,vb=>by
  refine jaT va.uncons fun a vs zq6 a1 a2=>?_;subst zq6
  refine jaT vb.uncons fun b us e0 b1 b2=>?_
  cases e0
  simp only[jd1,jbE]at q
  split at q
  ·rename_i e1 e2 q1 q2
   cases q
   have r2:=jgl (xs:=xs) (ys:=ys) q2 a2 b2
   have r1:e1=true:=by
    unfold PV.atomEq at q1
    split at q1
    ·cases q1
     obtain⟨t,rfl⟩:=jak a1;obtain⟨u,e⟩:=jak b1
     cases e;simp
    ·cases q1
     obtain⟨t,rfl⟩:=jbQ a1;obtain⟨u,e⟩:=jbQ b1
     cases e;simp
    ·cases q1
   rw[r1,r2];rfl
  ·cases q
 | [],_::_,_,_,q,_,_=>by simp[jd1,jbE]at q
 | _::_,[],_,_,q,_,_=>by simp[jd1,jbE]at q
theorem jbG{h:Heap}{a:Addr}{vs:List Value}(e:h.get? a=some (jdZ vs)):h.IsTuple a vs.toArray:=⟨_,e,rfl,0,rfl⟩
theorem jdT{n:Nat}{e':Nat->Bool}{e:Bool}(h:(List.range n).all e'=e):((List.range (min n n)).all e'&&n==n)=e:=by rw[Nat.min_self,h];simp
theorem jm2{s:Shared}(hu:A.units<cLine){x y:PV}{a b:Value}{e:Bool}(q:x.flatEq y=some e)(va:VRep O s.heap x a)(vb:VRep O s.heap y b):EqAt A s a b e:=by
 unfold PV.flatEq at q
 split at q
 ·refine jaT (jb6 va) fun l vs zq7 g1 r1=>?_;subst zq7
  refine jaT (jb6 vb) fun l' us zq8 g2 r2=>?_;subst zq8
  by_cases hne:l=l'
  ·subst hne
   rw[g1]at g2
   have:us=vs:=by
    have:=Option.some.inj g2
    simp only[Obj.mk.injEq,Data.seq.injEq,true_and,and_true]at this
    simpa using congrArg Array.toList this.symm
   subst this
   rw[jgl q r1 r2]
   exact EqAt.same _
  ·refine EqAt.of_refs hne ?_
   obtain⟨hl,zu9⟩:=jc7 (A:=A.in1) (fun q va vb=>je4 q va vb) q r1 r2;refine jaj zu9 fun e' he hr=>?_;clear zu9
   have:=RcAt.tuples (A:=A) (e:=e') (jbG g1) (jbG g2) hu (fun j h1 h2=>he j (by simpa using h1) (by simpa using h2))
   simp only[size_toArray,<-hl]at this
   rwa [jdT hr]at this
 ·exact je4 q va vb
theorem jpF{s:Shared}{x y:PV}{a b:Value}{e:Bool}{Q E':Value->Shared->Prop}(q:x.atomEq y=some e)(va:VRep O s.heap x a)(vb:VRep O s.heap y b)(h:Q (.bool e) s):
  wpAny (model prog w) A (compareOp .Eq a b) Q E' s:=by
 unfold PV.atomEq at q
 split at q
 ·cases q
  obtain⟨t,rfl⟩:=jak va;obtain⟨u,rfl⟩:=jak vb
  exact eq_int h
 ·cases q
  obtain⟨t,rfl⟩:=jbQ va;obtain⟨u,rfl⟩:=jbQ vb
  exact eq_str h
 ·cases q
theorem jp0(hu:A.units+1<cLine){x y:PV}{a b:Value}{s:Shared}{Q:Bool->Prop}{Q' E':Value->Shared->Prop}(R:SR prog w cl T.fld U Y O s.heap)
  (va:VRep O s.heap x a) (vb:VRep O s.heap y b) (q:jl6 x y Y Q) (h: ∀e,Q e->Q' (.bool e) s):wpAny (model prog w) A (compareOp .Eq a b) Q' E' s:=by
 unfold jl6 at q
 split at q
 ·obtain⟨_,q⟩:=q
  split at q
  ·rename_i l r xs ys e1 e2
   refine jjG (R.list va e1) fun p vs hp zq0 _ hl r1 _=>?_;subst zq0
   refine jjG (R.list vb e2) fun p' us hp' zq1 _ hl' r2 _=>?_;subst zq1
   split at q
   ·rename_i e he
    unfold jfo at he
    have L1:=r1.length;have L2:=r2.length
    split at he
    ·obtain⟨hl0,zu2⟩:=jc7 (A:=A.in1) (fun q va vb=>jm2 (by show A.units+1<cLine;exact hu) q va vb) he r1 r2;refine jaj zu2 fun e' he' hr=>?_;clear zu2
     refine eq_listAt (e:=e') hl.isList hl'.isList (by simpa using hl0) (o19 hu) (fun j h1 h2=>by simpa using he' j (by simpa using h1) (by simpa using h2)) ?_
     simp only[size_toArray]
     rw[hr];exact h _ q
    ·cases he
     exact eq_list_lengthsAt hl.isList hl'.isList (by simp only[size_toArray,bne_iff_ne];walk_at "o") (o19 hu) (h _ q)
   ·exact q.elim
  ·exact q.elim
 ·split at q
  ·rename_i e he
   unfold PV.flatEq at he
   split at he
   ·refine jaT (jb6 va) fun l vs zq3 g1 r1=>?_;subst zq3
    refine jaT (jb6 vb) fun l' us zq4 g2 r2=>?_;subst zq4
    obtain⟨hl,zu5⟩:=jc7 (A:=A.in1) (fun q va vb=>je4 q va vb) he r1 r2;refine jaj zu5 fun e' he' hr=>?_;clear zu5
    refine eq_tupleAt (e:=e') (jbG g1) (jbG g2) (o19 hu) (fun j h1 h2=>by simpa using he' j (by simpa using h1) (by simpa using h2)) ?_
    simp only[size_toArray,<-hl]
    rw[jdT hr];exact h _ q
   ·exact jpF he va vb (h _ q)
  ·exact q.elim
end
open PySem.SeqAt
section
variable{prog:Program}{w:World}{T:Tb}{cl:Cls->Addr}{fa:Nat->Addr}{K:Frag}{U:Heap}{env:Env}{sc:Scope}{ctx:List (Option Str)}{Z:jao}{Y:AHeap}{O:List Ad}{A:Around}{d:Nat}
theorem jeV{h:Heap}: ∀{xs:List PV} {vs:List Value} {is:List Int},jcR xs=some is->VReps O h xs vs->IntsAre vs is
 | [],_,_,q,va=>by cases q;rw[va.eq_nil];exact .nil
 | x::xs,_,is,q,va=>by
  refine jaT va.uncons fun a vs zq6 a1 a2=>?_;subst zq6
  cases x<;>simp only[jcR,reduceCtorEq]at q
  refine jaj (Option.map_eq_some_iff.mp q) fun js hj zq7=>?_;subst zq7
  obtain⟨t,rfl⟩:=jak a1
  exact .cons _ t (jeV hj a2)
theorem jp1(hu:A.units+64<cLine){x y:PV}{a b:Value}{s:Shared}{Q:Bool->Prop}{Q' E':Value->Shared->Prop}(R:SR prog w cl T.fld U Y O s.heap)
  (va:VRep O s.heap x a) (vb:VRep O s.heap y b) (q:jmx x y Y Q) (h: ∀e,Q e->Q' (.bool e) s):wpAny (model prog w) A (compareOp .NotEq a b) Q' E' s:=by
 unfold jmx at q
 split at q
 ·split at q
  ·rename_i l r xs ys e1 e2
   refine jjG (R.list va e1) fun p vs hp zq8 _ hl r1 _=>?_;subst zq8
   refine jjG (R.list vb e2) fun p' us hp' zq9 _ hl' r2 _=>?_;subst zq9
   split at q
   ·rename_i is js i1 i2
    refine PySem.W.ne_intsK hl.isList (jeV i1 r1) hl'.isList (jeV i2 r2) hu ?_
    rw[<- decide_not];exact h _ q
   ·exact q.elim
  ·exact q.elim
 ·split at q
  ·rename_i e he
   unfold PV.atomEq at he
   split at he
   ·cases he
    obtain⟨t,rfl⟩:=jak va;obtain⟨u,rfl⟩:=jak vb
    refine ne_int ?_
    have:=h _ q
    simpa [bne,Bool.beq_eq_decide_eq]using this
   ·cases he
    obtain⟨t,rfl⟩:=jbQ va;obtain⟨u,rfl⟩:=jbQ vb
    refine ne_str ?_
    have:=h _ q
    simpa [bne,Bool.beq_eq_decide_eq]using this
   ·cases he
  ·exact q.elim
theorem jcB{h:Heap}: ∀{es:List (Int×PV)} {kvs:List (Int×Value)} (k:Int),kvs.map (·.1)=es.map (·.1)->VReps O h (es.map (·.2)) (kvs.map (·.2))->
  (match jbu es k with | some x=>∃v,valueAt kvs k=some v/\VRep O h x v | Option.none=>valueAt kvs k=Option.none)
 | [],[],k,_,_=>by simp[jbu,valueAt]
 | (i,x)::es,(j,v)::kvs,k,e,r=>by
  simp only[map_cons,List.cons.injEq]at e
  obtain⟨e1,e2⟩:=e
  refine jaT r.uncons fun u us e3 r1 r2=>?_
  simp only[map_cons,List.cons.injEq]at e3
  obtain⟨rfl,rfl⟩:=e3
  have ih:=jcB k e2 r2
  subst e1
  by_cases hk:j=k
  ·subst hk
   have e1:jbu ((j,x)::es) j=some x:=by simp[jbu]
   have e2:valueAt ((j,v)::kvs) j=some v:=by simp[valueAt]
   rw[e1,e2]
   exact⟨v,rfl,r1⟩
  ·have e1:jbu ((j,x)::es) k=jbu es k:=by simp[jbu,hk]
   have e2:valueAt ((j,v)::kvs) k=valueAt kvs k:=by simp[valueAt,hk]
   rw[e1,e2]
   exact ih
 | [],_::_,_,e,_=>by simp at e
 | _::_,[],_,e,_=>by simp at e
theorem jgj{h:Heap}{es:List (Int×PV)}{kvs:List (Int×Value)}(k:Int)(e:kvs.map (·.1)=es.map (·.1))(r:VReps O h (es.map (·.2)) (kvs.map (·.2))):(valueAt kvs k).isSome=(jbu es k).isSome:=by
 have:=jcB k e r
 cases hl:jbu es k with
 | none=>rw[hl]at this;rw[this];rfl
 | some x=>rw[hl]at this;refine jaj this fun v e _=>?_;clear this;rw[e];rfl
theorem jla{k:Int}: ∀{vs:List Value} {is:List Int},IntsAre vs is->(vs.any fun v=>match v with | .int i _=>i==k | _=>false)=is.contains k
 | _,_,.nil=>rfl
 | _,_,.cons n t r=>by
  rw[List.any_cons,List.contains_cons,jla r]
  congr 1
  exact Bool.beq_comm
theorem jll(G:Gl T cl fa K U)(R:SR prog w cl T.fld U Y O aQ){l:Nat}{p:Ad}{o:PObj}(hp:O[l]? =some p)(ho:Y.objs[l]? =some o)(hf:o.isFrozen=false:=by rfl):(p.1==sysModules)=false:=by
 have:=(R.above _ _ _ hp ho hf).1
 cases e:p.1==sysModules with
 | false=>rfl
 | true=>
  have e:=beq_iff_eq.mp e
  rw[e]at this
  have s:=G.stat
  rw[this]at s;cases s
theorem jno(G:Gl T cl fa K U){x y:PV}{a b:Value}{s:Shared}{Q:Bool->Prop}{Q' E':Value->Shared->Prop}(R:SR prog w cl T.fld U Y O s.heap)
  (va:VRep O s.heap x a) (vb:VRep O s.heap y b) (q:jqQ x y Y Q) (n:Bool) (h: ∀e tk,Q e->Q' (.bool (n ^^ e)) {s with toks:=tk}):wpAny (model prog w) A (compareOp (if n then .NotIn else .In) a b) Q' E' s:=by
 obtain⟨k,rfl,q⟩:=jeL q
 obtain⟨l,rfl,q⟩:=jcG q
 obtain⟨t,rfl⟩:=jak va
 refine(jox q).symm.elim (fun q=>?_) fun q=>?_
 ·refine jaj q fun es e1 q=>?_
  refine jqS (R.dict vb e1) fun p kvs hp zq0 _ hd k1 r1 _=>?_;subst zq0
  have hs:=jll G R hp e1
  have hv:=jgj k k1 r1
  cases n with
  | true=>
   refine wpAny_notIn_of (intKind_is prog w k t) hs hd.mapOf ?_
   rw[hv]
   simpa using h _ _ q
  | false=>
   refine wpAny_in_of (intKind_is prog w k t) hs hd.mapOf ?_
   rw[hv]
   simpa using h _ _ q
 ·refine jaj q fun xs e1 q=>?_
  refine jjG (R.list vb e1) fun p vs hp zq1 _ hl r1 _=>?_;subst zq1
  refine jaj (jkv q) fun is hi q=>?_
  have IA:=jeV hi r1
  have he: ∀y,y∈vs.toArray->EqAt A.in1 s y (.int k t) ((fun v=>match v with | .int i _=>i==k | _=>false) y):=fun y hy=>by
   replace hy:y∈vs:=by simpa using hy
   have: ∃i u,y= .int i u:=by
    clear q h hl r1 hi
    induction IA with
    | nil=>cases hy
    | cons n t r ih=>
     rcases mem_cons.mp hy with rfl | hy
     ·exact⟨n,t,rfl⟩
     ·exact ih hy
   refine jqR this fun i u zq2=>?_;clear this;subst zq2
   exact EqAt.int_int i u k t
  have ha:vs.toArray.any (fun v=>match v with | .int i _=>i==k | _=>false)=is.contains k:=by rw[<- jla IA];simp
  cases n with
  | true=>
   refine notIn_listAt _ hl.isList he ?_
   rw[ha];simpa using h _ s.toks q
  | false=>
   refine in_listAt _ hl.isList he ?_
   rw[ha];simpa using h _ s.toks q
theorem jgx{h:Heap}{x:PV}{a:Value}(va:VRep O h x a):(a==Value.none)=x.isNone:=by
 cases x with
 | none=>rw[jdU va];rfl
 | bool b=>rw[jcv va];rfl
 | int i=>obtain⟨t,rfl⟩:=jak va;rfl
 | str s=>obtain⟨t,rfl⟩:=jbQ va;rfl
 | tup xs=>refine jdp (jb6 va) fun _ _ zq3 _=>?_;subst zq3;rfl
 | ref l=>simp only[VRep]at va;refine jaj va fun p _ zq4=>?_;clear va;subst zq4;rfl
theorem ji9(G:Gl T cl fa K U)(hu:A.units+64<cLine){op:Cop}{op':CmpOp}(ho:op.is' op'=true){x y:PV}{a b:Value}{s:Shared}{Q:PV->Prop}(R:SR prog w cl T.fld U Y O s.heap)
  (va:VRep O s.heap x a) (vb:VRep O s.heap y b) (q:jl4 op x y Y Q):wpAny (model prog w) A (compareOp op' a b) (Post prog w T cl U No O s fun v Y'=>Q v/\Y'=Y) NoE s:=by
 have e:=of_decide_eq_true ho;subst e
 cases op
 ·exact jp0 (jvj hu) R va vb q fun e z=>Post.same R ja7 ⟨z,rfl⟩
 ·exact jp1 (Q:=fun e=>Q (.bool e)) hu R va vb q fun e z=>Post.same R ja7 ⟨z,rfl⟩
 ·refine jaT (jcD q) fun x y ex ey q=>?_;subst ex;subst ey
  obtain⟨t,rfl⟩:=jak va;obtain⟨u,rfl⟩:=jak vb
  exact lt_int (Post.same R ja7 ⟨q,rfl⟩)
 ·refine jaT (jcD q) fun x y ex ey q=>?_;subst ex;subst ey
  obtain⟨t,rfl⟩:=jak va;obtain⟨u,rfl⟩:=jak vb
  exact le_int (Post.same R ja7 ⟨q,rfl⟩)
 ·refine jaT (jcD q) fun x y ex ey q=>?_;subst ex;subst ey
  obtain⟨t,rfl⟩:=jak va;obtain⟨u,rfl⟩:=jak vb
  exact gt_int (Post.same R ja7 ⟨q,rfl⟩)
 ·refine jaT (jcD q) fun x y ex ey q=>?_;subst ex;subst ey
  obtain⟨t,rfl⟩:=jak va;obtain⟨u,rfl⟩:=jak vb
  exact ge_int (Post.same R ja7 ⟨q,rfl⟩)
 ·exact jno (Q:=fun e=>Q (.bool e)) G R va vb q false fun e tk z=>Post.same R (by simpa using ja7) ⟨z,rfl⟩
 ·exact jno (Q:=fun e=>Q (.bool !e)) G R va vb q true fun e tk z=>Post.same R (by simpa using ja7) ⟨z,rfl⟩
 ·obtain⟨rfl,q⟩:=jc4 q
  have:=jdU vb;subst this
  refine is_none ?_
  rw[jgx va];exact Post.same R ja7 ⟨q,rfl⟩
 ·obtain⟨rfl,q⟩:=jc4 q
  have:=jdU vb;subst this
  refine isNot_none ?_
  rw[jgx va];exact Post.same R ja7 ⟨q,rfl⟩
end
open PySem.SeqAt
section
variable{prog:Program}{w:World}{T:Tb}{cl:Cls->Addr}{fa:Nat->Addr}{K:Frag}{U:Heap}{env:Env}{sc:Scope}{ctx:List (Option Str)}{Z:jao}{Y:AHeap}{O:List Ad}{A:Around}{d:Nat}
noncomputable def jgE(slice:PySem.Expr):Prop:=∀o i,subscripted slice false o i=operate [o,i] (getItem o i)
theorem jk7{k:Int}{n:Nat}(h0:0<=k)(h:k.toNat<n)(hn:n<=sizeLine+5):k<2 ^ 63:=by rw[sizeLine_eq]at hn;exact jvk h0 h hn
theorem jcS{ah:Type}{l:List ah}{i:Nat}{x:ah}(e:l[i]? =some x):i<l.length:=(List.getElem?_eq_some_iff.mp e).1
theorem jl7(G:Gl T cl fa K U){value slice:PySem.Expr}(hs:jgE slice){x y:PV}{a b:Value}{s:Shared}{Q:PV->Prop}(R:SR prog w cl T.fld U Y O s.heap)
  (va:VRep O s.heap x a) (vb:VRep O s.heap y b) (q:jgD x y Y Q):wpAny (model prog w) A (subscriptTail value slice a b) (Post prog w T cl U No O s fun v Y'=>Q v/\Y'=Y) NoE s:=by
 obtain⟨k,rfl,q⟩:=jeL q
 obtain⟨t,rfl⟩:=jak vb
 rcases jnl q with ⟨l,rfl,q⟩ | ⟨xs,rfl,q⟩
 ·rcases jox q with ⟨xs,e1,q0,q⟩ | ⟨es,e1,q⟩
  ·skip
   refine jjG (R.list va e1) fun p vs hp zq5 _ hl r1 z=>?_;subst zq5
   ·refine jaj (jkv q) fun z' hz q=>?_
    refine jaj (r1.get hz) fun v hv rv=>?_
    refine tail_any hl.isList.typeIs slot_list_getitem.lookup (wpAny_getItem_list hl.isList q0 (jk7 q0 (jcS hz) (o91 z)) (by simpa using hv) ?_) (hs _ _)
    exact Post.same R rv ⟨q,rfl⟩
  ·skip
   refine jqS (R.dict va e1) fun p kvs hp zq6 _ hd k1 r1 _=>?_;subst zq6
   ·refine jaj (jkv q) fun z' hz q=>?_
    have:=jcB k k1 r1
    rw[hz]at this
    refine jaj this fun v hv rv=>?_;clear this
    refine tail_any hd.mapOf.typeIs slot_dict_getitem.lookup (wpAny_getItem_of (intKind_is prog w k t) hd.mapOf hv ?_) (hs _ _)
    exact Post.same R rv ⟨q,rfl⟩
 ·revert q;intro zo7;refine jdo zo7 fun q0 q1 q=>?_;clear zo7
  refine jaT (jb6 va) fun l vs zq8 g1 r1=>?_;subst zq8
  ·refine jaj (jkv q) fun z' hz q=>?_
   refine jaj (r1.get hz) fun v hv rv=>?_
   refine item_tupleT (l:=vs) (j:=k.toNat) ⟨_,g1,rfl,0,rfl⟩ (jvl q0) (jvm q1) ?_ hv ?_ (hs _ _)
   ·have:=jcS hv
    have e1: ¬k<0:=by exact o42 q0
    have e2:(0<=k)=True:=eq_true q0
    have e3:(k<(vs.length:Int))=True:=eq_true (jvn q0 this)
    simp[seqIndex?,e1,e2,e3]
   ·exact Post.same R rv ⟨q,rfl⟩
theorem jfK{prog:Program}{w:World}{A:Around}{E:Value->Shared->Prop}{s:Shared}{sl:Addr}{a n:Nat}{u:Tok}{Q:Int×Int×Nat->Shared->Prop}(hs:s.heap.IsSliceOf sl .none (.int a u) .none)(ha:a<=n)(h:Q (0,1,a) s):
  wpAny (model prog w) A (Builtin.Slice.sliceApplied (.ref sl) (pure (n:Int))) Q E s:=by
 refine jcs (id hs) fun os hos hcs hds=>?_
 unfold Builtin.Slice.sliceApplied Builtin.Slice.sliceFields
 refine wpAny_bind (wpAny_bind (wpAny_field hos hds (x:=.none) rfl (wpAny_bind (wpAny_field hos hds (x:=.int a u) rfl (wpAny_bind (wpAny_field hos hds (x:=.none) rfl (wpAny_pure ?_)))))))
 refine wpAny_bind (slicePart_none ?_)
 show wpAny _ _ (if ((1:Int)==0)=true then _ else _) _ _ s
 rw[if_neg (by decide)]
 refine wpAny_bind (slicePart_none (wpAny_bind (slicePart_int (wpAny_bind (wpAny_pure ?_)))))
 show wpAny _ _ (match Builtin.Slice.sliceAdjust none (some (a:Int)) 1 (n:Int)with | (lo,hi)=>pure (lo,(1:Int),Builtin.Slice.slicePlaces lo hi 1)) _ _ s
 have e:Builtin.Slice.sliceAdjust none (some (a:Int)) 1 (n:Int)=(0,(a:Int)):=by
  unfold Builtin.Slice.sliceAdjust
  have h1: ¬((1:Int)<0):=by exact jvo
  have h2: ¬((a:Int)<0):=by exact jvp
  simp only[h1,h2,if_false]
  congr 1
  exact jvq ha
 rw[e]
 show wpAny _ _ (pure (0,(1:Int),Builtin.Slice.slicePlaces 0 (a:Int) 1)) _ _ s
 have e2:Builtin.Slice.slicePlaces 0 (a:Int) 1=a:=by
  unfold Builtin.Slice.slicePlaces
  have h1:(1:Int)>0:=by exact jvr
  simp only[h1,if_true,Int.ediv_one]
  split<;>walk_at "o"
 rw[e2]
 exact wpAny_pure h
theorem jeK{prog:Program}{w:World}{A:Around}{E:Value->Shared->Prop}{s:Shared}{t sl:Addr}{vs:List Value}{a:Nat}{u:Tok}{Q:Value->Shared->Prop}(ht:PyProof.Rows.IsTup s.heap t vs.toArray)(hs:s.heap.IsSliceOf sl .none (.int a u) .none)(ha:a<vs.length)
  (h:Q (.ref s.heap.objs.size) {s with heap:=s.heap.push (jdZ (vs.take a))})
  (hsz:vs.length<=sizeLine):wpAny (model prog w) A (getItem (.ref t) (.ref sl)) Q E s:=by
 have hdrop:sizeOk (.seq (vs.take a).toArray):=by
  show(vs.take a).toArray.size<=sizeLine
  rw[size_toArray,length_take]
  exact jvs ha hsz
 refine jcs (id hs) fun os hos hcs hds=>?_
 have hTs:s.TypeIs (.ref sl) "slice":=⟨os,hos,hcs⟩
 unfold getItem
 try with_reducible refine wpAny_holding ?_
 first | refine wpAny_bind (wpAny_pure ?_) | skip
 refine wpAny_bind (wpAny_sequenceKey ht.typeIs (by decide) ?_)
 refine wpAny_bind (wpAny_callSpecial?_slot (name:=Str.ofString "__getitem__") ht.typeIs slot_tuple_getitem
  (wpAny_call_entry slot_tuple_getitem ht.typeIs entry_tuple_getitem ?_ (args_tuple_getitem _ _)))
 show wpAny _ _ (Builtin.Tuple.tupleItemsOf (.ref t) >>= _) _ _ s
 refine wpAny_bind (tupleItemsOf_ ht ?_)
 refine wpAny_bind (wpAny_typeOf hTs ?_)
 rw[if_pos (by decide)]
 refine wpAny_bind (jfK (n:=vs.toArray.size) hs (by simp;exact o43 ha) ?_)
 have hno: ¬(((0:Int)==0&&(1:Int)==1&&a==vs.toArray.size)=true):=by
  have:(a==vs.toArray.size)=false:=by rw[beq_eq_false_iff_ne];simp;exact o29 ha
  rw[this];simp
 show wpAny _ _ (if ((0:Int)==0&&(1:Int)==1&&a==vs.toArray.size)=true then _ else _) _ _ s
 rw[if_neg hno]
 have pick:((List.range a).filterMap fun(k:Nat)=>vs.toArray[((0:Int)+(k:Int)*1).toNat]?).toArray=(vs.take a).toArray:=by
  have e:(fun (k:Nat)=>vs.toArray[((0:Int)+(k:Int)*1).toNat]?)=fun k=>vs[k]? :=by
   funext k
   have:((0:Int)+(k:Int)*1).toNat=k:=by exact jvt
   rw[this];simp
  rw[e]
  congr 1
  clear hno hdrop h hs ht hds
  induction a with
  | zero=>simp
  | succ n ih=>
   rw[List.range_succ,List.filterMap_append,ih (o19 ha),take_add_one]
   simp[getElem?_eq_getElem (show n<vs.length by exact o19 ha)]
 rw[pick]
 first
  | exact wpAny_bind (m:=Builtin.Tuple.tupleExact _) (wpAny_newObj_type (wpAny_pure ⟨_,rfl,wpAny_pure h⟩) hdrop)
  | exact wpAny_bind (m:=Builtin.Tuple.tupleExact _) (wpAny_newObj_type (wpAny_bind (wpAny_pure (wpAny_pure ⟨_,rfl,wpAny_pure h⟩))) hdrop)
  | exact wpAny_bind (wpAny_bind (m:=Builtin.Tuple.tupleExact _) (wpAny_newObj_type (wpAny_pure (wpAny_pure ⟨_,rfl,wpAny_pure h⟩)) hdrop))
  | exact wpAny_bind (wpAny_bind (m:=Builtin.Tuple.tupleExact _) (wpAny_newObj_type (wpAny_pure ⟨_,rfl,wpAny_pure h⟩) hdrop))
theorem jdW{k:Int}{t:Tok}(h:0<=k):IsPart (.int k t) (some ((k.toNat:Nat):Int)):=by
 have:((k.toNat:Nat):Int)=k:=Int.toNat_of_nonneg h
 rw[this];exact .int k t
theorem jho(G:Gl T cl fa K U){value:PySem.Expr}{l u:Option PySem.Expr}{p:Pos}{x y:PV}{a b:Value}{s:Shared}{Q:PV->AHeap->Prop}(R:SR prog w cl T.fld U Y O s.heap)
  (va:VRep O s.heap x a) (vb:VRep O s.heap y b) (q:jcl x y Y Q) {so:Addr} (hso:s.heap.IsSliceOf so .none b .none):
  wpAny (model prog w) A (subscriptTail value (.Slice l u none p) a (.ref so)) (Post prog w T cl U No O s Q) NoE s:=by
 obtain⟨k,rfl,q⟩:=jeL q
 obtain⟨t,rfl⟩:=jak vb
 rcases jnl q with ⟨l',rfl,q⟩ | ⟨xs,rfl,q⟩
 ·have lst: ∀(a:Addr) (xs:List PV) (vs:List Value),s.heap.IsList a vs.toArray->VReps O s.heap xs vs->0<=k->xs.length<=sizeLine->Q (.ref Y.sz) (Y.alloc (.list (xs.take k.toNat)))->
    wpAny (model prog w) A (subscriptTail value (.Slice l u none p) (.ref a) (.ref so)) (Post prog w T cl U No O s Q) NoE s:=fun a xs vs hl r1 q0 q1 q=>by
   have hv:=r1.length
   refine tail_any hl.typeIs slot_list_getitem.lookup (wpAny_getItem_list_slice hl hso .none (jdW q0) .none (by simp) ?_ (by simp;exact o20 q1 hv)) (ops:=[.ref so,.ref a]) rfl
   rw[slicePick_upto']
   refine Post.list (xs:=xs.take k.toNat) (vs:=vs.take k.toNat) R (r1.take _) ?_ q
   simp only[length_take];exact jvu q q1
  rcases jsR q with ⟨xs,e1,q⟩ | ⟨xs,e1,q⟩
  ·revert q;intro zo9;refine jjF zo9 fun q0 _ q1 q=>?_;clear zo9
   refine jjG (R.list va e1) fun p' vs hp zq0 _ hl r1 z=>?_;subst zq0
   exact lst _ _ _ hl.isList r1 q0 q1 q
  ·revert q;intro zo1;refine jjF zo1 fun q0 _ q1 q=>?_;clear zo1
   simp only[VRep]at va
   refine jaj va fun p' hp zq2=>?_;clear va;subst zq2
   obtain⟨_,zu3⟩:=R.obj _ p' _ hp e1;refine jaj zu3 fun vs hl r1=>?_;clear zu3
   exact lst _ _ _ hl r1 q0 q1 q
 ·revert q;intro zo4;refine jjF zo4 fun q0 q1 q2 q=>?_;clear zo4
  refine jaT (jb6 va) fun l' vs zq5 g1 r1=>?_;subst zq5
  have hv:=r1.length
  have hk:((k.toNat:Nat):Int)=k:=Int.toNat_of_nonneg q0
  have hso':s.heap.IsSliceOf so .none (.int ((k.toNat:Nat):Int) t) .none:=by rw[hk];exact hso
  have ht:PyProof.Rows.IsTup s.heap l' vs.toArray:=⟨_,g1,rfl,0,rfl⟩
  refine tail_any ht.typeIs slot_tuple_getitem.lookup (jeK ht hso' (jvv q1 hv hk) ?_ (o20 q2 hv)) (ops:=[.ref so,.ref l']) rfl
  refine Post.grow R (fun b o e=>jax _ _ _ _ e) ?_ q
  simp only[VRep]
  exact⟨_,_,rfl,Heap.get?_push_size _ rfl,(r1.take _).mono (prefix_refl _) fun a vs e=>jax _ _ _ _ e⟩
theorem jfu(G:Gl T cl fa K U){value:PySem.Expr}{l u:Option PySem.Expr}{p:Pos}{x y:PV}{a b:Value}{s:Shared}{Q:PV->AHeap->Prop}(R:SR prog w cl T.fld U Y O s.heap)
  (va:VRep O s.heap x a) (vb:VRep O s.heap y b) (q:jbD x y Y Q) {so:Addr} (hso:s.heap.IsSliceOf so b .none .none):
  wpAny (model prog w) A (subscriptTail value (.Slice l u none p) a (.ref so)) (Post prog w T cl U No O s Q) NoE s:=by
 obtain⟨k,rfl,q⟩:=jeL q
 obtain⟨l',rfl,q⟩:=jcG q
 obtain⟨xs,e1,q⟩:=jo9 q
 obtain⟨t,rfl⟩:=jak vb
 ··revert q;intro zo6;refine jjF zo6 fun q0 _ q1 q=>?_;clear zo6
   refine jjG (R.list va e1) fun p' vs hp zq7 _ hl r1 z=>?_;subst zq7
   have hv:=r1.length
   refine tail_any hl.isList.typeIs slot_list_getitem.lookup (wpAny_getItem_list_slice hl.isList hso (jdW q0) .none .none (by simp) ?_ (by simp;exact o20 q1 hv)) (ops:=[.ref so,.ref p'.1]) rfl
   rw[slicePick_from']
   refine Post.list (xs:=xs.drop k.toNat) (vs:=vs.drop k.toNat) R (r1.drop _) ?_ q
   simp only[List.length_drop];exact jvw q1
end
open PySem.SeqAt
section
variable{prog:Program}{w:World}{T:Tb}{cl:Cls->Addr}{fa:Nat->Addr}{K:Frag}{U:Heap}{env:Env}{sc:Scope}{ctx:List (Option Str)}{Z:jao}{Y:AHeap}{O:List Ad}{A:Around}{d:Nat}
theorem jev(its:Array Value)(n:Nat)(g:Array Value->Array Value): ∃n',Obj.mapSeq g {cls:=.type "list",data:=.seq its n}={cls:=.type "list",data:=.seq (g its) n'}:=by
 simp only[Obj.mapSeq]
 exact⟨_,rfl⟩
theorem jhw{l:Addr}{vs:List Value}{k:Int}{t:Tok}{v:Value}{s:Shared}{E:Value->Shared->Prop}{Q:Unit->Shared->Prop}(hl:s.heap.PlainList l vs.toArray)
  (h0:0<=k) (hfit:k<2 ^ 63) (hn:k<vs.length)
  (hQ: ∀h',h'.PlainList l (vs.set k.toNat v).toArray->Heap.SameBut l s.heap h'->Q () {s with heap:=h'}):
  wpAny (model prog w) A (setItem (.ref l) (.int k t) v) Q E s:=by
 obtain⟨n,ho⟩:=hl
 have hl:s.heap.IsList l vs.toArray:=⟨_,ho,rfl,n,rfl⟩
 unfold setItem
 try with_reducible refine wpAny_holding ?_
 first | refine wpAny_bind (wpAny_pure ?_) | skip
 refine wpAny_bind (wpAny_sequenceKey hl.typeIs (by decide) ?_)
 refine wpAny_bind (wpAny_callSpecial?_slot (name:=Str.ofString "__setitem__") hl.typeIs slot_list_setitem
  (wpAny_call_entry slot_list_setitem hl.typeIs entry_list_setitem ?_ (args_list_setitem _ _ _)))
 show wpAny _ _ (Builtin.List.listSubscript? (.int k t) >>= _) _ _ s
 refine wpAny_bind (wpAny_listSubscript_int (fitsIndex_of h0 hfit) ?_)
 clear hfit
 obtain⟨j,rfl⟩:=Int.eq_ofNat_of_zero_le h0
 have hj:j<vs.toArray.size:=by simp;exact jvx hn
 have hx':vs.toArray[j]? =some vs.toArray[j]:=Array.getElem?_eq_getElem hj
 show wpAny _ _ ((seqItemAt l j >>= fun r=>pure (r.map (j,·))) >>= _) _ _ s
 refine wpAny_bind (wpAny_bind (wpAny_seqItemAt ho rfl (wpAny_pure ?_)))
 rw[hx']
 show wpAny _ _ (setSeqItemAt l j v >>= _) _ _ s
 have hfin:(s.heap.update l (Obj.mapSeq (·.setIfInBounds j v))).PlainList l (vs.set j v).toArray:=by
  obtain⟨n',e⟩:=jev vs.toArray n (·.setIfInBounds j v)
  have:=Heap.get?_update_self (Obj.mapSeq (·.setIfInBounds j v)) ho (by rw[e];rfl)
  rw[e]at this
  exact⟨n',by rw[this];simp⟩
 refine wpAny_bind (wpAny_setSeqItemAt ho rfl ?_)
 first
  | exact wpAny_bind (wpAny_pure (wpAny_pure ⟨.none,rfl,wpAny_pure (hQ _ hfin (Heap.SameBut.update ..))⟩))
  | exact wpAny_pure ⟨.none,rfl,wpAny_pure (hQ _ hfin (Heap.SameBut.update ..))⟩
theorem jgG{a b:Addr}{h h':Heap}(x:Heap.SameBut a h h'):Kp (fun c=>c=a\/c=b) h h':=fun c o e n=>(x.2 c fun q=>n (.inl q)).trans e
theorem jkF{a b:Addr}{h h':Heap}(x:Heap.SameBut b h h'):Kp (fun c=>c=a\/c=b) h h':=fun c o e n=>(x.2 c fun q=>n (.inr q)).trans e
variable(prog w T cl U) in
noncomputable def PostU(P:Addr->Prop)(O:List Ad)(s:Shared)(Q:AHeap->Prop)(s':Shared):Prop:=
 ∃Y' O',Q Y'/\SR prog w cl T.fld U Y' O' s'.heap/\Stp P O s O' s'
theorem PostU.putList{P:Addr->Prop}{s s':Shared}{l:Nat}{p:Ad}{Q:AHeap->Prop}{xs xs':List PV}{vs':List Value}(R:SR prog w cl T.fld U Y O s.heap)(hp:O[l]? =some p)(e:Y.get l=some (.list xs))(e2:p.2=p.1)
  (hl:s'.heap.PlainList p.1 vs'.toArray) (hs:Heap.SameBut p.1 s.heap s'.heap) (r:VReps O s.heap xs' vs') (z:xs'.length<=sizeLine) (q:Q (Y.set l (.list xs'))) (h1:s'.os=s.os:=by rfl) (h2:s'.gens=s.gens:=by rfl):
  PostU prog w T cl U P O s Q s':=by
 have k:Kp (fun c=>c=p.1\/c=p.2) s.heap s'.heap:=jgG hs
 refine⟨_,O,q,R.put hp e rfl k (fun ht=>⟨e2,vs',hl,r.mono (prefix_refl _) ht,z⟩) rfl,Stp.put R hp rfl k (fun a q=>?_) h1 h2⟩
 have:a=p.1:=by rcases q with q | q<;>simp_all
 subst this
 obtain⟨n,hn⟩:=hl
 exact⟨_,hn⟩
theorem joc{es:List (Int×PV)}{kvs:List (Int×Value)}(k:Int)(e:kvs.map (·.1)=es.map (·.1)):(es.any fun p=>decide (p.1=k))=kvs.any fun p=>decide (p.1=k):=by
 have h1:(es.any fun p=>decide (p.1=k))=(es.map (·.1)).any fun i=>decide (i=k):=by rw[List.any_map];rfl
 have h2:(kvs.any fun p=>decide (p.1=k))=(kvs.map (·.1)).any fun i=>decide (i=k):=by rw[List.any_map];rfl
 rw[h1,h2,e]
theorem jlo{h:Heap}{k:Int}{x:PV}{v:Value}(rv:VRep O h x v): ∀{es:List (Int×PV)} {kvs:List (Int×Value)},kvs.map (·.1)=es.map (·.1)->VReps O h (es.map (·.2)) (kvs.map (·.2))->
  (kvs.map fun p=>if p.1=k then(p.1,v)else p).map (·.1)=(es.map fun p=>if p.1=k then(p.1,x)else p).map (·.1)/\
  VReps O h ((es.map fun p=>if p.1=k then(p.1,x)else p).map (·.2)) ((kvs.map fun p=>if p.1=k then(p.1,v)else p).map (·.2))
 | [],[],_,_=>⟨rfl,VReps.nil⟩
 | (i,y)::es,(j,u)::kvs,e,r=>by
  simp only[map_cons,List.cons.injEq]at e
  obtain⟨rfl,e2⟩:=e
  refine jaT r.uncons fun u' us e3 r1 r2=>?_
  simp only[map_cons,List.cons.injEq]at e3
  obtain⟨rfl,rfl⟩:=e3
  obtain⟨a,b⟩:=jlo rv e2 r2
  by_cases hk:j=k
  ·simp only[map_cons,hk,if_true]
   exact⟨by rw[a],VReps.cons rv b⟩
  ·simp only[map_cons,hk,if_false]
   exact⟨by rw[a],VReps.cons r1 b⟩
 | [],_::_,e,_=>by simp at e
 | _::_,[],e,_=>by simp at e
theorem jmm{h:Heap}{k:Int}{x:PV}{v:Value}(rv:VRep O h x v){es:List (Int×PV)}{kvs:List (Int×Value)}(e:kvs.map (·.1)=es.map (·.1))(r:VReps O h (es.map (·.2)) (kvs.map (·.2))):
  (stored kvs k v).map (·.1)=(jhO es k x).map (·.1)/\VReps O h ((jhO es k x).map (·.2)) ((stored kvs k v).map (·.2)):=by
 unfold stored jhO
 rw[joc k e]
 split
 ·exact jlo rv e r
 ·simp only[map_append,map_cons,map_nil]
  exact⟨by rw[e],r.append (VReps.one rv)⟩
theorem jky(es:List (Int×PV))(k:Int)(v:PV):(jhO es k v).length<=es.length+1:=by
 unfold jhO
 split<;>simp
theorem jhn(G:Gl T cl fa K U){x y z:PV}{a b c:Value}{s:Shared}{Q:AHeap->Prop}(R:SR prog w cl T.fld U Y O s.heap)
  (va:VRep O s.heap x a) (vb:VRep O s.heap y b) (vc:VRep O s.heap z c) (q:jck x y z Y Q):wpAny (model prog w) A (setItem a b c) (fun _ s'=>PostU prog w T cl U No O s Q s') NoE s:=by
 obtain⟨k,rfl,q⟩:=jeL q
 obtain⟨l,rfl,q⟩:=jcG q
 obtain⟨t,rfl⟩:=jak vb
 ·rcases jox q with ⟨xs,e1,q⟩ | ⟨es,e1,q0,q⟩
  ·revert q;intro zo8;refine jdo zo8 fun q0 q1 q=>?_;clear zo8
   refine jjG (R.list va e1) fun p vs hp zq9 e2 hl r1 zz=>?_;subst zq9
   have hv:=r1.length
   refine jhw hl q0 (jk7 q0 (n:=xs.length) (jvy q0 q1) (o91 zz)) (jvz q1 hv) fun h' hl' hs=>?_
   exact PostU.putList R hp e1 e2 hl' hs (r1.set vc) (by simpa using zz) q
  ·skip
   refine jqS (R.dict va e1) fun p kvs hp zq0 e2 hd k1 r1 zz=>?_;subst zq0
   have hlen:kvs.length=es.length:=by have:=congrArg length k1;simpa using this
   refine wpAny_setItem_pairs (intKind_is prog w k t) hd (fun h' hd' hs=>?_) (o92 q0 hlen)
   have kk:Kp (fun c=>c=p.1\/c=p.2) s.heap h':=jgG hs
   obtain⟨s1,s2⟩:=jmm (k:=k) vc k1 r1
   refine⟨_,O,q,R.put hp e1 rfl kk (fun ht=>⟨e2,_,hd',s1,s2.mono (prefix_refl _) ht,?_⟩) rfl,Stp.put R hp rfl kk (fun a q=>?_)⟩
   ·have:=jky es k z
    exact jvA q0 zz this
   ·have:a=p.1:=by rcases q with q | q<;>simp_all
    subst this
    refine jaj (jgp hd') fun o ho _=>?_
    exact⟨o,ho⟩
theorem jnp(G:Gl T cl fa K U){x:PV}{a:Value}{s:Shared}{Q:PV->Prop}(R:SR prog w cl T.fld U Y O s.heap)(va:VRep O s.heap x a)(q:jl8 x Y Q):
  wpAny (model prog w) A (call (.builtin "len") [a]) (Post prog w T cl U No O s fun v Y'=>Q v/\Y'=Y) NoE s:=by
 rcases jnl q with ⟨l,rfl,q⟩ | ⟨xs,rfl,q0,q⟩
 ·rcases jox q with ⟨xs,e1,q0,q⟩ | ⟨es,e1,q⟩
  ·skip
   refine jjG (R.list va e1) fun p vs hp zq1 e2 hl r1 zz=>?_;subst zq1
   have hv:=r1.length
   refine Calls.call_len_list hl.isList (by simp[sizeLine_eq]at *;exact o61 hv q0) ?_
   simp only[size_toArray,hv]
   exact Post.same R ja3 ⟨q,rfl⟩
  ·skip
   refine jqS (R.dict va e1) fun p kvs hp zq2 e2 hd k1 r1 zz=>?_;subst zq2
   have hlen:kvs.length=es.length:=by have:=congrArg length k1;simpa using this
   refine call_len_dict (jll G R hp e1) hd (by simp[sizeLine_eq]at *;exact o61 hlen zz) ?_
   rw[hlen]
   exact Post.same R ja3 ⟨q,rfl⟩
 ·skip
  refine jaT (jb6 va) fun l vs zq3 g1 r1=>?_;subst zq3
  have hv:=r1.length
  refine len_tuple (items:=vs.toArray) ⟨_,g1,rfl,0,rfl⟩ (by simp[sizeLine_eq]at *;exact o61 hv q0) ?_
  simp only[size_toArray,hv]
  exact Post.same R ja3 ⟨q,rfl⟩
theorem jns(G:Gl T cl fa K U){x:PV}{a:Value}{s:Shared}{Q:PV->Prop}(R:SR prog w cl T.fld U Y O s.heap)(va:VRep O s.heap x a)(q:jmc x Q):
  wpAny (model prog w) A (call (.type "str") [a]) (Post prog w T cl U No O s fun v Y'=>Q v/\Y'=Y) NoE s:=by
 obtain⟨i,rfl,q⟩:=jeL q
 ·revert q;intro zo4;refine jdo zo4 fun q0 q1 q=>?_;clear zo4
  obtain⟨t,rfl⟩:=jak va
  refine str_of_int_fit (N:=1000000000) (by split<;>walk_at "o") (by decide) fun _=>?_
  exact Post.same R jkH ⟨q,rfl⟩
theorem jkx(G:Gl T cl fa K U){x:PV}{a:Value}{s:Shared}{Q:PV->Prop}(R:SR prog w cl T.fld U Y O s.heap)(va:VRep O s.heap x a)(q:jeg x Y Q):
  wpAny (model prog w) A (call (.type "tuple") [a]) (Post prog w T cl U No O s fun v Y'=>Q v/\Y'=Y) NoE s:=by
 obtain⟨l,rfl,q⟩:=jcG q
 ·obtain⟨xs,e1,q0,q⟩:=jo9 q
  ·skip
   refine jjG (R.list va e1) fun p vs hp zq5 e2 hl r1 zz=>?_;subst zq5
   have hv:=r1.length
   refine call_tuple_list hl.isList (fun h' hk=>?_) (by simp;exact o20 q0 hv)
   refine Post.grow R (fun b o e=>jax _ _ _ _ (hk b o e)) ?_ ⟨q,rfl⟩
   simp only[VRep]
   exact⟨_,vs,rfl,Heap.get?_push_size _ rfl,r1.mono (prefix_refl _) fun a vs e=>jax _ _ _ _ (hk _ _ e)⟩
theorem jex(G:Gl T cl fa K U){x y:PV}{a b:Value}{s:Shared}{Q:AHeap->Prop}(R:SR prog w cl T.fld U Y O s.heap)
  (va:VRep O s.heap x a) (vb:VRep O s.heap y b) (q:jbv x y Y Q):wpAny (model prog w) A (call (.builtin "list.append") [a,b]) (fun v s'=>v= .none/\PostU prog w T cl U No O s Q s') NoE s:=by
 obtain⟨l,rfl,q⟩:=jcG q
 ·obtain⟨xs,e1,q0,q⟩:=jo9 q
  ·skip
   refine jjG (R.list va e1) fun p vs hp zq6 e2 hl r1 zz=>?_;subst zq6
   have hv:=r1.length
   refine wpAny_list_append_plain hl (fun h' hl' hs=>⟨rfl,?_⟩) (by simp;exact o92 q0 hv)
   exact PostU.putList (vs':=vs++ [b]) R hp e1 e2 (by simpa using hl') hs (r1.append (VReps.one vb)) (by simp;exact jvB q0 zz) q
theorem jnr(G:Gl T cl fa K U){x:PV}{a:Value}{s:Shared}{Q:PV->AHeap->Prop}(R:SR prog w cl T.fld U Y O s.heap)
  (va:VRep O s.heap x a) (q:jma x Y Q):wpAny (model prog w) A (call (.builtin "list.pop") [a]) (Post prog w T cl U No O s Q) NoE s:=by
 obtain⟨l,rfl,q⟩:=jcG q
 ·obtain⟨xs,e1,q⟩:=jo9 q
  ·skip
   refine jjG (R.list va e1) fun p vs hp zq7 e2 zv8 r1 zz=>?_;subst zq7;obtain⟨n,hl⟩:=zv8
   have hv:=r1.length
   obtain⟨y,hy,q⟩:=jkv q
   ·skip
    rw[List.getLast?_eq_getElem?]at hy
    refine jaj (r1.get hy) fun v hv' rv=>?_
    have hne:xs.length-1<xs.length:=jcS hy
    refine call_meets PySem.F.slot_list_pop ⟨_,hl,rfl⟩ PySem.F.entry_list_pop (PySem.F.args_list_pop_1 _) (MeetsSeq.list_pop_last p.1 vs.toArray n v (by simpa [hv]using hv') (by simp;exact o20 zz hv)) ⟨hl,?_⟩
    have e3:vs.toArray.eraseIdxIfInBounds (vs.length-1)=vs.dropLast.toArray:=by
     have h1:vs.length-1<vs.toArray.size:=by simp;exact jvC hv hne
     unfold Array.eraseIdxIfInBounds
     rw[dif_pos h1,<-List.eraseIdx_length_sub_one]
     simp
    have hfin:(s.heap.update p.1 (Obj.mapSeq fun xs=>xs.eraseIdxIfInBounds (vs.toArray.size-1))).PlainList p.1 vs.dropLast.toArray:=by
     obtain⟨n',e⟩:=jev vs.toArray n (fun xs=>xs.eraseIdxIfInBounds (vs.toArray.size-1))
     have:=Heap.get?_update_self (Obj.mapSeq fun xs=>xs.eraseIdxIfInBounds (vs.toArray.size-1)) hl (by rw[e];rfl)
     rw[e]at this
     exact⟨n',by rw[this];simp[e3]⟩
    have rd:VReps O s.heap xs.dropLast vs.dropLast:=by rw[List.dropLast_eq_take,List.dropLast_eq_take,hv];exact r1.take _
    refine jaT (PostU.putList (Q:=Q y) (P:=No) (s':={s with heap:=s.heap.update p.1 (Obj.mapSeq fun xs=>xs.eraseIdxIfInBounds (vs.toArray.size-1))}) R hp e1 e2 hfin (Heap.SameBut.update ..) rd (by simp;exact o14 zz) q) fun Y' O' q' R' S'=>?_
    exact⟨y,Y',O',q',R',rv.mono S'.pre S'.tk,S'⟩
end
open PySem.SeqAt
section
variable{prog:Program}{w:World}{T:Tb}{cl:Cls->Addr}{fa:Nat->Addr}{K:Frag}{U:Heap}{env:Env}{sc:Scope}{ctx:List (Option Str)}{Z:jao}{Y:AHeap}{O:List Ad}{A:Around}{d:Nat}
theorem jfm(k:Int): ∀l:List Int,(jmu k l).Perm (k::l)
 | []=>.refl _
 | x::r=>by
  unfold jmu
  split
  ·exact .refl _
  ·exact((jfm k r).cons x).trans (.swap ..)
theorem jdb: ∀l:List Int,(jba l).Perm l
 | []=>.refl _
 | x::r=>(jfm x _).trans ((jdb r).cons x)
theorem jna(k:Int): ∀l:List Int,l.Pairwise (· <= ·)->(jmu k l).Pairwise (· <= ·)
 | [],_=>by simp[jmu]
 | x::r,h=>by
  obtain⟨h1,h2⟩:=pairwise_cons.mp h
  unfold jmu
  split
  ·rename_i hk
   refine pairwise_cons.mpr ⟨fun y hy=>?_,h⟩
   rcases mem_cons.mp hy with rfl | hy
   ·exact hk
   ·exact Int.le_trans hk (h1 y hy)
  ·rename_i hk
   refine pairwise_cons.mpr ⟨fun y hy=>?_,jna k r h2⟩
   rcases mem_cons.mp ((jfm k r).subset hy)with rfl | hy
   ·exact jvD hk
   ·exact h1 y hy
theorem jlu: ∀l:List Int,(jba l).Pairwise (· <= ·)
 | []=>.nil
 | x::r=>jna x _ (jlu r)
theorem joI{l m:List Int}(hp:m.Perm l)(hs:m.Pairwise (· <= ·)):m=jba l:=
 (hp.trans (jdb l).symm).eq_of_pairwise (fun a b _ _ h1 h2=>Int.le_antisymm h1 h2) hs (jlu l)
theorem jnb{h:Heap}: ∀{vs:List Value} {is:List Int},IntsAre vs is->VReps O h (is.map .int) vs
 | _,_,.nil=>VReps.nil
 | _,_,.cons n t r=>VReps.cons ja3 (jnb r)
theorem jgw: ∀{vs:List Value} {is:List Int},vs.length=is.length->(∀ (j:Nat) (v:Value),vs[j]? =some v->∃k t,is[j]? =some k/\v= .int k t)->IntsAre vs is
 | [],[],_,_=>.nil
 | v::vs,i::is,hl,h=>by
  refine jdp (h 0 v rfl) fun k t e1 zq9=>?_;subst zq9
  simp at e1;subst e1
  exact .cons _ _ (jgw (by simpa using hl) fun j v hv=>by simpa using h (j+1) v (by simpa using hv))
 | [],_::_,hl,_=>by simp at hl
 | _::_,[],hl,_=>by simp at hl
theorem jjd(G:Gl T cl fa K U)(hh:A.handled=none){x:PV}{a:Value}{s:Shared}{Q:PV->AHeap->Prop}(R:SR prog w cl T.fld U Y O s.heap)(va:VRep O s.heap x a)(q:jc6 x Y Q):
  wpAny (model prog w) A (call (.builtin "sorted") [a]) (Post prog w T cl U No O s Q) NoE s:=by
 obtain⟨l,rfl,q⟩:=jcG q
 ·obtain⟨es,e1,q0,q⟩:=jrs q
  ·skip
   refine jqS (R.dict va e1) fun p kvs hp zq0 e2 hd k1 r1 zz=>?_;subst zq0
   have hlen:kvs.length=es.length:=by have:=congrArg length k1;simpa using this
   have hs:=jll G R hp e1
   obtain⟨ep,hat⟩:=hd.dictAt
   refine Calls.call_function_entry kind_sorted plain_sorted entry_sorted (args_sorted1 _) ?_
   unfold Builtin.«sorted»
   refine wpAny_bind (m:=checkCount "sorted" 1 1 _) (wpAny_pure ?_)
   refine wpAny_bind (kdu_collect (A:=A.in1) (kdl_dict (knd:=iK prog w) (kvs:=kvs) (ep:=ep) hs) hh hat (o20 zz hlen) fun h' tk acc hk hacc=>?_)
   have hal:acc.toList.length=kvs.length:=by rw[Array.length_toList];exact hacc.1
   have hI:IntsAre acc.toList (es.map (·.1)):=by
    refine jgw (by rw[hal,hlen];simp) fun j v hv=>?_
    refine jdp (hacc.2 j v (by rw[<- Array.getElem?_toList];exact hv)) fun k x hx hi=>?_
    obtain⟨t,rfl⟩: ∃t,v= .int k t:=Value.isInt_shape hi
    refine⟨k,t,?_,rfl⟩
    rw[<- k1,getElem?_map,hx];rfl
   have hfresh:s.heap.get? h'.objs.size=none:=by
    cases e:s.heap.get? h'.objs.size with
    | none=>rfl
    | some o=>exact absurd (Heap.lt_size (hk _ _ e)) (lt_irrefl _)
   have hz:((jba (es.map (·.1))).map PV.int).length<=sizeLine:=by
    have:=(jdb (es.map (·.1))).length_eq
    simp at this ⊢;exact o20 zz this
   have fin: ∀(H:Heap) (tk:Nat) (out:Array Value),(∀ b o,s.heap.get? b=some o->H.get? b=some o)->H.PlainList h'.objs.size out.toList.toArray->IntsAre out.toList (jba (es.map (·.1)))->
     Post prog w T cl U No O s Q (.ref h'.objs.size) {s with heap:=H,toks:=tk}:=fun H tk out k1 k2 k3=>
    Post.listAt (vs:=out.toList) (xs:=(jba (es.map (·.1))).map .int) R k1 hfresh k2 (jnb k3) hz q
   have h64:acc.toList.length<64:=by rw[hal];exact jvE q0 hlen
   clear q hz hfresh
   refine wpAny_bind (wpAny_newList ?_ (by rw[hal];exact o20 zz hlen))
   dsimp only
   generalize hH:h'.push {cls:=.type "list",dict:=none,data:=.seq acc.toList.toArray}=H at*
   have hoL:H.get? h'.objs.size=some (seqObj "list" acc.toList.toArray 0):=by rw[<- hH];exact Heap.get?_push_size _ rfl
   have hold: ∀b o,s.heap.get? b=some o->H.get? b=some o/\b≠h'.objs.size/\b<H.objs.size:=fun b o e=>by
    have h1:=hk b o e
    have h2:=Heap.lt_size h1
    refine⟨by rw[<- hH];exact Heap.get?_push_of_some _ h1,ne_of_lt h2,by rw[<- hH,Heap.size_push];exact lt_succ_of_lt h2⟩
   refine wpAny_bind (wpAny_holding (wpAny_call_entry PyProof.Rows.slot_list_sort ⟨_,hoL,rfl⟩ entry_list_sort (list_sort_tree hoL hI h64 fun out ns' a1 a2 a3=>⟨_,rfl,?_⟩) (args_list_sort _)))
   refine wpAny_pure ⟨_,rfl,?_⟩
   have hE:=joI a2 a3
   obtain⟨e',he'⟩:=sortedHeap_at (vs:=acc.toList) (out:=out) hoL
   refine fin _ _ out (fun b o e=>?_) ⟨e',by simpa using he'⟩ (hE▸a1)
   refine jdo (hold b o e) fun h1 h2 h3=>?_
   rw[sortedHeap_old h2 h3];exact h1
theorem jot{h:Heap}{es:List (Int×PV)}{kvs:List (Int×Value)}{k:Int}{d:PV}{dv:Value}(rd:VRep O h d dv)(e:kvs.map (·.1)=es.map (·.1))(r:VReps O h (es.map (·.2)) (kvs.map (·.2))):
  VRep O h ((jbu es k).getD d) ((valueAt kvs k).getD dv):=by
 have:=jcB k e r
 cases hl:jbu es k with
 | none=>rw[hl]at this;rw[this];exact rd
 | some x=>rw[hl]at this;refine jaj this fun v e rv=>?_;clear this;rw[e];exact rv
theorem jfk(G:Gl T cl fa K U){k:Nat}{x:PV}{a:Value}{s:Shared}{Q:PV->Prop}(R:SR prog w cl T.fld U Y O s.heap)(va:VRep O s.heap x a)(q:jey k x Y Q):
  wpAny (model prog w) A (getAttr a (T.fld k) true) (Post prog w T cl U No O s fun v Y'=>Q v/\Y'=Y) NoE s:=by
 obtain⟨l,rfl,q⟩:=jcG q
 ·obtain⟨c,fs,e1,q0,q⟩:=jsj q
  ·obtain⟨z,hz,q⟩:=jhm q
   ·skip
    simp only[VRep]at va
    refine jaj va fun p hp zq1=>?_;clear va;subst zq1
    refine jdo (R.obj l p _ hp e1) fun ne g1 zu2=>?_;refine jqJ zu2 fun es n g2 f1 f2 f4 f3=>?_;clear zu2
    have hlt:k-c.off<c.num:=by rw[<- f2];exact jcS hz
    have hk:c.off+(k-c.off)=k:=by exact o93 q0
    have:=f3 _ hlt
    rw[hz]at this
    refine jaj this fun v hv rv=>?_;clear this
    rw[hk]at hv
    refine jgk (G.cget c) fun c1 c2 c3 c4 c5=>?_
    have hfnd:=G.cfld c _ hlt
    rw[hk]at hfnd
    have I:PySem.W.InstAt s.heap p.1 (instObj (cl c) p.2) (cl c) (some (dictOf es n)):=⟨g1,rfl,rfl,g2⟩
    refine get_value (G.kin.keeps R.keep) I (plainGet_of c1).1 (findObj_own c2 hfnd rfl hv) ?_ ?_
    ·cases z with
     | none=>rw[jdU rv];rfl
     | bool b=>rw[jcv rv];rfl
     | int i=>obtain⟨t,rfl⟩:=jak rv;rfl
     | str s=>obtain⟨t,rfl⟩:=jbQ rv;rfl
     | tup xs=>refine jdp (jb6 rv) fun _ _ zq3 _=>?_;subst zq3;rfl
     | ref l=>simp only[VRep]at rv;refine jaj rv fun p _ zq4=>?_;clear rv;subst zq4;rfl
    ·exact Post.same R rv ⟨q,rfl⟩
theorem jdR(name:Str)(hs:Int)(key v:Value)(hk:key.isStr name=true): ∀es:List DictEntry,getL name (putL name hs key v es)=some (some v)
 | []=>by simp[putL,getL,hk]
 | e::r=>by
  unfold putL
  split
  ·rename_i h;simp[getL,h]
  ·rename_i h
   have ih:=jdR name hs key v hk r
   unfold getL at ih ⊢
   rw[find?_cons]
   simp only[h]
   cases hf:(putL name hs key v r).find? (·.key.isStr name)with
   | none=>rw[hf]at ih;simp only at ih;split at ih<;>cases ih
   | some e'=>rw[hf]at ih;simpa using ih
theorem jhu(name:Str)(hs:Int)(key v:Value): ∀es:List DictEntry,(putL name hs key v es).length=if(es.find? (·.key.isStr name)).isSome then es.length else es.length+1
 | []=>rfl
 | e::r=>by
  unfold putL
  rw[find?_cons]
  split
  ·rename_i h;simp[h]
  ·rename_i h
   simp only[h,length_cons,jhu name hs key v r]
   split<;>rfl
theorem jez{name name':Str}{hs:Int}{key v:Value}(hk:key.isStr name'=false)(hn:name'≠name): ∀es:List DictEntry,((putL name hs key v es).find? (·.key.isStr name')).map (·.val)=(es.find? (·.key.isStr name')).map (·.val)
 | []=>by simp[putL,hk]
 | e::r=>by
  unfold putL
  split
  ·rename_i h
   have:e.key.isStr name'=false:=by
    cases q:e.key.isStr name' with
    | false=>rfl
    | true=>exact absurd (Value.isStr_inj _ _ _ q h) hn
   simp[this]
  ·rename_i h
   rw[find?_cons,find?_cons]
   cases e.key.isStr name' with
   | true=>rfl
   | false=>exact jez hk hn r
theorem jlp{name:Str}{hs:Int}{key v:Value}(hk:(⟨hs,key,v⟩:DictEntry).refKey=false): ∀es:List DictEntry,(putL name hs key v es).any (·.refKey)=es.any (·.refKey)
 | []=>by simp[putL,hk]
 | e::r=>by
  unfold putL
  split
  ·simp[DictEntry.refKey]
  ·simp[jlp hk r]
theorem jm9(name:Str)(es:List DictEntry):getL name es=match (es.find? (·.key.isStr name)).map (·.val)with | some v=>some (some v) | none=>if es.any (·.refKey)then none else some none:=by
 unfold getL
 cases es.find? (·.key.isStr name)<;>rfl
theorem jfA{name name':Str}{hs:Int}{t:Tok}{v:Value}(hn:name'≠name)(es:List DictEntry):getL name' (putL name hs (.str name t) v es)=getL name' es:=by
 rw[jm9,jm9,jez (by simp only[Value.isStr];exact beq_eq_false_iff_ne.mpr (Ne.symm hn)) hn,jlp rfl]
theorem jnt{prog:Program}{w:World}{A:Around}{s:Shared}{K:Frag}{x C dx:Addr}{ox:Obj}{es:List DictEntry}{n:Nat}{name:Str}{tk:Tok}{v:Value}{R:Result->Shared->Prop}(X:K.In s.heap)
  (I:PySem.W.InstAt s.heap x ox C (some (dictOf es n))) (hd:ox.dict=some dx) (D:s.heap.get? dx=some (dictOf es n)) (hp:plainOver K C=true) (ht:takerIn K C name=some none) (hh:(clsIn K C).any (·.hasDict)=true)
  (hl:(getL name es).isSome=true) (hz:es.length<=1000)
  (h: ∀h',h'.get? dx=some (dictOf (putL name (PyData.keyHash w.params name) (.str name s.toks) v es) (putN name es n))->Heap.SameBut dx s.heap h'->R (.ok (.ret .none)) {s with heap:=h',toks:=s.toks+1}):
  codeAny (model prog w) A (.call (.builtin "object.__setattr__") ⟨[.ref x,.str name tk,v],[]⟩) R s:=by
 refine osa_open X I hp ht fun b=>?_
 refine jaj (any_some hh) fun cd hc hd'=>?_
 have e:=putName_dict name (PyData.keyHash w.params name) (.str name s.toks) v es n
 have D':(s.heap.update dx (Obj.putName name (PyData.keyHash w.params name) (.str name s.toks) v)).get? dx=some (dictOf (putL name (PyData.keyHash w.params name) (.str name s.toks) v es) (putN name es n)):=by
  rw[<- e];exact Heap.get?_update_self _ D (by rw[e];rfl)
 obtain⟨hx,hcl,hn,-⟩:=I
 obtain⟨oc,odi,oda,osl⟩:=ox
 dsimp only at hcl hd
 subst hcl hd
 refine wpAny_bind (wpAny_pure (wpAny_bind (wpAny_bind (wpAny_loadPart hx (wpAny_bind ((looks_clsIn X hc).here ?_))))))
 rw[hd']
 refine wpAny_pure (a:=some dx) (wpAny_bind (wpAny_pure (wpAny_bind ?_)))
 unfold nsSet
 refine wpAny_bind (wpAny_bind (wpAny_askSetting (wpAny_pure (wpAny_bind (wpAny_mkText (wpAny_bind (wpAny_loadPart D ?_)))))))
 dsimp only
 have c:(!es.toArray.any (·.key.isStr name)&&es.toArray.any (·.refKey))=false:=by
  rw[List.any_toArray,List.any_toArray]
  unfold getL at hl
  split at hl
  ·rename_i en he
   rw[any_eq_true.mpr ⟨en,List.mem_of_find?_eq_some he,List.find?_some he⟩];rfl
  ·split at hl
   ·cases hl
   ·rename_i z;rw[Bool.not_eq_true]at z;rw[z,Bool.and_false]
 rw[aRefKeyMayBeTheName_at,c]
 refine wpAny_updatePart D ?_
 refine wpAny_bind (wpAny_lookBehind D' (by exact pastItsLine_dict (by rw[size_toArray,jhu,sizeLine_eq];split<;>walk_at "o")) ?_)
 exact wpAny_pure (h _ D' (Heap.SameBut.update ..))
end
open PySem.SeqAt
section
variable{prog:Program}{w:World}{T:Tb}{cl:Cls->Addr}{fa:Nat->Addr}{K:Frag}{U:Heap}{env:Env}{sc:Scope}{ctx:List (Option Str)}{Z:jao}{Y:AHeap}{O:List Ad}{A:Around}{d:Nat}
theorem jff(fs:List (Option PV))(i:Nat)(x:PV)(h:i<fs.length):
  (fs.set i (some x)).countP (·.isSome)=if(fs[i]).isSome then fs.countP (·.isSome)else fs.countP (·.isSome)+1:=by
 rw[List.countP_set h]
 simp only[Option.isSome_some,if_true]
 split
 ·rename_i hs
  have:0<fs.countP (·.isSome):=List.countP_pos_iff.mpr ⟨fs[i],List.getElem_mem h,hs⟩
  exact jvF this
 ·exact jvG
theorem jfJ(G:Gl T cl fa K U){k:Nat}{x z:PV}{a b:Value}{s:Shared}{Q:AHeap->Prop}(R:SR prog w cl T.fld U Y O s.heap)(va:VRep O s.heap x a)(vb:VRep O s.heap z b)(q:jbO k x z Y Q):
  wpAny (model prog w) A (setAttr a (T.fld k) b) (fun _ s'=>PostU prog w T cl U No O s Q s') NoE s:=by
 obtain⟨l,rfl,q⟩:=jcG q
 ·obtain⟨c,fs,e1,q⟩:=jsj q
  ·revert q;intro zo5;refine jdo zo5 fun q0 q1 q=>?_;clear zo5
   simp only[VRep]at va
   refine jaj va fun p hp zq6=>?_;clear va;subst zq6
   refine jdo (R.obj l p _ hp e1) fun ne g1 zu7=>?_;refine jqJ zu7 fun es n g2 f1 f2 f4 f3=>?_;clear zu7
   have hlt:k-c.off<c.num:=by rw[<- f2];exact q1
   have hk:c.off+(k-c.off)=k:=by exact o93 q0
   refine jgk (G.cget c) fun c1 c2 c3 c4 c5=>?_
   have hfnd:=G.cfld c _ hlt
   rw[hk]at hfnd
   have I:PySem.W.InstAt s.heap p.1 (instObj (cl c) p.2) (cl c) (some (dictOf es n)):=⟨g1,rfl,rfl,g2⟩
   have hget:=f3 _ hlt
   rw[hk]at hget
   have hl:(getL (T.fld k) es).isSome=true:=by
    rw[getElem?_eq_getElem q1]at hget
    cases h:fs[k-c.off]with
    | none=>rw[h]at hget;simp only at hget;rw[hget];rfl
    | some y=>rw[h]at hget;refine jaj hget fun v e _=>?_;clear hget;rw[e];rfl
   have hnum:c.num<=12:=by cases c<;>decide
   have hz:es.length<=12:=le_trans f1 (le_trans List.countP_le_length (jvH f2 hnum))
   refine set_plain (G.kin.keeps R.keep) I c3 ?_
   refine jnt (s:={s with toks:=s.toks+1}) (G.kin.keeps R.keep) I rfl g2 c4 (by unfold takerIn;rw[hfnd];rfl) c2 hl (jvI hz) fun h' hd hs=>?_
   have kk:Kp (fun c=>c=p.1\/c=p.2) s.heap h':=jkF hs
   have same1:h'.get? p.1=s.heap.get? p.1:=hs.2 _ ne
   refine⟨_,O,q,R.put (h':=h') hp e1 rfl kk (fun ht=>⟨ne,by rw[same1];exact g1,_,_,hd,?_,?_,?_,?_⟩) rfl,Stp.put R hp rfl kk (fun a q=>?_)⟩
   ·
    rw[jhu,jff _ _ _ q1]
    have hg:=hget
    rw[getElem?_eq_getElem q1]at hg
    cases h:fs[k-c.off]with
    | none=>
     simp only[h,Option.isSome_none,Bool.false_eq_true,if_false]
     split<;>walk_at "o"
    | some y=>
     rw[h]at hg
     refine jaj hg fun v e _=>?_;clear hg
     have:(es.find? fun x=>x.key.isStr (T.fld k)).isSome=true:=by
      unfold getL at e
      split at e
      ·rename_i en he;rw[he];rfl
      ·split at e<;>cases e
     simp only[h,this,Option.isSome_some,if_true]
     exact f1
   ·rw[length_set];exact f2
   ·rw[jfA (by rw[<- hk];exact Ne.symm (G.fldnw c _ hlt))];exact f4
   ·intro i hi
    by_cases hki:i=k-c.off
    ·subst hki
     rw[List.getElem?_set_self q1,hk]
     exact⟨b,jdR _ _ _ _ (by simp[Value.isStr]) _,vb.mono (prefix_refl _) ht⟩
    ·rw[getElem?_set_ne (Ne.symm hki)]
     have hne:T.fld (c.off+i)≠T.fld k:=fun e=>hki (G.fldinj c i _ hi hlt (by rw[hk];exact e))
     rw[jfA hne]
     have:=f3 i hi
     revert this
     cases fs[i]? with
     | none=>exact id
     | some o=>
      cases o with
      | none=>exact id
      | some y=>intro zu8;refine jaj zu8 fun v e1 e2=>?_;clear zu8;exact⟨v,e1,e2.mono (prefix_refl _) ht⟩
   ·rcases q with rfl | rfl
    ·exact⟨_,same1.trans g1⟩
    ·exact⟨_,hd⟩
section
variable{T:Tb}{sc:Scope}{ctx:List (Option Str)}
@[elab_as_elim] theorem m_none {P:PySem.Expr->Prop} {e:PySem.Expr} (hm:mtE T sc ctx (.none) e=true) (av: ∀w1 w2,P (.Constant .none w1 w2)):P e:=eConstant hm fun u3 w1 w2 hm=>eKnone hm fun hm=>av _ _
@[elab_as_elim] theorem m_bool {P:PySem.Expr->Prop} {b:Bool} {e:PySem.Expr} (hm:mtE T sc ctx (.bool b) e=true) (av: ∀c w1 w2,(b==c)=true->P (.Constant (.bool c) w1 w2)):P e:=eConstant hm fun u3 w1 w2 hm=>eKbool hm fun c hm=>av _ _ _ hm
@[elab_as_elim] theorem m_int {P:PySem.Expr->Prop} {i:Int} {e:PySem.Expr} (hm:mtE T sc ctx (.int i) e=true) (av: ∀j w1 w2,(i==j)=true->P (.Constant (.int j) w1 w2)):P e:=eConstant hm fun u3 w1 w2 hm=>eKint hm fun j hm=>av _ _ _ hm
@[elab_as_elim] theorem m_str {P:PySem.Expr->Prop} {s:String} {e:PySem.Expr} (hm:mtE T sc ctx (.str s) e=true) (av: ∀t w1 w2,(t==Str.ofString s)=true->P (.Constant (.str t) w1 w2)):P e:=eConstant hm fun u3 w1 w2 hm=>eKstr hm fun t hm=>av _ _ _ hm
@[elab_as_elim] theorem m_loc {P:PySem.Expr->Prop} {i:Nat} {e:PySem.Expr} (hm:mtE T sc ctx (.loc i) e=true) (av: ∀x w1,(ctx[i]? ==some (some x)&&x !=("__debug__":Str))=true->P (.Name x w1)):P e:=eName hm fun x w1 hm=>av _ _ hm
@[elab_as_elim] theorem m_glob {P:PySem.Expr->Prop} {j:Nat} {i:Int} {e:PySem.Expr} (hm:mtE T sc ctx (.glob j i) e=true) (av: ∀x w1,(T.gints[j]? ==some (x,i)&&isG sc x&&x !=("__debug__":Str))=true->P (.Name x w1)):P e:=eName hm fun x w1 hm=>av _ _ hm
@[elab_as_elim] theorem m_attr {P:PySem.Expr->Prop} {a:Ex} {k:Nat} {e:PySem.Expr} (hm:mtE T sc ctx (.attr a k) e=true) (av: ∀v n w1,(T.flds[k]? ==some n&&jau v&&mtE T sc ctx a v)=true->P (.Attribute v n w1)):P e:=eAttribute hm fun v n w1 hm=>av _ _ _ hm
@[elab_as_elim] theorem m_item {P:PySem.Expr->Prop} {a:Ex} {i:Ex} {e:PySem.Expr} (hm:mtE T sc ctx (.item a i) e=true) (av: ∀v s w1,(mtE T sc ctx a v&&mtE T sc ctx i s)=true->P (.Subscript v s w1)):P e:=eSubscript hm fun v s w1 hm=>av _ _ _ hm
@[elab_as_elim] theorem m_sliceTo {P:PySem.Expr->Prop} {a:Ex} {i:Ex} {e:PySem.Expr} (hm:mtE T sc ctx (.sliceTo a i) e=true) (av: ∀v s w1 w2,(mtE T sc ctx a v&&mtE T sc ctx i s)=true->P (.Subscript v (.Slice .none (.some s) .none w1) w2)):P e:=eSubscript hm fun v u3 w2 hm=>eSlice hm fun u4 u5 u6 w1 hm=>eNo hm fun hm=>eSo hm fun s hm=>eNo hm fun hm=>av _ _ _ _ hm
@[elab_as_elim] theorem m_sliceFrom {P:PySem.Expr->Prop} {a:Ex} {i:Ex} {e:PySem.Expr} (hm:mtE T sc ctx (.sliceFrom a i) e=true) (av: ∀v s w1 w2,(mtE T sc ctx a v&&mtE T sc ctx i s)=true->P (.Subscript v (.Slice (.some s) .none .none w1) w2)):P e:=eSubscript hm fun v u3 w2 hm=>eSlice hm fun u4 u5 u6 w1 hm=>eSo hm fun s hm=>eNo hm fun hm=>eNo hm fun hm=>av _ _ _ _ hm
@[elab_as_elim] theorem m_bin {P:PySem.Expr->Prop} {op:Bop} {a:Ex} {b:Ex} {e:PySem.Expr} (hm:mtE T sc ctx (.bin op a b) e=true) (av: ∀l o r w1,(op.is o&&mtE T sc ctx a l&&mtE T sc ctx b r)=true->P (.BinOp l o r w1)):P e:=eBinOp hm fun l o r w1 hm=>av _ _ _ _ hm
@[elab_as_elim] theorem m_cmp {P:PySem.Expr->Prop} {op:Cop} {a:Ex} {b:Ex} {e:PySem.Expr} (hm:mtE T sc ctx (.cmp op a b) e=true) (av: ∀l o r w1,(op.is' o&&mtE T sc ctx a l&&mtE T sc ctx b r)=true->P (.Compare l [o] [r] w1)):P e:=eCompare hm fun l u2 u3 w1 hm=>eCons hm fun o u4 hm=>eNil hm fun hm=>eCons hm fun r u5 hm=>eNil hm fun hm=>av _ _ _ _ hm
@[elab_as_elim] theorem m_and {P:PySem.Expr->Prop} {es:Exs} {e:PySem.Expr} (hm:mtE T sc ctx (.and es) e=true) (av: ∀vs w1,(ble 2 es.len&&jed T sc ctx es vs)=true->P (.BoolOp .And vs w1)):P e:=eBoolOp hm fun u2 vs w1 hm=>eBAnd hm fun hm=>av _ _ hm
@[elab_as_elim] theorem m_or {P:PySem.Expr->Prop} {es:Exs} {e:PySem.Expr} (hm:mtE T sc ctx (.or es) e=true) (av: ∀vs w1,(ble 2 es.len&&jed T sc ctx es vs)=true->P (.BoolOp .Or vs w1)):P e:=eBoolOp hm fun u2 vs w1 hm=>eBOr hm fun hm=>av _ _ hm
@[elab_as_elim] theorem m_not {P:PySem.Expr->Prop} {a:Ex} {e:PySem.Expr} (hm:mtE T sc ctx (.not a) e=true) (av: ∀x w1,(mtE T sc ctx a x)=true->P (.UnaryOp .Not x w1)):P e:=eUnaryOp hm fun u2 x w1 hm=>eUNot hm fun hm=>av _ _ hm
@[elab_as_elim] theorem m_list {P:PySem.Expr->Prop} {es:Exs} {e:PySem.Expr} (hm:mtE T sc ctx (.list es) e=true) (av: ∀vs w1,(jed T sc ctx es vs)=true->P (.List vs w1)):P e:=eList hm fun vs w1 hm=>av _ _ hm
@[elab_as_elim] theorem m_tup {P:PySem.Expr->Prop} {es:Exs} {e:PySem.Expr} (hm:mtE T sc ctx (.tup es) e=true) (av: ∀vs w1 w2,(jed T sc ctx es vs)=true->P (.Tuple vs w1 w2)):P e:=eTuple hm fun vs w1 w2 hm=>av _ _ _ hm
@[elab_as_elim] theorem m_dict0 {P:PySem.Expr->Prop} {e:PySem.Expr} (hm:mtE T sc ctx (.dict0) e=true) (av: ∀w1,P (.Dict [] [] w1)):P e:=eDict hm fun u2 u3 w1 hm=>eNil hm fun hm=>eNil hm fun hm=>av _
@[elab_as_elim] theorem m_dict1 {P:PySem.Expr->Prop} {k:Ex} {v:Ex} {e:PySem.Expr} (hm:mtE T sc ctx (.dict1 k v) e=true) (av: ∀a b w1,(mtE T sc ctx k a&&mtE T sc ctx v b)=true->P (.Dict [(.some a)] [b] w1)):P e:=eDict hm fun u2 u3 w1 hm=>eCons hm fun u4 u5 hm=>eSo hm fun a hm=>eNil hm fun hm=>eCons hm fun b u6 hm=>eNil hm fun hm=>av _ _ _ hm
@[elab_as_elim] theorem m_call {P:PySem.Expr->Prop} {f:Nat} {es:Exs} {e:PySem.Expr} (hm:mtE T sc ctx (.call f es) e=true) (av: ∀x w1 as w2,(T.fns[f]? ==some x&&blt f T.nGlob&&isG sc x&&x !=("__debug__":Str)&&jed T sc ctx es as)=true->P (.Call (.Name x w1) as [] w2)):P e:=eCall hm fun u3 as u4 w2 hm=>eName hm fun x w1 hm=>eNil hm fun hm=>av _ _ _ _ hm
@[elab_as_elim] theorem m_new {P:PySem.Expr->Prop} {c:Cls} {f:Nat} {es:Exs} {e:PySem.Expr} (hm:mtE T sc ctx (.new c f es) e=true) (av: ∀x w1 as w2,(T.clsn c==x&&isG sc x&&x !=("__debug__":Str)&&jed T sc ctx es as&&(T.fns[f]? ==some ("__init__"++x:Str)))=true->P (.Call (.Name x w1) as [] w2)):P e:=eCall hm fun u3 as u4 w2 hm=>eName hm fun x w1 hm=>eNil hm fun hm=>av _ _ _ _ hm
@[elab_as_elim] theorem m_len {P:PySem.Expr->Prop} {a:Ex} {e:PySem.Expr} (hm:mtE T sc ctx (.len a) e=true) (av: ∀x w1 v w2,(x==("len":Str)&&isG sc x&&mtE T sc ctx a v)=true->P (.Call (.Name x w1) [v] [] w2)):P e:=eCall hm fun u3 u4 u5 w2 hm=>eName hm fun x w1 hm=>eCons hm fun v u6 hm=>eNil hm fun hm=>eNil hm fun hm=>av _ _ _ _ hm
@[elab_as_elim] theorem m_sorted {P:PySem.Expr->Prop} {a:Ex} {e:PySem.Expr} (hm:mtE T sc ctx (.sorted a) e=true) (av: ∀x w1 v w2,(x==("sorted":Str)&&isG sc x&&mtE T sc ctx a v)=true->P (.Call (.Name x w1) [v] [] w2)):P e:=eCall hm fun u3 u4 u5 w2 hm=>eName hm fun x w1 hm=>eCons hm fun v u6 hm=>eNil hm fun hm=>eNil hm fun hm=>av _ _ _ _ hm
@[elab_as_elim] theorem m_strOf {P:PySem.Expr->Prop} {a:Ex} {e:PySem.Expr} (hm:mtE T sc ctx (.strOf a) e=true) (av: ∀x w1 v w2,(x==("str":Str)&&isG sc x&&mtE T sc ctx a v)=true->P (.Call (.Name x w1) [v] [] w2)):P e:=eCall hm fun u3 u4 u5 w2 hm=>eName hm fun x w1 hm=>eCons hm fun v u6 hm=>eNil hm fun hm=>eNil hm fun hm=>av _ _ _ _ hm
@[elab_as_elim] theorem m_tupleOf {P:PySem.Expr->Prop} {a:Ex} {e:PySem.Expr} (hm:mtE T sc ctx (.tupleOf a) e=true) (av: ∀x w1 v w2,(x==("tuple":Str)&&isG sc x&&mtE T sc ctx a v)=true->P (.Call (.Name x w1) [v] [] w2)):P e:=eCall hm fun u3 u4 u5 w2 hm=>eName hm fun x w1 hm=>eCons hm fun v u6 hm=>eNil hm fun hm=>eNil hm fun hm=>av _ _ _ _ hm
@[elab_as_elim] theorem m_append {P:PySem.Expr->Prop} {o:Ex} {x:Ex} {e:PySem.Expr} (hm:mtE T sc ctx (.append o x) e=true) (av: ∀v n ap y p,(n==("append":Str)&&ap.endLine==p.line&&jau v&&mtE T sc ctx o v&&mtE T sc ctx x y)=true->P (.Call (.Attribute v n ap) [y] [] p)):P e:=eCall hm fun u1 u2 u3 p hm=>eAttribute hm fun v n ap hm=>eCons hm fun y u4 hm=>eNil hm fun hm=>eNil hm fun hm=>av _ _ _ _ _ hm
@[elab_as_elim] theorem m_pop {P:PySem.Expr->Prop} {o:Ex} {e:PySem.Expr} (hm:mtE T sc ctx (.pop o) e=true) (av: ∀v n ap p,(n==("pop":Str)&&ap.endLine==p.line&&jau v&&mtE T sc ctx o v)=true->P (.Call (.Attribute v n ap) [] [] p)):P e:=eCall hm fun u1 u2 u3 p hm=>eAttribute hm fun v n ap hm=>eNil hm fun hm=>eNil hm fun hm=>av _ _ _ _ hm
@[elab_as_elim] theorem m_get1 {P:PySem.Expr->Prop} {o:Ex} {x:Ex} {e:PySem.Expr} (hm:mtE T sc ctx (.get1 o x) e=true) (av: ∀v n ap y p,(n==("get":Str)&&ap.endLine==p.line&&jau v&&mtE T sc ctx o v&&mtE T sc ctx x y)=true->P (.Call (.Attribute v n ap) [y] [] p)):P e:=eCall hm fun u1 u2 u3 p hm=>eAttribute hm fun v n ap hm=>eCons hm fun y u4 hm=>eNil hm fun hm=>eNil hm fun hm=>av _ _ _ _ _ hm
@[elab_as_elim] theorem m_get2 {P:PySem.Expr->Prop} {o:Ex} {x:Ex} {d:Ex} {e:PySem.Expr} (hm:mtE T sc ctx (.get2 o x d) e=true) (av: ∀v n ap y z p,(n==("get":Str)&&ap.endLine==p.line&&jau v&&mtE T sc ctx o v&&mtE T sc ctx x y&&mtE T sc ctx d z)=true->P (.Call (.Attribute v n ap) [y,z] [] p)):P e:=eCall hm fun u1 u2 u3 p hm=>eAttribute hm fun v n ap hm=>eCons hm fun y u4 hm=>eCons hm fun z u5 hm=>eNil hm fun hm=>eNil hm fun hm=>av _ _ _ _ _ _ hm
@[elab_as_elim] theorem m_meth {P:PySem.Expr->Prop} {f:Nat} {o:Ex} {x:Ex} {e:PySem.Expr} (hm:mtE T sc ctx (.meth f o x) e=true) (av: ∀v n ap y p,(n==("new_word":Str)&&(T.fns[f]? ==some n)&&ap.endLine==p.line&&jau v&&mtE T sc ctx o v&&mtE T sc ctx x y)=true->P (.Call (.Attribute v n ap) [y] [] p)):P e:=eCall hm fun u1 u2 u3 p hm=>eAttribute hm fun v n ap hm=>eCons hm fun y u4 hm=>eNil hm fun hm=>eNil hm fun hm=>av _ _ _ _ _ hm
@[elab_as_elim] theorem m_one {P:PySem.Expr->Prop} {i:Nat} {e:PySem.Expr} (hm:mtT ctx (.one i) e=true) (av: ∀x w1,(ctx[i]? ==some (some x))=true->P (.Name x w1)):P e:=eName hm fun x w1 hm=>av _ _ hm
@[elab_as_elim] theorem m_two {P:PySem.Expr->Prop} {i:Nat} {j:Nat} {e:PySem.Expr} (hm:mtT ctx (.two i j) e=true) (av: ∀x w1 y w2 w3 w4,(ctx[i]? ==some (some x)&&ctx[j]? ==some (some y)&&i !=j)=true->P (.Tuple [(.Name x w1),(.Name y w2)] w3 w4)):P e:=eTuple hm fun u5 w3 w4 hm=>eCons hm fun u6 u7 hm=>eName hm fun x w1 hm=>eCons hm fun u8 u9 hm=>eName hm fun y w2 hm=>eNil hm fun hm=>av _ _ _ _ _ _ hm
@[elab_as_elim] theorem m_asgn {P:PySem.Stmt->Prop} {i:Nat} {a:Ex} {e:PySem.Stmt} (hm:mtS T sc ctx (.asgn i a) e=true) (av: ∀x w1 v w2,(ctx[i]? ==some (some x)&&mtE T sc ctx a v)=true->P (.Assign [(.Name x w1)] v w2)):P e:=eSAssign hm fun u3 v w2 hm=>eCons hm fun u4 u5 hm=>eName hm fun x w1 hm=>eNil hm fun hm=>av _ _ _ _ hm
@[elab_as_elim] theorem m_unpack {P:PySem.Stmt->Prop} {i:Nat} {j:Nat} {a:Ex} {e:PySem.Stmt} (hm:mtS T sc ctx (.unpack i j a) e=true) (av: ∀x w1 y w2 w3 w4 v w5,(ctx[i]? ==some (some x)&&ctx[j]? ==some (some y)&&i !=j&& !jpN v&&mtE T sc ctx a v)=true->P (.Assign [(.Tuple [(.Name x w1),(.Name y w2)] w3 w4)] v w5)):P e:=eSAssign hm fun u6 v w5 hm=>eCons hm fun u7 u8 hm=>eTuple hm fun u9 w3 w4 hm=>eCons hm fun u10 u11 hm=>eName hm fun x w1 hm=>eCons hm fun u12 u13 hm=>eName hm fun y w2 hm=>eNil hm fun hm=>eNil hm fun hm=>av _ _ _ _ _ _ _ _ hm
@[elab_as_elim] theorem m_setAttr {P:PySem.Stmt->Prop} {o:Ex} {k:Nat} {a:Ex} {e:PySem.Stmt} (hm:mtS T sc ctx (.setAttr o k a) e=true) (av: ∀v n w1 x w2,(T.flds[k]? ==some n&&mtE T sc ctx o v&&mtE T sc ctx a x)=true->P (.Assign [(.Attribute v n w1)] x w2)):P e:=eSAssign hm fun u3 x w2 hm=>eCons hm fun u4 u5 hm=>eAttribute hm fun v n w1 hm=>eNil hm fun hm=>av _ _ _ _ _ hm
@[elab_as_elim] theorem m_setItem {P:PySem.Stmt->Prop} {o:Ex} {i:Ex} {a:Ex} {e:PySem.Stmt} (hm:mtS T sc ctx (.setItem o i a) e=true) (av: ∀v y w1 x w2,(mtE T sc ctx o v&&mtE T sc ctx i y&&mtE T sc ctx a x)=true->P (.Assign [(.Subscript v y w1)] x w2)):P e:=eSAssign hm fun u3 x w2 hm=>eCons hm fun u4 u5 hm=>eSubscript hm fun v y w1 hm=>eNil hm fun hm=>av _ _ _ _ _ hm
@[elab_as_elim] theorem m_augLoc {P:PySem.Stmt->Prop} {i:Nat} {op:Bop} {a:Ex} {e:PySem.Stmt} (hm:mtS T sc ctx (.augLoc i op a) e=true) (av: ∀x w1 o v w2,(ctx[i]? ==some (some x)&&op.is o&&mtE T sc ctx a v)=true->P (.AugAssign (.Name x w1) o v w2)):P e:=eSAugAssign hm fun u3 o v w2 hm=>eName hm fun x w1 hm=>av _ _ _ _ _ hm
@[elab_as_elim] theorem m_augAttr {P:PySem.Stmt->Prop} {b:Ex} {k:Nat} {op:Bop} {a:Ex} {e:PySem.Stmt} (hm:mtS T sc ctx (.augAttr b k op a) e=true) (av: ∀v n w1 o x w2,(T.flds[k]? ==some n&&op.is o&&mtE T sc ctx b v&&mtE T sc ctx a x)=true->P (.AugAssign (.Attribute v n w1) o x w2)):P e:=eSAugAssign hm fun u3 o x w2 hm=>eAttribute hm fun v n w1 hm=>av _ _ _ _ _ _ hm
@[elab_as_elim] theorem m_ifs {P:PySem.Stmt->Prop} {c:Ex} {a:Sts} {b:Sts} {e:PySem.Stmt} (hm:mtS T sc ctx (.ifs c a b) e=true) (av: ∀t x y w1,(mtE T sc ctx c t&&jmv T sc ctx a x&&jmv T sc ctx b y)=true->P (.If t x y w1)):P e:=eSIf hm fun t x y w1 hm=>av _ _ _ _ hm
@[elab_as_elim] theorem m_while {P:PySem.Stmt->Prop} {c:Ex} {b:Sts} {e:PySem.Stmt} (hm:mtS T sc ctx (.while c b) e=true) (av: ∀t x w1,(mtE T sc ctx c t&&jmv T sc ctx b x)=true->P (.While t x [] w1)):P e:=eSWhile hm fun t x u2 w1 hm=>eNil hm fun hm=>av _ _ _ hm
@[elab_as_elim] theorem m_ret {P:PySem.Stmt->Prop} {a:Ex} {e:PySem.Stmt} (hm:mtS T sc ctx (.ret a) e=true) (av: ∀v w1,(mtE T sc ctx a v)=true->P (.Return (.some v) w1)):P e:=eSReturn hm fun u2 w1 hm=>eSo hm fun v hm=>av _ _ hm
@[elab_as_elim] theorem m_retNone {P:PySem.Stmt->Prop} {e:PySem.Stmt} (hm:mtS T sc ctx (.retNone) e=true) (av: ∀w1,P (.Return .none w1)):P e:=eSReturn hm fun u2 w1 hm=>eNo hm fun hm=>av _
@[elab_as_elim] theorem m_expr {P:PySem.Stmt->Prop} {a:Ex} {e:PySem.Stmt} (hm:mtS T sc ctx (.expr a) e=true) (av: ∀v w1,(!jfn v&&mtE T sc ctx a v)=true->P (.Expr v w1)):P e:=eSExpr hm fun v w1 hm=>av _ _ hm
@[elab_as_elim] theorem m_comp {P:PySem.Expr->Prop} {slot:Nat} {elt:Ex} {it:Ex} {rng:Bool} {cond:Exs} {e:PySem.Expr} (hm:mtE T sc ctx (.comp slot elt it rng cond) e=true) (av: ∀el x w1 iter ifs scope w2,(scC scope sc x&&blt slot ctx.length&&(ctx[slot]? ==some none)&&_root_.cond rng (jcz iter fun r1 r2 r3 _=>jbX r1 fun f _=>jbe r2 fun n r4=>jbS r4 (jbS r3 (f==("range":Str)&&isG sc f&&mtE T sc ctx it n))) (mtE T sc ctx it iter)&&mtE T (scR scope sc) (jn7 ctx slot x scope) elt el&&jed T (scR scope sc) (jn7 ctx slot x scope) cond ifs)=true->P (.ListComp el [⟨(.Name x w1),iter,ifs,0⟩] scope w2)):P e:=eListComp hm fun el u3 scope w2 hm=>eCons hm fun u4 u5 hm=>eComp hm fun u6 iter ifs u7 hm=>eName hm fun x w1 hm=>eZero hm fun hm=>eNil hm fun hm=>av _ _ _ _ _ _ _ hm
@[elab_as_elim] theorem m_for {P:PySem.Stmt->Prop} {t:Tgt} {it:Ex} {rng:Bool} {b:Sts} {e:PySem.Stmt} (hm:mtS T sc ctx (.for t it rng b) e=true) (av: ∀tgt iter x w1,(mtT ctx t tgt&&_root_.cond rng (jcz iter fun r1 r2 r3 _=>jbX r1 fun f _=>jbe r2 fun n r4=>jbS r4 (jbS r3 (f==("range":Str)&&isG sc f&&mtE T sc ctx it n))) (mtE T sc ctx it iter)&&jmv T sc ctx b x)=true->P (.For tgt iter x [] w1)):P e:=eSFor hm fun tgt iter x u2 w1 hm=>eNil hm fun hm=>av _ _ _ _ hm
@[elab_as_elim] theorem rngT {P:PySem.Expr->Prop} {iter:PySem.Expr} {it:Ex} (hm:(jcz iter fun r1 r2 r3 _=>jbX r1 fun f _=>jbe r2 fun n r4=>jbS r4 (jbS r3 (f==("range":Str)&&isG sc f&&mtE T sc ctx it n)))=true) (k2: ∀f fp n p,(f==("range":Str)&&isG sc f&&mtE T sc ctx it n)=true->P (.Call (.Name f fp) [n] [] p)):P iter:=eCall hm fun u1 u2 u3 p hm=>eName hm fun f fp hm=>eCons hm fun n u4 hm=>eNil hm fun hm=>eNil hm fun hm=>k2 _ _ _ _ hm
end
theorem jl1{x:Ex}{v:PySem.Expr}{p:Pos}(h:mtE T sc ctx x (.Starred v p)=true):False:=by
 cases x<;>exact Bool.false_ne_true h
theorem jar{x:Ex}{e:PySem.Expr}{rest:List PySem.Expr}(h:mtE T sc ctx x e=true):starEach (e::rest) env=(false,eval e env)::starEach rest env:=by
 cases e<;>first | rfl | exact(jl1 h).elim
theorem jkt{x:Ex}{l u s:Option PySem.Expr}{p:Pos}(h:mtE T sc ctx x (.Slice l u s p)=true):False:=by
 cases x<;>exact Bool.false_ne_true h
theorem jhq{x:Ex}{e:PySem.Expr}(h:mtE T sc ctx x e=true):jgE e:=by
 intro o i
 cases e<;>first | rfl | exact(jkt h).elim
theorem ji6{x:Ex}{es:List PySem.Expr}{k:Nat}{p:Pos}(h:mtE T sc ctx x (.Set es k p)=true):False:=by
 cases x<;>exact Bool.false_ne_true h
theorem jiW{x:Ex}{e:PySem.Expr}(h:mtE T sc ctx x e=true)(v:Value):foldedSetIterable e env v=pure v:=by
 cases e<;>first | rfl | exact(ji6 h).elim
theorem jlh{x:Ex}{e:PySem.Expr}{op:CmpOp}(h:mtE T sc ctx x e=true):behindInMarks op e=false:=by
 cases e<;>first | rfl | exact(ji6 h).elim
theorem jd3{v:PySem.Expr}{n:Str}{t:Sem Value}(h:jau v=true):attributeBase v n env t=t:=by
 cases v with
 | Call f as ks p=>
  cases f<;>first | rfl | (cases as<;>first | rfl | (cases ks<;>first | rfl | exact(Bool.false_ne_true h).elim))
 | _=>rfl
theorem jiV{v:PySem.Expr}{n:Str}{p:Pos}(h:jau v=true):eval (.Attribute v n p) env=(do
  let o <-eval v env
  standAt p.atName
  let r <-holding [o] (getAttr o n true)
  letTemporaryGo v o r
  pure r):=by
 rw[arm_eval_Attribute,jd3 h]
end
open PySem.SeqAt
section
variable(prog:Program)(w:World)(T:Tb)(cl:Cls->Addr)(fa:Nat->Addr)(U:Heap)(d:Nat)
noncomputable def jaL:Phi:=fun f args Y Q=>
 ∀(A:Around) (O:List Ad) (s:Shared) (vs:List Value),COk d A->SR prog w cl T.fld U Y O s.heap->VReps O s.heap args vs->
  codeAny (model prog w) A (.call (.ref (fa f)) ⟨vs,[]⟩) (fun r s'=>match r with | .ok (.ret v)=>Post prog w T cl U No O s Q v s' | _=>False) s
noncomputable def jqW(P:Addr->Prop)(O:List Ad)(s:Shared)(Q:List PV->AHeap->Prop)(vs:List Value)(s':Shared):Prop:=
 ∃ps Y' O',Q ps Y'/\SR prog w cl T.fld U Y' O' s'.heap/\VReps O' s'.heap ps vs/\Stp P O s O' s'
noncomputable def PostB(P:Addr->Prop)(O:List Ad)(s:Shared)(TQ FQ:AHeap->Prop)(b:Bool)(s':Shared):Prop:=
 ∃Y' O',(b=true->TQ Y')/\(b=false->FQ Y')/\SR prog w cl T.fld U Y' O' s'.heap/\Stp P O s O' s'
noncomputable def ja1(x:Ex):Prop:=∀(e:PySem.Expr) (sc:Scope) (ctx:List (Option Str)),mtE T sc ctx x e=true->∀(A:Around) (env:Env) (Z:jao) (Y:AHeap) (O:List Ad) (s:Shared) (Q:PV->AHeap->Prop),
 AOk d A->EnvOk env sc ctx Z O s.heap->SR prog w cl T.fld U Y O s.heap->x.wp (jaL prog w T cl fa U d) Z Y Q->wpAny (model prog w) A (eval e env) (Post prog w T cl U No O s Q) NoE s
noncomputable def jmJ(x:Ex):Prop:=∀(e:PySem.Expr) (sc:Scope) (ctx:List (Option Str)),mtE T sc ctx x e=true->∀(A:Around) (env:Env) (Z:jao) (Y:AHeap) (O:List Ad) (s:Shared) (TQ FQ:AHeap->Prop),
 AOk d A->EnvOk env sc ctx Z O s.heap->SR prog w cl T.fld U Y O s.heap->x.wp (jaL prog w T cl fa U d) Z Y (fun v Y'=>ifB v (TQ Y') (FQ Y'))->
  wpAny (model prog w) A (isTrue e env (eval e env)) (PostB prog w T cl U No O s TQ FQ) NoE s
noncomputable def jgO(x:Exs):Prop:=∀(e:List PySem.Expr) (sc:Scope) (ctx:List (Option Str)),jed T sc ctx x e=true->∀(A:Around) (env:Env) (Z:jao) (Y:AHeap) (O:List Ad) (s:Shared) (Q:List PV->AHeap->Prop) (pos:Pos),
 AOk d A->EnvOk env sc ctx Z O s.heap->SR prog w cl T.fld U Y O s.heap->x.wp (jaL prog w T cl fa U d) Z Y Q->
  wpAny (model prog w) A (spliced (backTo pos (starEach e env))) (jqW prog w T cl U No O s Q) NoE s
noncomputable def jhS(x:Exs):Prop:=∀(e:List PySem.Expr) (sc:Scope) (ctx:List (Option Str)),jed T sc ctx x e=true->e≠ []->∀(A:Around) (env:Env) (Z:jao) (Y:AHeap) (O:List Ad) (s:Shared) (Q:PV->AHeap->Prop) (pos:Pos),
 AOk d A->EnvOk env sc ctx Z O s.heap->SR prog w cl T.fld U Y O s.heap->x.wpAnd (jaL prog w T cl fa U d) Z Y Q->
  wpAny (model prog w) A (boolOp pos .And (evalEach e env)) (Post prog w T cl U No O s Q) NoE s
noncomputable def jmI(x:Exs):Prop:=∀(e:List PySem.Expr) (sc:Scope) (ctx:List (Option Str)),jed T sc ctx x e=true->e≠ []->∀(A:Around) (env:Env) (Z:jao) (Y:AHeap) (O:List Ad) (s:Shared) (Q:PV->AHeap->Prop) (pos:Pos),
 AOk d A->EnvOk env sc ctx Z O s.heap->SR prog w cl T.fld U Y O s.heap->x.wpOr (jaL prog w T cl fa U d) Z Y Q->
  wpAny (model prog w) A (boolOp pos .Or (evalEach e env)) (Post prog w T cl U No O s Q) NoE s
noncomputable def je3(x:Exs):Prop:=∀(e:List PySem.Expr) (sc:Scope) (ctx:List (Option Str)),jed T sc ctx x e=true->∀(A:Around) (env:Env) (Z:jao) (Y:AHeap) (O:List Ad) (s:Shared) (TQ FQ:AHeap->Prop),
 AOk d A->EnvOk env sc ctx Z O s.heap->SR prog w cl T.fld U Y O s.heap->x.wpAnd (jaL prog w T cl fa U d) Z Y (fun v Y'=>ifB v (TQ Y') (FQ Y'))->
  wpAny (model prog w) A (allTrue .And e env) (PostB prog w T cl U No O s TQ FQ) NoE s
noncomputable def jhU(x:Exs):Prop:=∀(e:List PySem.Expr) (sc:Scope) (ctx:List (Option Str)),jed T sc ctx x e=true->∀(A:Around) (env:Env) (Z:jao) (Y:AHeap) (O:List Ad) (s:Shared) (TQ FQ:AHeap->Prop),
 AOk d A->EnvOk env sc ctx Z O s.heap->SR prog w cl T.fld U Y O s.heap->x.wpOr (jaL prog w T cl fa U d) Z Y (fun v Y'=>ifB v (TQ Y') (FQ Y'))->
  wpAny (model prog w) A (allTrue .Or e env) (PostB prog w T cl U No O s TQ FQ) NoE s
noncomputable def jqL(x:Exs):Prop:=∀(e:List PySem.Expr) (sc:Scope) (ctx:List (Option Str)),jed T sc ctx x e=true->∀(A:Around) (env:Env) (Z:jao) (Y:AHeap) (O:List Ad) (s:Shared) (TQ FQ:AHeap->Prop),
 AOk d A->EnvOk env sc ctx Z O s.heap->SR prog w cl T.fld U Y O s.heap->x.wpAnd (jaL prog w T cl fa U d) Z Y (fun v Y'=>ifB v (TQ Y') (FQ Y'))->
  wpAny (model prog w) A (forIn e true fun c r=>if r=true then do let ok <-isTrue c env (eval c env);pure (ForInStep.yield ok)else pure (ForInStep.yield r)) (PostB prog w T cl U No O s TQ FQ) NoE s
end
section
variable{prog:Program}{w:World}{T:Tb}{cl:Cls->Addr}{fa:Nat->Addr}{K:Frag}{U:Heap}{env:Env}{sc:Scope}{ctx:List (Option Str)}{Z:jao}{Y:AHeap}{O:List Ad}{A:Around}{d:Nat}{s:Shared}
theorem jaF{t:Sem Value}{P:Addr->Prop}{Q:PV->AHeap->Prop}{R:Value->Shared->Prop}(h:wpAny (model prog w) A t (Post prog w T cl U P O s Q) NoE s)
  (k: ∀v ag pv af ak,Q pv af->SR prog w cl T.fld U af ak ag.heap->VRep ak ag.heap pv v->Stp P O s ak ag->R v ag):wpAny (model prog w) A t R NoE s:=
 wpAny_mono h (fun v ag ⟨pv,af,ak,q,R,V,S⟩=>k v ag pv af ak q R V S) fun _ _ e=>e
theorem jmR{t:Sem Bool}{P:Addr->Prop}{TQ FQ:AHeap->Prop}{R:Bool->Shared->Prop}(h:wpAny (model prog w) A t (PostB prog w T cl U P O s TQ FQ) NoE s)
  (k: ∀v ag af ak,(v=true->TQ af)->(v=false->FQ af)->SR prog w cl T.fld U af ak ag.heap->Stp P O s ak ag->R v ag):wpAny (model prog w) A t R NoE s:=
 wpAny_mono h (fun v ag ⟨af,ak,q,q',R,S⟩=>k v ag af ak q q' R S) fun _ _ e=>e
theorem bindL{t:Sem (List Value)}{P:Addr->Prop}{Q:List PV->AHeap->Prop}{R:List Value->Shared->Prop}(h:wpAny (model prog w) A t (jqW prog w T cl U P O s Q) NoE s)
  (k: ∀v ag pv af ak,Q pv af->SR prog w cl T.fld U af ak ag.heap->VReps ak ag.heap pv v->Stp P O s ak ag->R v ag):wpAny (model prog w) A t R NoE s:=
 wpAny_mono h (fun v ag ⟨pv,af,ak,q,R,V,S⟩=>k v ag pv af ak q R V S) fun _ _ e=>e
theorem jcE{t:Sem Value}{O':List Ad}{s':Shared}{Q:PV->AHeap->Prop}(S:Stp No O s O' s')(h:wpAny (model prog w) A t (Post prog w T cl U No O' s' Q) NoE s'):wpAny (model prog w) A t (Post prog w T cl U No O s Q) NoE s':=
 wpAny_mono h (fun _ _ x=>x.before S) fun _ _ e=>e
theorem PostB.before{P:Addr->Prop}{O':List Ad}{s s' s'':Shared}{TQ FQ:AHeap->Prop}{v:Bool}(S:Stp P O s O' s')(x:PostB prog w T cl U P O' s' TQ FQ v s''):PostB prog w T cl U P O s TQ FQ v s'':=by
 refine jmA x fun Y' aE q q' R S'=>?_;clear x
 exact⟨Y',aE,q,q',R,S.trans S'⟩
theorem jkP{t:Sem Bool}{O':List Ad}{s':Shared}{TQ FQ:AHeap->Prop}(S:Stp No O s O' s')(h:wpAny (model prog w) A t (PostB prog w T cl U No O' s' TQ FQ) NoE s'):wpAny (model prog w) A t (PostB prog w T cl U No O s TQ FQ) NoE s':=
 wpAny_mono h (fun _ _ x=>x.before S) fun _ _ e=>e
theorem Post.keep{P:Addr->Prop}{s':Shared}{Q:PV->Prop}{Q':PV->AHeap->Prop}{v:Value}(x:Post prog w T cl U P O s (fun v Y'=>Q v/\Y'=Y) v s')(h: ∀v,Q v->Q' v Y):Post prog w T cl U P O s Q' v s':=by
 refine jhN x fun pv Y' O' zv9 R V S=>?_;clear x;obtain⟨q,rfl⟩:=zv9
 exact⟨pv,_,O',h _ q,R,V,S⟩
theorem jgK{P:Addr->Prop}{TQ FQ:AHeap->Prop}{v:Value}{pv:PV}{O':List Ad}{s':Shared}(S:Stp P O s O' s')(R:SR prog w cl T.fld U Y O' s'.heap)(V:VRep O' s'.heap pv v)(q:ifB pv (TQ Y) (FQ Y)):
  wpAny (model prog w) A (truthy v) (PostB prog w T cl U P O s TQ FQ) NoE s':=by
 cases pv<;>first | exact q.elim | skip
 rename_i b
 rw[jcv V]
 exact wpAny_truthy_bool ⟨Y,O',q.1,q.2,R,S⟩
theorem jdM{pv:PV}{P Q:Prop}(q:ifB pv P Q): ∃b,pv= .bool b/\(b=true->P)/\(b=false->Q):=by
 cases pv<;>first | exact q.elim | skip
 exact⟨_,rfl,q⟩
theorem jrO:ja1 prog w T cl fa U d .none:=by
 intro e sc ctx hm A env Z Y O s Q hA E R q
 refine m_none hm fun _ _=>?_
 exact wpAny_Constant_none (Post.same R jdO q)
theorem jrF(b:Bool):ja1 prog w T cl fa U d (.bool b):=by
 intro e sc ctx hm A env Z Y O s Q hA E R q
 refine m_bool hm fun _ _ _ hm=>?_
 have:=beq_iff_eq.mp hm;subst this
 exact wpAny_Constant_bool (Post.same R ja7 q)
theorem jsZ(i:Int):ja1 prog w T cl fa U d (.int i):=by
 intro e sc ctx hm A env Z Y O s Q hA E R q
 refine m_int hm fun _ _ _ hm=>?_
 have:=beq_iff_eq.mp hm;subst this
 exact wpAny_Constant_int (Post.same R ja3 q)
theorem js5(i:String):ja1 prog w T cl fa U d (.str i):=by
 intro e sc ctx hm A env Z Y O s Q hA E R q
 refine m_str hm fun _ _ _ hm=>?_
 have:=beq_iff_eq.mp hm;subst this
 exact wpAny_Constant_str (Post.same R jkH q)
theorem jdJ{x y:Str}(h:(x !=y)=true):(x==y)=false:=by simpa [bne]using h
theorem js1(G:Gl T cl fa K U)(i:Nat):ja1 prog w T cl fa U d (.loc i):=by
 intro e sc ctx hm A env Z Y O s Q hA E R q
 refine m_loc hm fun _ _ hm=>?_
 rw[and_eq_true]at hm
 exact jqe G E R (beq_iff_eq.mp hm.1) (jdJ hm.2) q
theorem jrK(G:Gl T cl fa K U)(j:Nat)(i:Int):ja1 prog w T cl fa U d (.glob j i):=by
 intro e sc ctx hm A env Z Y O s Q hA E R q
 refine m_glob hm fun _ _ hm=>?_
 simp only[and_eq_true]at hm
 obtain⟨⟨h1,h2⟩,h3⟩:=hm
 obtain⟨t,ht⟩:=G.gint _ _ _ (beq_iff_eq.mp h1)
 exact jdz G E R h2 (jdJ h3) ht (Post.same R ja3 q)
theorem jrE(G:Gl T cl fa K U)(a:Ex)(k:Nat)(ih:ja1 prog w T cl fa U d a):ja1 prog w T cl fa U d (.attr a k):=by
 intro e sc ctx hm A env Z Y O s Q hA E R q
 refine m_attr hm fun _ _ _ hm=>?_
 simp only[and_eq_true]at hm
 obtain⟨⟨h1,h2⟩,h3⟩:=hm
 rename_i v n pos
 have hn:n=T.fld k:=by unfold Tb.fld;rw[beq_iff_eq.mp h1];rfl
 subst hn
 refine Attribute_any_ ?_ (jiV h2)
 refine jaF (ih _ _ _ h3 _ _ _ _ _ _ _ hA E R q) fun v ag pv af ak ao am aq aj=>?_
 exact wpAny_mono (jfk G am aq ao) (fun _ _ x=>(x.keep fun _ q=>q).before aj) fun _ _ e=>e
theorem jrL(G:Gl T cl fa K U)(a i:Ex)(iha:ja1 prog w T cl fa U d a)(ihi:ja1 prog w T cl fa U d i):ja1 prog w T cl fa U d (.item a i):=by
 intro e sc ctx hm A env Z Y O s Q hA E R q
 refine m_item hm fun _ _ _ hm=>?_
 simp only[and_eq_true]at hm
 obtain⟨h1,h2⟩:=hm
 refine Subscript_ ?_
 refine jaF (iha _ _ _ h1 _ _ _ _ _ _ _ hA E R q) fun v ag pv af ak ao am aq aj=>?_
 refine jaF (ihi _ _ _ h2 _ _ _ _ _ _ _ hA (E.stepNo aj) am ao) fun bm ar bo ai aE aD aB aL aw=>?_
 exact wpAny_mono (jl7 G (jhq h2) aB (aq.mono aw.pre aw.tk) aL aD) (fun _ _ x=>(x.keep fun _ q=>q).before (aj.trans aw)) fun _ _ e=>e
theorem jfL{h:Heap}{a b c:Value}:(h.push {cls:=.type "slice",data:=.fields #[a,b,c]}).IsSliceOf h.objs.size a b c:=Heap.IsSliceOf.new ..
theorem jnJ(G:Gl T cl fa K U)(a i:Ex)(iha:ja1 prog w T cl fa U d a)(ihi:ja1 prog w T cl fa U d i):ja1 prog w T cl fa U d (.sliceTo a i):=by
 intro e sc ctx hm A env Z Y O s Q hA E R q
 refine m_sliceTo hm fun _ _ _ _ hm=>?_
 simp only[and_eq_true]at hm
 obtain⟨h1,h2⟩:=hm
 refine Subscript_ ?_
 refine jaF (iha _ _ _ h1 _ _ _ _ _ _ _ hA E R q) fun v ag pv af ak ao am aq aj=>?_
 refine wpAny_Slice (wpAny_evalPart_none (wpAny_evalPart_some ?_))
 refine jaF (ihi _ _ _ h2 _ _ _ _ _ _ _ hA (E.stepNo aj) am ao) fun bm ar bo ai aE aD aB aL aw=>?_
 refine wpAny_evalPart_none ?_
 have aG:Stp No aE ar aE {ar with heap:=ar.heap.push {cls:=.type "slice",data:=.fields #[.none,bm,.none]}}:=.grow (jax _ _) rfl rfl
 refine jcE ((aj.trans aw).trans aG) (jho G (s:={ar with heap:=ar.heap.push {cls:=.type "slice",data:=.fields #[.none,bm,.none]}}) (aB.grow (jax _ _)) ((aq.mono aw.pre aw.tk).mono aG.pre aG.tk) (aL.mono aG.pre aG.tk) aD jfL)
theorem jkE(G:Gl T cl fa K U)(a i:Ex)(iha:ja1 prog w T cl fa U d a)(ihi:ja1 prog w T cl fa U d i):ja1 prog w T cl fa U d (.sliceFrom a i):=by
 intro e sc ctx hm A env Z Y O s Q hA E R q
 refine m_sliceFrom hm fun _ _ _ _ hm=>?_
 simp only[and_eq_true]at hm
 obtain⟨h1,h2⟩:=hm
 refine Subscript_ ?_
 refine jaF (iha _ _ _ h1 _ _ _ _ _ _ _ hA E R q) fun v ag pv af ak ao am aq aj=>?_
 refine wpAny_Slice (wpAny_evalPart_some ?_)
 refine jaF (ihi _ _ _ h2 _ _ _ _ _ _ _ hA (E.stepNo aj) am ao) fun bm ar bo ai aE aD aB aL aw=>?_
 refine wpAny_evalPart_none (wpAny_evalPart_none ?_)
 have aG:Stp No aE ar aE {ar with heap:=ar.heap.push {cls:=.type "slice",data:=.fields #[bm,.none,.none]}}:=.grow (jax _ _) rfl rfl
 refine jcE ((aj.trans aw).trans aG) (jfu G (s:={ar with heap:=ar.heap.push {cls:=.type "slice",data:=.fields #[bm,.none,.none]}}) (aB.grow (jax _ _)) ((aq.mono aw.pre aw.tk).mono aG.pre aG.tk) (aL.mono aG.pre aG.tk) aD jfL)
theorem jsX(op:Bop)(a b:Ex)(iha:ja1 prog w T cl fa U d a)(ihb:ja1 prog w T cl fa U d b):ja1 prog w T cl fa U d (.bin op a b):=by
 intro e sc ctx hm A env Z Y O s Q hA E R q
 refine m_bin hm fun _ _ _ _ hm=>?_
 simp only[and_eq_true]at hm
 obtain⟨⟨h0,h1⟩,h2⟩:=hm
 refine wpAny_BinOp ?_
 refine jaF (iha _ _ _ h1 _ _ _ _ _ _ _ hA E R q) fun v ag pv af ak ao am aq aj=>?_
 refine jaF (ihb _ _ _ h2 _ _ _ _ _ _ _ hA (E.stepNo aj) am ao) fun bm ar bo ai aE aD aB aL aw=>?_
 exact jcE (aj.trans aw) (jnm h0 aB (aq.mono aw.pre aw.tk) aL aD)
theorem AOk.cmp{A:Around}(h:AOk d A):A.units+64<cLine:=by have:=h.units;have:cLine=9900:=rfl;walk_at "o"
theorem jsY(G:Gl T cl fa K U)(op:Cop)(a b:Ex)(iha:ja1 prog w T cl fa U d a)(ihb:ja1 prog w T cl fa U d b):ja1 prog w T cl fa U d (.cmp op a b):=by
 intro e sc ctx hm A env Z Y O s Q hA E R q
 refine m_cmp hm fun _ _ _ _ hm=>?_
 simp only[and_eq_true]at hm
 obtain⟨⟨h0,h1⟩,h2⟩:=hm
 refine wpAny_Compare1 ?_ (jlh h2)
 refine jaF (iha _ _ _ h1 _ _ _ _ _ _ _ hA E R q) fun v ag pv af ak ao am aq aj=>?_
 refine jaF (ihb _ _ _ h2 _ _ _ _ _ _ _ hA (E.stepNo aj) am ao) fun bm ar bo ai aE aD aB aL aw=>?_
 exact wpAny_mono (ji9 G hA.cmp h0 aB (aq.mono aw.pre aw.tk) aL aD) (fun _ _ x=>(x.keep fun _ q=>q).before (aj.trans aw)) fun _ _ e=>e
theorem js8(G:Gl T cl fa K U)(op:Cop)(a b:Ex)(iha:ja1 prog w T cl fa U d a)(ihb:ja1 prog w T cl fa U d b):jmJ prog w T cl fa U d (.cmp op a b):=by
 intro e sc ctx hm A env Z Y O s TQ FQ hA E R q
 refine m_cmp hm fun _ _ _ _ hm=>?_
 simp only[and_eq_true]at hm
 obtain⟨⟨h0,h1⟩,h2⟩:=hm
 refine wpAny_isTrue_Compare1 ?_ (jlh h2)
 refine jaF (iha _ _ _ h1 _ _ _ _ _ _ _ hA E R q) fun v ag pv af ak ao am aq aj=>?_
 refine jaF (ihb _ _ _ h2 _ _ _ _ _ _ _ hA (E.stepNo aj) am ao) fun bm ar bo ai aE aD aB aL aw=>?_
 refine jaF (ji9 G hA.cmp h0 aB (aq.mono aw.pre aw.tk) aL aD) fun dq aT cx aI bj be aU bp aG=>?_
 obtain⟨be,rfl⟩:=be
 exact jgK ((aj.trans aw).trans aG) aU bp be
noncomputable def TV(T:Tb)(x:Ex):Prop:=∀e sc ctx,mtE T sc ctx x e=true->∀env whole,isTrue e env whole=(do let v <-whole;standAt e.pos;holding [v] (truthy v))
theorem jql{x:Ex}(ih:ja1 prog w T cl fa U d x)(hs:TV T x):jmJ prog w T cl fa U d x:=by
 intro e sc ctx hm A env Z Y O s TQ FQ hA E R q
 refine wpAny_isTrue_value ?_ (hs _ _ _ hm _ _)
 refine jaF (ih _ _ _ hm _ _ _ _ _ _ _ hA E R q) fun v ag pv af ak ao am aq aj=>?_
 exact jgK aj am aq ao
theorem js3(a:Ex)(ih:jmJ prog w T cl fa U d a)(ihe:ja1 prog w T cl fa U d a):ja1 prog w T cl fa U d (.not a):=by
 intro e sc ctx hm A env Z Y O s Q hA E R q
 refine m_not hm fun _ _ hm=>?_
 refine wpAny_UnaryOp ?_
 refine jaF (ihe _ _ _ hm _ _ _ _ _ _ _ hA E R q) fun v ag pv af ak ao am aq aj=>?_
 refine jcs (jdM ao) fun b zq0 q2 q3=>?_;subst zq0
 rw[jcv aq]
 show wpAny _ _ (do let t <-truthy (.bool b);pure (Value.bool !t)) _ _ _
 refine wpAny_bind (wpAny_truthy_bool (wpAny_pure ?_))
 cases b with
 | true=>exact Post.before aj (Post.same am ja7 (q2 rfl))
 | false=>exact Post.before aj (Post.same am ja7 (q3 rfl))
theorem js9(a:Ex)(ih:jmJ prog w T cl fa U d a):jmJ prog w T cl fa U d (.not a):=by
 intro e sc ctx hm A env Z Y O s TQ FQ hA E R q
 refine m_not hm fun _ _ hm=>?_
 refine wpAny_isTrue_Not ?_
 have q':a.wp (jaL prog w T cl fa U d) Z Y (fun v Y'=>ifB v (FQ Y') (TQ Y')):=by
  rw[jsp]at q
  simpa [ifB]using q
 refine jmR (ih _ _ _ hm _ _ _ _ _ _ _ _ hA E R q') fun v ag af ak ao aD am aj=>?_
 exact⟨af,ak,fun e=>aD (by simpa using e),fun e=>ao (by simpa using e),am,aj⟩
end
open PySem.SeqAt
section
variable{prog:Program}{w:World}{T:Tb}{cl:Cls->Addr}{fa:Nat->Addr}{K:Frag}{U:Heap}{env:Env}{sc:Scope}{ctx:List (Option Str)}{Z:jao}{Y:AHeap}{O:List Ad}{A:Around}{d:Nat}{s:Shared}
theorem jbc{a:Ex}{as:Exs}{e:List PySem.Expr}(h:jed T sc ctx (.cons a as) e=true): ∃x r,e=x::r/\mtE T sc ctx a x=true/\jed T sc ctx as r=true:=by
 cases e with
 | nil=>exact(Bool.false_ne_true h).elim
 | cons x r=>have h:=Bool.and_eq_true_iff.mp h;exact⟨x,r,rfl,h.1,h.2⟩
theorem jbI{e:List PySem.Expr}(h:jed T sc ctx .nil e=true):e= []:=by
 cases e with
 | nil=>rfl
 | cons x r=>exact(Bool.false_ne_true h).elim
theorem jsE:jgO prog w T cl fa U d .nil:=by
 intro e sc ctx hm A env Z Y O s Q pos hA E R q
 have:=jbI hm;subst this
 exact Calls.spliced_nil ⟨[],Y,O,q,R,VReps.nil,.refl _ _ _⟩
theorem jrc(a:Ex)(as:Exs)(ih:ja1 prog w T cl fa U d a)(ihs:jgO prog w T cl fa U d as):jgO prog w T cl fa U d (.cons a as):=by
 intro e sc ctx hm A env Z Y O s Q pos hA E R q
 refine jaT (jbc hm) fun x r zq1 h1 h2=>?_;subst zq1
 rw[jar h1]
 refine Calls.spliced_cons ?_
 refine jaF (ih _ _ _ h1 _ _ _ _ _ _ _ hA E R q) fun v ag pv af ak ao am aq aj=>?_
 refine bindL (ihs _ _ _ h2 _ _ _ _ _ _ _ pos hA (E.stepNo aj) am ao) fun vs ar pvs ai aE aD aB aL aw=>?_
 exact⟨pv::pvs,ai,aE,aD,aB,VReps.cons (aq.mono aw.pre aw.tk) aL,aj.trans aw⟩
theorem job(a:Ex)(as:Exs)(ih:ja1 prog w T cl fa U d a)(ihs:jhS prog w T cl fa U d as):jhS prog w T cl fa U d (.cons a as):=by
 intro e sc ctx hm hne A env Z Y O s Q pos hA E R q
 refine jaT (jbc hm) fun x r zq2 h1 h2=>?_;subst zq2
 cases as with
 | nil=>
  have:=jbI h2;subst this
  show wpAny _ _ (eval x env) _ _ _
  refine jaF (ih _ _ _ h1 _ _ _ _ _ _ _ hA E R q) fun v ag pv af ak ao am aq aj=>?_
  refine jcs (jdM ao) fun b zq3 q2 q3=>?_;subst zq3
  refine⟨.bool b,af,ak,?_,am,aq,aj⟩
  cases b with
  | true=>exact q2 rfl
  | false=>exact q3 rfl
 | cons a' as'=>
  refine jaT (jbc h2) fun y r' zq4 _ _=>?_;subst zq4
  show wpAny _ _ (do let v <-eval x env;standAt pos;let t <-holding [v] (truthy v);(match BoolOp.And,t with | .And,false | .Or,true=>pure v | _,_=>boolOp pos .And (evalEach (y::r') env))) _ _ _
  refine wpAny_bind ?_
  refine jaF (ih _ _ _ h1 _ _ _ _ _ _ _ hA E R q) fun v ag pv af ak ao am aq aj=>?_
  refine jcs (jdM ao) fun b zq5 q2 q3=>?_;subst zq5
  have hv:=jcv aq
  subst hv
  refine wpAny_bind (wpAny_standAt (wpAny_bind (wpAny_holding (wpAny_truthy_bool ?_))))
  cases b with
  | true=>exact jcE aj (ihs _ _ _ h2 (by simp) _ _ _ _ _ _ _ pos hA (E.stepNo aj) am (q2 rfl))
  | false=>exact wpAny_pure ⟨.bool false,af,ak,q3 rfl,am,aq,aj⟩
theorem jpi:jhS prog w T cl fa U d .nil:=by
 intro e sc ctx hm hne
 exact absurd (jbI hm) hne
theorem jp2(a:Ex)(as:Exs)(ih:ja1 prog w T cl fa U d a)(ihs:jmI prog w T cl fa U d as):jmI prog w T cl fa U d (.cons a as):=by
 intro e sc ctx hm hne A env Z Y O s Q pos hA E R q
 refine jaT (jbc hm) fun x r zq6 h1 h2=>?_;subst zq6
 cases as with
 | nil=>
  have:=jbI h2;subst this
  show wpAny _ _ (eval x env) _ _ _
  refine jaF (ih _ _ _ h1 _ _ _ _ _ _ _ hA E R q) fun v ag pv af ak ao am aq aj=>?_
  refine jcs (jdM ao) fun b zq7 q2 q3=>?_;subst zq7
  refine⟨.bool b,af,ak,?_,am,aq,aj⟩
  cases b with
  | true=>exact q2 rfl
  | false=>exact q3 rfl
 | cons a' as'=>
  refine jaT (jbc h2) fun y r' zq8 _ _=>?_;subst zq8
  show wpAny _ _ (do let v <-eval x env;standAt pos;let t <-holding [v] (truthy v);(match BoolOp.Or,t with | .And,false | .Or,true=>pure v | _,_=>boolOp pos .Or (evalEach (y::r') env))) _ _ _
  refine wpAny_bind ?_
  refine jaF (ih _ _ _ h1 _ _ _ _ _ _ _ hA E R q) fun v ag pv af ak ao am aq aj=>?_
  refine jcs (jdM ao) fun b zq9 q2 q3=>?_;subst zq9
  have hv:=jcv aq
  subst hv
  refine wpAny_bind (wpAny_standAt (wpAny_bind (wpAny_holding (wpAny_truthy_bool ?_))))
  cases b with
  | false=>exact jcE aj (ihs _ _ _ h2 (by simp) _ _ _ _ _ _ _ pos hA (E.stepNo aj) am (q3 rfl))
  | true=>exact wpAny_pure ⟨.bool true,af,ak,q2 rfl,am,aq,aj⟩
theorem jrv:jmI prog w T cl fa U d .nil:=by
 intro e sc ctx hm hne
 exact absurd (jbI hm) hne
theorem joL:je3 prog w T cl fa U d .nil:=by
 intro e sc ctx hm A env Z Y O s TQ FQ hA E R q
 have:=jbI hm;subst this
 exact wpAny_pure ⟨Y,O,fun _=>q.1 rfl,(fun e=>by cases e),R,.refl _ _ _⟩
theorem jqm:jhU prog w T cl fa U d .nil:=by
 intro e sc ctx hm A env Z Y O s TQ FQ hA E R q
 have:=jbI hm;subst this
 exact wpAny_pure ⟨Y,O,(fun e=>by cases e),fun _=>q.2 rfl,R,.refl _ _ _⟩
theorem jnS(a:Ex)(as:Exs)(ih:jmJ prog w T cl fa U d a)(ihs:je3 prog w T cl fa U d as):je3 prog w T cl fa U d (.cons a as):=by
 intro e sc ctx hm A env Z Y O s TQ FQ hA E R q
 refine jaT (jbc hm) fun x r zq0 h1 h2=>?_;subst zq0
 refine wpAny_allTrue_And_cons ?_
 refine jmR (ih _ _ _ h1 _ _ _ _ _ _ (fun Y'=>as.wpAnd (jaL prog w T cl fa U d) Z Y' fun v Y''=>ifB v (TQ Y'') (FQ Y'')) FQ hA E R ?_) fun b ag af ak ao aD am aj=>?_
 ·simp only[jmE,jqU]at q
  simpa [ifB]using q
 ·cases b with
  | true=>exact jkP aj (ihs _ _ _ h2 _ _ _ _ _ _ _ _ hA (E.stepNo aj) am (ao rfl))
  | false=>exact⟨af,ak,(fun e=>by cases e),fun _=>aD rfl,am,aj⟩
theorem joP(a:Ex)(as:Exs)(ih:jmJ prog w T cl fa U d a)(ihs:jhU prog w T cl fa U d as):jhU prog w T cl fa U d (.cons a as):=by
 intro e sc ctx hm A env Z Y O s TQ FQ hA E R q
 refine jaT (jbc hm) fun x r zq1 h1 h2=>?_;subst zq1
 refine wpAny_allTrue_Or_cons ?_
 refine jmR (ih _ _ _ h1 _ _ _ _ _ _ TQ (fun Y'=>as.wpOr (jaL prog w T cl fa U d) Z Y' fun v Y''=>ifB v (TQ Y'') (FQ Y'')) hA E R ?_) fun b ag af ak ao aD am aj=>?_
 ·rw[jpg]at q
  simpa [ifB]using q
 ·cases b with
  | false=>exact jkP aj (ihs _ _ _ h2 _ _ _ _ _ _ _ _ hA (E.stepNo aj) am (aD rfl))
  | true=>exact⟨af,ak,fun _=>ao rfl,(fun e=>by cases e),am,aj⟩
theorem jsD:jqL prog w T cl fa U d .nil:=by
 intro e sc ctx hm A env Z Y O s TQ FQ hA E R q
 have:=jbI hm;subst this
 rw[forIn_nil]
 exact wpAny_pure ⟨Y,O,fun _=>q.1 rfl,(fun e=>by cases e),R,.refl _ _ _⟩
theorem jsW(es:Exs)(ih:jhS prog w T cl fa U d es):ja1 prog w T cl fa U d (.and es):=by
 intro e sc ctx hm A env Z Y O s Q hA E R q
 refine m_and hm fun _ _ hm=>?_
 simp only[and_eq_true]at hm
 rename_i vs pos
 refine ih _ _ _ hm.2 ?_ _ _ _ _ _ _ _ _ hA E R q
 rintro rfl
 cases es with
 | nil=>simp[Exs.len]at hm
 | cons a as=>exact(Bool.false_ne_true hm.2).elim
theorem jBj(es:Exs)(ih:jmI prog w T cl fa U d es):ja1 prog w T cl fa U d (.or es):=by
 intro e sc ctx hm A env Z Y O s Q hA E R q
 refine m_or hm fun _ _ hm=>?_
 simp only[and_eq_true]at hm
 rename_i vs pos
 refine ih _ _ _ hm.2 ?_ _ _ _ _ _ _ _ _ hA E R q
 rintro rfl
 cases es with
 | nil=>simp[Exs.len]at hm
 | cons a as=>exact(Bool.false_ne_true hm.2).elim
theorem js7(es:Exs)(ih:je3 prog w T cl fa U d es):jmJ prog w T cl fa U d (.and es):=by
 intro e sc ctx hm A env Z Y O s TQ FQ hA E R q
 refine m_and hm fun _ _ hm=>?_
 simp only[and_eq_true]at hm
 exact wpAny_isTrue_BoolOp (ih _ _ _ hm.2 _ _ _ _ _ _ _ _ hA E R q)
theorem jBl(es:Exs)(ih:jhU prog w T cl fa U d es):jmJ prog w T cl fa U d (.or es):=by
 intro e sc ctx hm A env Z Y O s TQ FQ hA E R q
 refine m_or hm fun _ _ hm=>?_
 simp only[and_eq_true]at hm
 exact wpAny_isTrue_BoolOp (ih _ _ _ hm.2 _ _ _ _ _ _ _ _ hA E R q)
theorem jrM(es:Exs)(ih:jgO prog w T cl fa U d es):ja1 prog w T cl fa U d (.list es):=by
 intro e sc ctx hm A env Z Y O s Q hA E R q
 refine m_list hm fun _ _ hm=>?_
 refine wpAny_List ?_
 refine bindL (ih _ _ _ hm _ _ _ _ _ _ _ _ hA E R q) fun vs ag pvs af ak ao am aq aj=>?_
 have hl:=aq.length
 exact⟨by rw[hl];exact ao.1,Post.before aj (Post.list am aq ao.1 ao.2)⟩
theorem js6(es:Exs)(ih:jgO prog w T cl fa U d es):ja1 prog w T cl fa U d (.tup es):=by
 intro e sc ctx hm A env Z Y O s Q hA E R q
 refine m_tup hm fun _ _ _ hm=>?_
 refine wpAny_Tuple ?_
 refine bindL (ih _ _ _ hm _ _ _ _ _ _ _ _ hA E R q) fun vs ag pvs af ak ao am aq aj=>?_
 have hl:=aq.length
 refine⟨by rw[hl];exact ao.1,Post.before aj (Post.grow am (jax _ _) ?_ ao.2)⟩
 simp only[VRep]
 exact⟨_,vs,rfl,Heap.get?_push_size _ rfl,aq.mono (prefix_refl _) fun a vs e=>jax _ _ _ _ e⟩
theorem jk0{h:Heap}:(h.push {cls:=.type "dict",data:=.dict #[]}).DictOf (iK prog w) h.objs.size []:=
 ⟨_,#[],0,Heap.get?_push_size _ rfl,⟨rfl,rfl,rfl⟩,rfl,(fun _ he=>by simp at he),Pairs.nil,List.nodup_nil⟩
theorem jqb:ja1 prog w T cl fa U d .dict0:=by
 intro e sc ctx hm A env Z Y O s Q hA E R q
 refine m_dict0 hm fun _=>?_
 refine wpAny_Dict_empty ?_
 exact Post.alloc (p:=(s.heap.objs.size,s.heap.objs.size)) (o:=.dict []) R (jax _ _) (jaH _) (jaH _) ⟨rfl,[],jk0,rfl,VReps.nil,zero_le _⟩ q
end
open PySem.SeqAt
inductive Src where
 | list (a:Addr)
 | tup (a:Addr) (vs:List Value)
 | rng (n:Nat)
noncomputable def ItRep(h:Heap)(it:Addr):Src->Nat->Prop
 | .list a,i=>h.IsListIter it a i
 | .tup a vs,i=>h.IsTupleIter it a i/\h.get? a=some (jdZ vs)
 | .rng n,i=>i<=n/\IsRangeIter h it (i:Int) ((n:Int)-(i:Int)) 1
noncomputable def SrcOk(O:List Ad)(h:Heap)(pv:PV)(rng:Bool):Src->Prop
 | .list a=>rng=false/\∃l p,pv= .ref l/\O[l]? =some p/\p.1=a
 | .tup _ vs=>rng=false/\∃xs,pv= .tup xs/\VReps O h xs vs
 | .rng n=>rng=true/\∃k,pv= .int k/\n=k.toNat
section
variable{prog:Program}{w:World}{T:Tb}{cl:Cls->Addr}{fa:Nat->Addr}{K:Frag}{U:Heap}{env:Env}{sc:Scope}{ctx:List (Option Str)}{Z:jao}{Y:AHeap}{O:List Ad}{A:Around}{d:Nat}{s:Shared}
theorem ItRep.nt{h:Heap}{it:Addr}{src:Src}{i:Nat}(x:ItRep h it src i): ∃o,h.get? it=some o/\NT o:=by
 cases src with
 | list a=>refine jcs x fun o ho _ hd=>?_;clear x;exact⟨o,ho,.of_fields hd⟩
 | tup a vs=>obtain⟨⟨o,ho,_,hd⟩,_⟩:=x;exact⟨o,ho,.of_fields hd⟩
 | rng n=>exact⟨_,x.2,.of_fields rfl⟩
theorem ItRep.keep{h h':Heap}{it:Addr}{src:Src}{i:Nat}(x:ItRep h it src i)(k: ∀o,h.get? it=some o->h'.get? it=some o)(ht:TK h h'):ItRep h' it src i:=by
 cases src with
 | list a=>refine jcs x fun o ho hc hd=>?_;clear x;exact⟨o,k _ ho,hc,hd⟩
 | tup a vs=>obtain⟨⟨o,ho,hc,hd⟩,g⟩:=x;exact⟨⟨o,k _ ho,hc,hd⟩,ht _ _ g⟩
 | rng n=>exact⟨x.1,k _ x.2⟩
theorem SrcOk.mono{O':List Ad}{h h':Heap}{pv:PV}{rng:Bool}{src:Src}(x:SrcOk O h pv rng src)(hp:O <+: O')(ht:TK h h'):SrcOk O' h' pv rng src:=by
 cases src with
 | list a=>obtain⟨e,zu3⟩:=x;refine jaT zu3 fun l p e1 e2 e3=>?_;clear zu3;exact⟨e,l,p,e1,jb0 hp e2,e3⟩
 | tup a vs=>obtain⟨e,zu4⟩:=x;refine jaj zu4 fun xs e1 r=>?_;clear zu4;exact⟨e,xs,e1,r.mono hp ht⟩
 | rng n=>exact x
variable(prog w T cl U) in
noncomputable def jsr(Y:AHeap)(O:List Ad)(s:Shared)(it:Addr)(src:Src)(i:Nat)(xs:List PV)(r:Option Value)(ag:Shared):Prop:=
 ag.os=s.os/\ag.gens=s.gens/\SR prog w cl T.fld U Y O ag.heap/\TK s.heap ag.heap/\
 match xs[i]? with
 | none=>r=none/\Kp (fun b=>b=it) s.heap ag.heap
 | some x=>∃v,r=some v/\VRep O ag.heap x v/\ItRep ag.heap it src (i+1)/\Heap.SameBut it s.heap ag.heap
theorem SameBut.kp{a:Addr}{h h':Heap}(x:Heap.SameBut a h h'):Kp (fun c=>c=a) h h':=fun c o e n=>(x.2 c n).trans e
theorem ExtBut.kp{a:Addr}{h h':Heap}(x:Heap.ExtBut a h h'):Kp (fun c=>c=a) h h':=fun c o e n=>x c o n e
theorem jlk(hh:A.handled=none){it:Addr}{src:Src}{i:Nat}{xs:List PV}{pv:PV}{rng:Bool}(R:SR prog w cl T.fld U Y O s.heap)(hit:ItRep s.heap it src i)(nm: ¬InMu O it)(nb:U.get? it=none)
  (hx:jam rng pv Y=some xs) (ok:SrcOk O s.heap pv rng src):wpAny (model prog w) A (pyNext (.ref it)) (jsr prog w T cl U Y O s it src i xs) NoE s:=by
 refine jaj hit.nt fun oi hoi hnt=>?_
 have keep: ∀{h':Heap},Kp (fun c=>c=it) s.heap h'->SR prog w cl T.fld U Y O h'/\TK s.heap h':=fun{h'} k=>by
  have np: ∀a o,s.heap.get? a=some o->a=it->NT o:=fun a o e q=>by subst q;rw[hoi]at e;cases e;exact hnt
  exact⟨R.keepBut k np (fun a q=>q▸nm) fun a q=>q▸nb,k.tk np⟩
 cases src with
 | list a=>
  obtain⟨zq5,zu6⟩:=ok;subst zq5;refine jaT zu6 fun l p zq7 hp zq8=>?_;clear zu6;subst zq7;subst zq8
  simp only[jam,jbt]at hx
  split at hx
  ·rename_i xs' e1
   cases hx
   obtain⟨e2,zu9⟩:=R.obj l p _ hp e1;refine jcs zu9 fun vs hl r1 zz=>?_;clear zu9
   cases hxi:xs[i]? with
   | none=>
    have hvi:vs.toArray[i]? =none:=by
     have:=r1.length
     simp only[List.getElem?_toArray,List.getElem?_eq_none_iff]at hxi ⊢
     exact o94 this hxi
    refine wpAny_pyNext_list_end hh hit hl.isList hvi fun h' he=>?_
    obtain⟨R',ht⟩:=keep (ExtBut.kp he)
    exact⟨rfl,rfl,R',ht,by rw[hxi];exact⟨rfl,ExtBut.kp he⟩⟩
   | some x=>
    refine jaj (r1.get hxi) fun v hv rv=>?_
    refine wpAny_pyNext_list_item hit hl.isList (by simpa using hv) fun h' hi' hs=>?_
    obtain⟨R',ht⟩:=keep (SameBut.kp hs)
    exact⟨rfl,rfl,R',ht,by rw[hxi];exact⟨v,rfl,rv.mono (prefix_refl _) ht,hi',hs⟩⟩
  ·cases hx
 | tup a vs=>
  obtain⟨zq0,zu1⟩:=ok;subst zq0;refine jaj zu1 fun xs' zq2 r1=>?_;clear zu1;subst zq2
  simp only[jam,jbt]at hx
  split at hx
  ·cases hx
   obtain⟨hi,g⟩:=hit
   have ht0:=jbG g
   cases hxi:xs[i]? with
   | none=>
    have hvi:vs.toArray[i]? =none:=by
     have:=r1.length
     simp only[List.getElem?_toArray,List.getElem?_eq_none_iff]at hxi ⊢
     exact o94 this hxi
    refine wpAny_pyNext_tuple_end hh hi ht0 hvi fun h' he=>?_
    obtain⟨R',ht⟩:=keep (ExtBut.kp he)
    exact⟨rfl,rfl,R',ht,by rw[hxi];exact⟨rfl,ExtBut.kp he⟩⟩
   | some x=>
    refine jaj (r1.get hxi) fun v hv rv=>?_
    refine wpAny_pyNext_tuple_item hi ht0 (by simpa using hv) fun h' hi' hs=>?_
    obtain⟨R',ht⟩:=keep (SameBut.kp hs)
    exact⟨rfl,rfl,R',ht,by rw[hxi];exact⟨v,rfl,rv.mono (prefix_refl _) ht,⟨hi',ht _ _ g⟩,hs⟩⟩
  ·cases hx
 | rng n=>
  obtain⟨zq3,zu4⟩:=ok;subst zq3;refine jaj zu4 fun k zq5 zq6=>?_;clear zu4;subst zq5;subst zq6
  simp only[jam]at hx
  split at hx
  ·cases hx
   obtain⟨hle,hi⟩:=hit
   by_cases hlt:i<k.toNat
   ·have hxi:((List.range k.toNat).map fun(k:Nat)=>PV.int (k:Int))[i]? =some (.int (i:Int)):=by simp[hlt]
    refine wpAny_pyNext_range_item hi (jvJ hle hlt) fun h' hi' hs=>?_
    obtain⟨R',ht⟩:=keep (SameBut.kp hs)
    have hi2:IsRangeIter h' it ((i+1:Nat):Int) (((k.toNat:Nat):Int)-((i+1:Nat):Int)) 1:=by
     have e1:((i+1:Nat):Int)=(i:Int)+1:=by exact jvK
     have e2:((k.toNat:Nat):Int)-((i+1:Nat):Int)=((k.toNat:Nat):Int)-(i:Int)-1:=by exact jvL
     rw[e2,e1];exact hi'
    exact⟨rfl,rfl,R',ht,by rw[hxi];exact⟨_,rfl,ja3,⟨hlt,hi2⟩,hs⟩⟩
   ·have hxi:((List.range k.toNat).map fun(k:Nat)=>PV.int (k:Int))[i]? =none:=by simp;walk_at "o"
    refine wpAny_pyNext_range_end hh hi (jvM hle hlt) fun h' he=>?_
    obtain⟨R',ht⟩:=keep (ExtBut.kp he)
    exact⟨rfl,rfl,R',ht,by rw[hxi];exact⟨rfl,ExtBut.kp he⟩⟩
  ·cases hx
theorem jlc{pv:PV}{v:Value}{xs:List PV}(R:SR prog w cl T.fld U Y O s.heap)(V:VRep O s.heap pv v)(hx:jam false pv Y=some xs){Q:Value->Shared->Prop}{E':Value->Shared->Prop}
  (h: ∀it src ag,s.heap.get? it=none->(∀ b o,s.heap.get? b=some o->ag.heap.get? b=some o)->ag.os=s.os->ag.gens=s.gens->ItRep ag.heap it src 0->SrcOk O ag.heap pv false src->Q (.ref it) ag):
  wpAny (model prog w) A (pyIter v) Q E' s:=by
 cases pv with
 | ref l=>
  simp only[jam,jbt]at hx
  split at hx
  ·rename_i xs' e1
   refine jjG (R.list V e1) fun p vs hp zq7 e2 hl r1 zz=>?_;subst zq7
   refine wpAny_pyIter_list hl.isList ?_
   exact h _ (.list p.1) _ (jaH _) (jax _ _) rfl rfl ⟨_,Heap.get?_push_size _ rfl,rfl,rfl⟩ ⟨rfl,l,p,rfl,hp,rfl⟩
  ·cases hx
 | tup ys=>
  refine jaT (jb6 V) fun a vs zq8 g r1=>?_;subst zq8
  refine wpAny_pyIter_tuple (jbG g) ?_
  exact h _ (.tup a vs) _ (jaH _) (jax _ _) rfl rfl ⟨⟨_,Heap.get?_push_size _ rfl,rfl,rfl⟩,jax _ _ _ _ g⟩ ⟨rfl,ys,rfl,r1.mono (prefix_refl _) fun a vs e=>jax _ _ _ _ e⟩
 | none=>simp[jam,jbt]at hx
 | bool b=>simp[jam,jbt]at hx
 | int b=>simp[jam,jbt]at hx
 | str b=>simp[jam,jbt]at hx
theorem jjh(G:Gl T cl fa K U){f:Str}{fp pos:Pos}{n:PySem.Expr}{x:Ex}(hm:mtE T sc ctx x n=true)(hf:f=("range":Str))(hg:isG sc f=true){bx:PV->AHeap->Prop}{Q:Value->Shared->Prop}
  (E:EnvOk env sc ctx Z O s.heap) (R:SR prog w cl T.fld U Y O s.heap) (hn:wpAny (model prog w) A (eval n env) (Post prog w T cl U No O s bx) NoE s)
  (h: ∀pv af ak ag,bx pv af->SR prog w cl T.fld U af ak ag.heap->Stp No O s ak ag->∃k:Int,pv= .int k/\(0<=k/\k<=1000000)/\
   ∀it src ar,ag.heap.get? it=none->(∀ b o,ag.heap.get? b=some o->ar.heap.get? b=some o)->ar.os=ag.os->ar.gens=ag.gens->ItRep ar.heap it src 0->SrcOk ak ar.heap pv true src->Q (.ref it) ar):
  wpAny (model prog w) A (eval (.Call (.Name f fp) [n] [] pos) env) (fun xv ag=>wpAny (model prog w) A (pyIter xv) Q NoE ag) NoE s:=by
 subst hf
 refine wpAny_Call_NameR (jbN G E R hg (by decide) (by decide) (G.bi _ (by simp)) boot_range ?_)
 rw[show backTo pos (starEach [n] env)= [(false,eval n env)] by rw[jar hm];rfl]
 refine PySem.callWith_type rfl (Calls.evalArgs_plain (Calls.spliced_cons (jaF hn fun v ag pv af ak ao am aq aj=>Calls.spliced_nil ?_)))
 refine jcs (h _ _ _ _ ao am aj) fun k zq9 hk hq=>?_;subst zq9
 obtain⟨t,rfl⟩:=jak aq
 refine call_range_1 ?_
 have hsz:Builtin.Range.rangeSize 0 k 1=(k.toNat:Int):=by rw[rangeSize_one];split<;>walk_at "o"
 ·refine wpAny_pyIter_range (IsRange.new ..) (small_one (by decide) (by decide) (jvN hk) (jvO hk)) ?_
  refine hq _ (.rng k.toNat) _ ?_ (fun _ _ e=>Heap.get?_push_of_some _ (Heap.get?_push_of_some _ e)) rfl rfl ⟨zero_le _,?_⟩ ⟨rfl,k,rfl,rfl⟩
  ·cases e:ag.heap.get? (ag.heap.push {cls:=.type "range",data:=.fields #[.int 0 ag.toks,.int k t,.int 1 (ag.toks+1)]}).objs.size with
   | none=>rfl
   | some o=>have:=Heap.lt_size e;rw[Heap.size_push]at this;exact absurd this (Nat.not_lt.mpr (le_succ _))
  ·rw[hsz]
   have:((k.toNat:Nat):Int)-((0:Nat):Int)=((k.toNat:Nat):Int):=by exact jvP
   rw[this]
   exact Heap.get?_push_size _ rfl
end
open PySem.SeqAt
section
variable{prog:Program}{w:World}{T:Tb}{cl:Cls->Addr}{fa:Nat->Addr}{K:Frag}{U:Heap}{env:Env}{sc:Scope}{ctx:List (Option Str)}{Z:jao}{Y:AHeap}{O:List Ad}{A:Around}{d:Nat}{s:Shared}
theorem Stp.last{P:Addr->Prop}{O':List Ad}{s ag ar:Shared}{it:Addr}(S:Stp P O s O' ag)(k:Kp (fun b=>b=it) ag.heap ar.heap)(hn:s.heap.get? it=none)(h1:ar.os=ag.os)(h2:ar.gens=ag.gens):Stp P O s O' ar:=by
 have kk: ∀a o,s.heap.get? a=some o->a≠it:=fun a o e q=>by subst q;rw[hn]at e;cases e
 refine⟨S.pre,S.new,fun b o e n=>k b o (S.keep b o e n) (kk b o e),fun a o e=>?_,fun a vs e=>k _ _ (S.tk a vs e) (kk _ _ e),h1.trans S.os,h2.trans S.gens⟩
 obtain⟨o',e'⟩:=S.ex a o e
 exact⟨o',k _ _ e' (kk a o e)⟩
structure Own (U:Heap) (O:List Ad) (h:Heap) (a:Addr):Prop where
 nm: ¬InMu O a
 nb:U.get? a=none
 nt: ∃o,h.get? a=some o/\NT o
theorem Own.step{P:Addr->Prop}{O':List Ad}{s s':Shared}{a:Addr}(x:Own U O s.heap a)(S:Stp P O s O' s')(hP: ¬P a):Own U O' s'.heap a:=by
 refine jaj x.nt fun o e nt=>?_
 refine⟨fun q=>?_,x.nb,o,S.keep a o e (fun q=>q.elim x.nm hP),nt⟩
 rw[S.new a q x.nm]at e;cases e
theorem Own.other{h h':Heap}{a b:Addr}(x:Own U O h a)(k:Kp (fun c=>c=b) h h')(hab:a≠b):Own U O h' a:=by
 refine jaj x.nt fun o e nt=>?_
 exact⟨x.nm,x.nb,o,k a o e hab,nt⟩
theorem Own.keepBut{h h':Heap}{a:Addr}(x:Own U O h a)(R:SR prog w cl T.fld U Y O h)(k:Kp (fun c=>c=a) h h'):SR prog w cl T.fld U Y O h'/\TK h h':=by
 refine jaj x.nt fun oi hoi hnt=>?_
 have np: ∀b o,h.get? b=some o->b=a->NT o:=fun b o e q=>by subst q;rw[hoi]at e;cases e;exact hnt
 exact⟨R.keepBut k np (fun b q=>q▸x.nm) fun b q=>q▸x.nb,k.tk np⟩
theorem jaZ: ∀{l:List (Str×NameKind)} {n:Str} {k:NameKind},l.lookup n=some k->(n,k)∈l
 | (m,j)::r,n,k,h=>by
  rw[lookup_cons]at h
  cases hb:n==m with
  | true=>rw[hb]at h;cases h;rw[beq_iff_eq.mp hb];exact List.mem_cons_self
  | false=>rw[hb]at h;exact mem_cons_of_mem _ (jaZ h)
theorem jd9{env:Env}: ∀(names:List (Str×NameKind)) (acc:List (Str×Addr)),(∀ y∈names,y.2= .free->∃c,env.cells.lookup y.1=some c)->(∀ n,(acc.lookup n).isSome=true->acc.lookup n=env.cells.lookup n)->
  ∃out,(forIn names acc fun(x:Str×NameKind) (cs:List (Str×Addr))=>(match x with
   | (name,kind)=>if(kind== .free)=true then do let a <-cellOf env name;pure (ForInStep.yield ((name,a)::cs))else pure (ForInStep.yield cs):Sem (ForInStep (List (Str×Addr)))))=pure out/\
   (∀ n,(out.lookup n).isSome=true->out.lookup n=env.cells.lookup n)/\(∀ n,(acc.lookup n).isSome=true->(out.lookup n).isSome=true)/\(∀ y∈names,y.2= .free->(out.lookup y.1).isSome=true)
 | [],acc,_,ha=>⟨acc,by rw[forIn_nil],ha,fun _ h=>h,fun _ h=>(nomatch h)⟩
 | (n,k)::r,acc,h,ha=>by
  rw[List.forIn_cons]
  dsimp only
  by_cases hk:(k==NameKind.free)=true
  ·obtain⟨c,hc⟩:=h (n,k) (.head _) (beq_iff_eq.mp hk)
   rw[if_pos hk]
   have e:cellOf env n=pure c:=by unfold cellOf;rw[hc]
   rw[e]
   obtain⟨out,e1,e2,e3,e4⟩:=jd9 r ((n,c)::acc) (fun y hy=>h y (.tail _ hy)) (fun m hm=>by
    rw[lookup_cons]at hm ⊢
    cases hb:m==n with
    | true=>rw[beq_iff_eq.mp hb];exact hc.symm
    | false=>rw[hb]at hm;exact ha m hm)
   refine⟨out,e1,e2,fun m hm=>e3 m ?_,fun y hy hf=>?_⟩
   ·rw[lookup_cons]
    cases m==n with
    | true=>rfl
    | false=>exact hm
   ·rcases mem_cons.mp hy with rfl | hy
    ·exact e3 _ (by rw[lookup_cons];simp)
    ·exact e4 y hy hf
  ·rw[if_neg hk]
   refine jkV (jd9 r acc (fun y hy=>h y (.tail _ hy)) ha) fun out e1 e2 e3 e4=>?_
   refine⟨out,e1,e2,e3,fun y hy hf=>?_⟩
   rcases mem_cons.mp hy with rfl | hy
   ·exact absurd (by simpa using hf) hk
   ·exact e4 y hy hf
theorem jlS{scope:Scope}(h: ∀y∈scope.names,y.2= .free->∃c,env.cells.lookup y.1=some c): ∃out,closureFor scope env=pure out/\(∀ y∈scope.names,y.2= .free->out.lookup y.1=env.cells.lookup y.1):=by
 refine jkV (jd9 (env:=env) scope.names [] h (fun n hn=>by simp at hn)) fun out e1 e2 _ e4=>?_
 refine⟨out,?_,fun y hy hf=>e2 _ (e4 y hy hf)⟩
 unfold closureFor
 exact(congrArg (fun t=>t >>= fun cs=>(pure cs:Sem (List (Str×Addr)))) e1)
theorem jbC{scope sc:Scope}(hc: ∀y∈scope.names,y.2≠ .cell)(x:Str):(scR scope sc).names.lookup x=match scope.names.lookup x with
  | some .free=>if sc.names.lookup x==some .cell then some .cell else some .free
  | k=>k:=by
 unfold scR
 dsimp only
 generalize scope.names=l
 induction l with
 | nil=>rfl
 | cons y r ih=>
  obtain⟨n,k⟩:=y
  rw[map_cons,lookup_cons]
  cases hx:x==n with
  | true=>
   have:=beq_iff_eq.mp hx
   subst this
   by_cases hk:(k==NameKind.free&&sc.names.lookup x==some .cell)=true
   ·rw[if_pos hk]
    simp only[and_eq_true,beq_iff_eq]at hk
    simp[lookup_cons,hk.1,hk.2]
   ·rw[if_neg hk]
    simp only[lookup_cons,beq_self_eq_true]
    cases k<;>simp_all
  | false=>
   by_cases hk:(k==NameKind.free&&sc.names.lookup n==some .cell)=true
   ·rw[if_pos hk]
    simp only[lookup_cons,hx]
    exact ih
   ·rw[if_neg hk]
    simp only[lookup_cons,hx]
    exact ih
end
open PySem.SeqAt
section
variable{prog:Program}{w:World}{T:Tb}{cl:Cls->Addr}{fa:Nat->Addr}{K:Frag}{U:Heap}{env:Env}{sc:Scope}{ctx:List (Option Str)}{Z:jao}{Y:AHeap}{O:List Ad}{A:Around}{d:Nat}{s:Shared}
theorem jjj{scope sc:Scope}{x:Str}(h:scC scope sc x=true):scope.kind= .function/\(∀ y∈scope.names,y.2≠ .cell)/\(∀ y∈scope.names,y.2= .free->sc.names.lookup y.1=some .cell)/\
  (∀ y∈scope.names,y.2= .local->scope.names.lookup y.1=some .local)/\scope.names.lookup x=some .local:=by
 unfold scC at h
 simp only[and_eq_true,beq_iff_eq,all_eq_true,bne_iff_ne,or_eq_true]at h
 obtain⟨⟨⟨⟨h1,h2⟩,h3⟩,h4⟩,h5⟩:=h
 exact⟨h1,fun y hy=>h2 y hy,fun y hy hf=>(h3 y hy).resolve_left (fun q=>q hf),fun y hy hf=>(h4 y hy).resolve_left (fun q=>q hf),h5⟩
theorem jlU{scope:Scope}{x:Str}{slot:Nat}{out:List (Str×Addr)}{C:Addr}{m:Str->Option Value}{h:Heap}{pv:PV}{v:Value}(hs:scC scope sc x=true)(E:EnvOk env sc ctx Z O h)
  (hout: ∀y∈scope.names,y.2= .free->out.lookup y.1=env.cells.lookup y.1) (hn:h.Ns C m) (hm:m x=some v) (V:VRep O h pv v) (hC: ¬InMu O C) (hslot:slot<ctx.length):
  EnvOk (compEnvC scope out C env) (scR scope sc) (jn7 ctx slot x scope) (Z.set slot (some pv)) O h:=by
 refine jgk (jjj hs) fun h1 h2 h3 h4 h5=>?_
 have hk: ∀n,env.kindOf n=sc.names.lookup n:=fun n=>by unfold Env.kindOf;rw[E.names]
 have hnames:(compEnvC scope out C env).scope.names=(scR scope sc).names:=by
  unfold compEnvC relabel scR
  dsimp only
  refine map_congr_left fun y hy=>?_
  obtain⟨n,k⟩:=y
  simp[E.kind,hk]
 have hkind: ∀n,(compEnvC scope out C env).kindOf n=(scR scope sc).names.lookup n:=fun n=>by unfold Env.kindOf;rw[hnames]
 refine⟨h1,hnames,E.globals,E.bi,by simp[jn7,E.len],fun y hy=>?_,fun i y pv' hi bk=>?_⟩
 ·rw[hkind,jbC h2]at hy
  have hf:scope.names.lookup y=some .free:=by
   split at hy
   ·assumption
   ·rename_i k hk'
    exact absurd rfl (h2 _ (jaZ hy))
  have hmem:=jaZ hf
  obtain⟨c,hc⟩:=E.cells y (by rw[hk];exact h3 _ hmem rfl)
  exact⟨c,by show out.lookup y=some c;rw[hout _ hmem rfl];exact hc⟩
 ·unfold jn7 at hi
  by_cases his:slot=i
  ·subst his
   rw[List.getElem?_set_self (by simpa using hslot)]at hi
   rw[List.getElem?_set_self (by rw[E.len];exact hslot)]at bk
   cases hi;cases bk
   refine jhN hn fun o es ep ho hd hk' hf=>?_;clear hn
   refine⟨v,C,o,V,ho,hC,.inl ⟨?_,rfl,es,ep,hd,hk',(hf x).trans hm⟩⟩
   rw[hkind,jbC h2,h5]
  ·rw[getElem?_set_ne his]at hi bk
   rw[getElem?_map]at hi
   cases hci:ctx[i]? with
   | none=>rw[hci]at hi;cases hi
   | some o=>
    rw[hci]at hi
    cases o with
    | none=>cases hi
    | some y'=>
     simp only[Option.map_some,Option.bind_some,Option.some.injEq]at hi
     split at hi
     ·rename_i hf
      cases hi
      have hf:=beq_iff_eq.mp hf
      have hmem:=jaZ hf
      have hcell:=h3 _ hmem rfl
      refine jhN (E.vars i y pv' hci bk) fun v' a o r1 r2 r3 r4=>?_
      refine⟨v',a,o,r1,r2,r3,?_⟩
      rcases r4 with ⟨k1,_⟩ | ⟨k1,k2,k3⟩
      ·rw[hk,hcell]at k1;cases k1
      ·refine .inr ⟨?_,?_,k3⟩
       ·rw[hkind,jbC h2,hf]
        simp[hcell]
       ·show out.lookup y=some a
        rw[hout _ hmem rfl];exact k2
     ·cases hi
theorem jiQ(G:Gl T cl fa K U){slot:Nat}{elt it:Ex}{rng:Bool}{cond:Exs}(ihElt:ja1 prog w T cl fa U d elt)(ihIt:ja1 prog w T cl fa U d it)(ihC:jqL prog w T cl fa U d cond)
  {el iter:PySem.Expr} {x:Str} {xp pos pos':Pos} {ifs:List PySem.Expr} {scope:Scope} (hm:mtE T sc ctx (.comp slot elt it rng cond) (.ListComp el [⟨.Name x xp,iter,ifs,0⟩] scope pos)=true)
  {Q:PV->AHeap->Prop} (hA:AOk d A) (E:EnvOk env sc ctx Z O s.heap) (R:SR prog w cl T.fld U Y O s.heap) (q:(Ex.comp slot elt it rng cond).wp (jaL prog w T cl fa U d) Z Y Q) {use:Option (Value->Sem Unit)} {Q':Value->Shared->Prop}
  (h: ∀C m pv v Y' O' s',Q pv Y'->SR prog w cl T.fld U Y' O' s'.heap->VRep O' s'.heap pv v->Stp No O s O' s'->s'.heap.Ns C m->s.heap.get? C=none->Own U O' s'.heap C->
   compPost (model prog w) A NoE use Q' v C (.ok .next) s'):
  wpAny (model prog w) A (comprehension (.ListComp el [⟨.Name x xp,iter,ifs,0⟩] scope pos) scope env pos' (newList []) false (eval iter env) use) Q' NoE s:=by
 have hm:(scC scope sc x&&blt slot ctx.length&&(ctx[slot]? ==some none)&&_root_.cond rng (jcz iter fun r1 r2 r3 _=>jbX r1 fun f _=>jbe r2 fun n r4=>jbS r4 (jbS r3 (f==("range":Str)&&isG sc f&&mtE T sc ctx it n))) (mtE T sc ctx it iter)&&mtE T (scR scope sc) (jn7 ctx slot x scope) elt el&&jed T (scR scope sc) (jn7 ctx slot x scope) cond ifs)=true:=hm
 simp only[and_eq_true]at hm
 obtain⟨⟨⟨⟨⟨hs,hsl⟩,hsn⟩,hit⟩,hel⟩,hif⟩:=hm
 have hslot:slot<ctx.length:=by simpa using hsl
 refine jgk (jjj hs) fun h1 h2 h3 h4 h5=>?_
 have hcl: ∀y∈scope.names,y.2= .free->∃c,env.cells.lookup y.1=some c:=fun y hy hf=>
  E.cells y.1 (by unfold Env.kindOf;rw[E.names];exact h3 y hy hf)
 refine jaj (jlS hcl) fun out hout hol=>?_
 have block: ∀{pv:PV} {af:AHeap} {ak:List Ad} {ag:Shared} {it':Addr} {src:Src} {ar:Shared},
   (∃ (I:Nat->AHeap->Prop) (N:Nat),I 0 (af.alloc (.list []))/\∀i Y',I i Y'->i<=N/\∃xs,jam rng pv Y'=some xs/\
    (match xs[i]? with
     | none=>Q (.ref af.sz) Y'
     | some x=>cond.wpAnd (jaL prog w T cl fa U d) (Z.set slot (some x)) Y' fun b ai=>
      ifB b (elt.wp (jaL prog w T cl fa U d) (Z.set slot (some x)) ai fun y aI=>jbv (.ref af.sz) y aI fun aZ=>I (i+1) aZ) (I (i+1) ai)))->
   SR prog w cl T.fld U af ak ag.heap->Stp No O s ak ag->ag.heap.get? it'=none->(∀ b o,ag.heap.get? b=some o->ar.heap.get? b=some o)->ar.os=ag.os->ar.gens=ag.gens->ItRep ar.heap it' src 0->SrcOk ak ar.heap pv rng src->
   wpAny (model prog w) A (newList []) (fun acc aT=>
    wpAny (model prog w) A (newFunctionEnv scope env.globals out [] env.qual none .none (some env)) (fun cenv aW=>
     codeAny (model prog w) A (.compStart (.ListComp el [⟨.Name x xp,iter,ifs,0⟩] scope pos) 0 (.ref it') acc {cenv with scope:=relabel scope env}) (compPost (model prog w) A NoE use Q' acc cenv.locals) aW) NoE aT) NoE ar:=by
  intro pv af ak ag it' src ar ⟨I,N,hI0,hI⟩ am aj hitn k12 ho hg hir hsrc
  refine wpAny_newList ?_ (zero_le _)
  refine wpAny_newFunctionEnv h2 (fun _ hb=>nomatch hb) (fun h' hns hsb=>?_) h1
  generalize hD:ar.heap.objs.size=D at*
  generalize hH:ar.heap.push {cls:=.type "list",dict:=none,data:=.seq ([]:List Value).toArray}=H at*
  have hDH:H.get? D=some {cls:=.type "list",data:=.seq #[]}:=by rw[<- hH,<-hD];exact Heap.get?_push_size _ rfl
  have kH: ∀b o,ar.heap.get? b=some o->H.get? b=some o:=fun b o e=>by rw[<- hH];exact jax _ _ _ _ e
  generalize hC:H.objs.size=C at*
  have hCn:H.get? C=none:=by rw[<- hC];exact jaH _
  have hDn:ar.heap.get? D=none:=by rw[<- hD];exact jaH _
  have kh': ∀b o,H.get? b=some o->h'.get? b=some o:=fun b o e=>by
   refine(hsb.2 b fun q=>?_).trans (jax _ _ _ _ e)
   subst q;rw[hCn]at e;cases e
  have k1': ∀b o,ag.heap.get? b=some o->h'.get? b=some o:=fun b o e=>kh' _ _ (kH _ _ (k12 _ _ e))
  have hDn1:ag.heap.get? D=none:=by
   cases e:ag.heap.get? D with
   | none=>rfl
   | some o=>rw[k12 _ _ e]at hDn;cases hDn
  have hCn1:ag.heap.get? C=none:=by
   cases e:ag.heap.get? C with
   | none=>rfl
   | some o=>rw[kH _ _ (k12 _ _ e)]at hCn;cases hCn
  have nb: ∀a,ag.heap.get? a=none->U.get? a=none:=fun a na=>by
   cases e0:U.get? a with
   | none=>rfl
   | some ob=>have:=am.keep _ _ e0;rw[na]at this;cases this
  have nm: ∀a,ag.heap.get? a=none->¬InMu ak a:=fun a na q=>by
   refine jaj (am.mu q) fun o e _=>?_
   rw[na]at e;cases e
  have hCD:C≠D:=fun q=>by rw[q,hDH]at hCn;cases hCn
  have hitD:it'≠D:=fun q=>by
   refine jaj hir.nt fun o e _=>?_
   rw[q,hDn]at e;cases e
  have hitC:it'≠C:=fun q=>by
   refine jaj hir.nt fun o e _=>?_
   rw[q]at e;rw[kH _ _ e]at hCn;cases hCn
  have aB:SR prog w cl T.fld U (af.alloc (.list [])) (ak++ [(D,D)]) h':=
   am.alloc (p:=(D,D)) k1' hDn1 hDn1 ⟨rfl,[],⟨0,kh' _ _ hDH⟩,VReps.nil,zero_le _⟩
  have hDmu:(ak++ [(D,D)])[af.sz]? =some (D,D):=by rw[AHeap.sz,<-am.len];simp
  have nmD: ∀a,ag.heap.get? a=none->a≠D->¬InMu (ak++ [(D,D)]) a:=fun a na hne q=>by
   refine jaj q fun p hp e=>?_;clear q
   rcases mem_append.mp hp with hp | hp
   ·exact nm a na ⟨p,hp,e⟩
   ·have:=mem_singleton.mp hp;subst this
    rcases e with e | e<;>exact hne e
  refine jse (id hns) fun oL es0 ep0 hL0 hLd0 _=>?_
  have aw: ∀tk,Stp No ak ag (ak++ [(D,D)]) {ar with heap:=h',toks:=tk}:=fun tk=>
   ⟨prefix_append _ _,fun a ha hn=>by
    refine jaj ha fun p hp e=>?_;clear ha
    rcases mem_append.mp hp with hp | hp
    ·exact absurd ⟨p,hp,e⟩ hn
    ·have:=mem_singleton.mp hp;subst this
     rcases e with rfl | rfl<;>exact hDn1,.of_all k1',fun a o e=>⟨o,k1' a o e⟩,fun a vs e=>k1' a _ e,ho,hg⟩
  have loop: ∀aT:Shared,aT={ar with heap:=h',toks:=ar.toks+([]:List (Str×Value)).length}->
    codeAny (model prog w) A (.compLoop (.ListComp el [⟨.Name x xp,iter,ifs,0⟩] scope pos) 0 (.ref it') (.ref D) (compEnvC scope out C env)) (compPost (model prog w) A NoE use Q' (.ref D) C) aT:=by
   rintro aT rfl
   refine codeAny_compLoop_tests (fun n s'=>∃i Y' O' m,n=N+1-i/\I i Y'/\SR prog w cl T.fld U Y' O' s'.heap/\Stp No ak ag O' s'/\ItRep s'.heap it' src i/\SrcOk O' s'.heap pv rng src/\
    Own U O' s'.heap it'/\Own U O' s'.heap C/\s'.heap.Ns C m/\O'[af.sz]? =some (D,D)) ?_ (N+1-0) ?_ (fun v=>by rfl)
   ·intro n s' zu0;refine jsf zu0 fun i Y' O' m zq1 hIi R' S' hir' hsrc' oit oC hn' hD'=>?_;clear zu0;subst zq1
    obtain⟨hiN,zu2⟩:=hI i Y' hIi;refine jaj zu2 fun xs hxs hmt=>?_;clear zu2
    refine wpAny_mono (jlk hA.handled R' hir' oit.nm oit.nb hxs hsrc') (fun r aW hnx=>?_) fun _ _ e=>e.elim
    refine jgk hnx fun n1 n2 bv bF hcase=>?_;clear hnx
    cases hxi:xs[i]? with
    | none=>
     rw[hxi]at hcase hmt
     obtain⟨rfl,kp⟩:=hcase
     have bw:Stp No ak ag O' aW:=S'.last kp hitn n1 n2
     refine h C m (.ref af.sz) (.ref D) Y' O' aW hmt bv (by simp only[VRep];exact⟨_,hD',rfl⟩) (aj.trans bw) ?_ ?_ (oC.other kp (Ne.symm hitC))
     ·refine jn5 hn' fun o es ep e1 e2=>?_;clear hn'
      exact⟨o,es,ep,kp _ _ e1 (Ne.symm hitC),e2⟩
     ·cases e:s.heap.get? C with
      | none=>rfl
      | some o=>obtain⟨o',e'⟩:=aj.ex _ _ e;rw[hCn1]at e';cases e'
    | some x'=>
     rw[hxi]at hcase hmt
     refine jkV hcase fun v zq3 rv bz bN=>?_;clear hcase;subst zq3
     have bG:=SameBut.kp bN
     have bw:Stp No ak ag O' aW:=S'.last bG hitn n1 n2
     have ca:Own U O' aW.heap C:=oC.other bG (Ne.symm hitC)
     have bO:Own U O' aW.heap it':=⟨oit.nm,oit.nb,bz.nt⟩
     have cU:aW.heap.Ns C m:=hn'.sameBut bN (Ne.symm hitC)
     dsimp only
     refine wpAny_assign_Name (wpAny_storeName_local (m:=m) (lookup_relabel_local h5) cU (fun bq bP cV=>?_) (by simp[compEnvC,relabel,h1]))
     have bQ:=SameBut.kp cV
     obtain⟨cb,bH⟩:=ca.keepBut bv bQ
     have bA:Stp No ak ag O' {aW with heap:=bq,toks:=aW.toks+1}:=bw.last bQ hCn1 rfl rfl
     have cW:VRep O' bq x' v:=rv.mono (prefix_refl _) bH
     have ce:Own U O' bq C:=⟨ca.nm,ca.nb,by refine jse bP fun o es ep e1 e2 _=>?_;clear bP;exact⟨o,e1,.of_dict e2⟩⟩
     have bI:Own U O' bq it':=bO.other bQ hitC
     have cf:ItRep bq it' src (i+1):=bz.keep (fun o e=>bQ _ _ e hitC) bH
     have cy:SrcOk O' bq pv rng src:=(hsrc'.mono (prefix_refl _) bF).mono (prefix_refl _) bH
     have cX:=E.stepNo aj
     have cY:EnvOk env sc ctx Z O' bq:=cX.stepNo bA
     have cz:EnvOk (compEnvC scope out C env) (scR scope sc) (jn7 ctx slot x scope) (Z.set slot (some x')) O' bq:=jlU hs cY hol bP (by simp) cW ce.nm hslot
     refine wpAny_mono (ihC ifs _ _ hif A _ (Z.set slot (some x')) Y' O' {aW with heap:=bq,toks:=aW.toks+1} (fun ai=>elt.wp (jaL prog w T cl fa U d) (Z.set slot (some x')) ai fun y aI=>jbv (.ref af.sz) y aI fun aZ=>I (i+1) aZ) (fun ai=>I (i+1) ai) hA cz cb hmt)
      (fun ok cC h6=>?_) fun _ _ e=>e.elim
     refine jmA h6 fun bJ bK q1 q2 bL aX=>?_;clear h6
     have cg:=ce.step aX (fun q=>q)
     have ch:=bI.step aX (fun q=>q)
     have kC: ∀{bg:List Ad} {sa sb:Shared} {br:List Ad},Own U bg sa.heap C->Stp No bg sa br sb->∀{m},sa.heap.Ns C m->sb.heap.Ns C m:=fun{bg sa sb br} o S {m} hn=>by
      refine jn5 hn fun ob es ep e1 e2=>?_;clear hn
      exact⟨ob,es,ep,S.keep _ _ e1 (fun q=>q.elim o.nm id),e2⟩
     have kit: ∀{bg:List Ad} {sa sb:Shared} {br:List Ad} {j:Nat},Own U bg sa.heap it'->Stp No bg sa br sb->ItRep sa.heap it' src j->ItRep sb.heap it' src j:=fun{bg sa sb br j} o S hr=>
      hr.keep (fun ob e=>S.keep _ _ e (fun q=>q.elim o.nm id)) S.tk
     have cE:=kC ce aX bP
     have cG:=kit bI aX cf
     have cH:=bA.trans aX
     cases ok with
     | false=>
      rw[if_neg (by decide)]
      exact⟨N+1-(i+1),by exact o62 hiN,i+1,bJ,bK,_,rfl,q2 rfl,bL,cH,cG,cy.mono aX.pre aX.tk,ch,cg,cE,jb0 aX.pre hD'⟩
     | true=>
      rw[if_pos rfl]
      refine wpAny_mono (ihElt el _ _ hel A _ _ bJ bK cC _ hA (cz.stepNo aX) bL (q1 rfl)) (fun y dr h7=>?_) fun _ _ e=>e.elim
      refine jhN h7 fun py ds cZ q7 c9 da bs=>?_;clear h7
      have cI:cZ[af.sz]? =some (D,D):=jb0 bs.pre (jb0 aX.pre hD')
      refine wpAny_mono (jex G c9 (x:=.ref af.sz) (by simp only[VRep];exact⟨_,cI,rfl⟩) da q7) (fun r du h8=>?_) fun _ _ e=>e.elim
      obtain⟨_,zu4⟩:=h8;refine jaT zu4 fun db dc q8 de bu=>?_;clear zu4
      have cJ:=cg.step bs (fun q=>q)
      have cK:=ch.step bs (fun q=>q)
      exact⟨N+1-(i+1),by exact o62 hiN,i+1,db,dc,_,rfl,q8,de,(cH.trans bs).trans bu,kit cK bu (kit ch bs cG),((cy.mono aX.pre aX.tk).mono bs.pre bs.tk).mono bu.pre bu.tk,
       cK.step bu (fun q=>q),cJ.step bu (fun q=>q),kC cJ bu (kC cg bs cE),jb0 bu.pre cI⟩
   ·exact⟨0,_,_,_,rfl,hI0,aB,aw _,hir.keep (fun o e=>kh' _ _ (kH _ _ e)) (fun a vs e=>kh' _ _ (kH _ _ e)),hsrc.mono (prefix_append _ _) (fun a vs e=>kh' _ _ (kH _ _ e)),
     ⟨nmD _ hitn hitD,nb _ hitn,by refine jaj hir.nt fun o e nt=>?_;exact⟨o,kh' _ _ (kH _ _ e),nt⟩⟩,⟨nmD _ hCn1 hCD,nb _ hCn1,⟨oL,hL0,.of_dict hLd0⟩⟩,hns,hDmu⟩
  have hself: ∀{Q'':Value->Shared->Prop} {E':Value->Shared->Prop} {sx:Shared},ItRep sx.heap it' src 0->Q'' (.ref it') sx->wpAny (model prog w) A (pyIter (.ref it')) Q'' E' sx:=by
   intro Q'' E' sx hr hq
   cases src with
   | list a=>exact wpAny_pyIter_listiter hr hq
   | tup a vs=>exact wpAny_pyIter_tupleiter hr.1 hq
   | rng n=>exact wpAny_pyIter_rangeiter hr.2 hq
  exact codeAny_compStart_list (loop _ rfl) (hself (hir.keep (fun o e=>kh' _ _ (kH _ _ e)) (fun a vs e=>kh' _ _ (kH _ _ e))) (loop _ rfl))
 have hfold: ∀v,foldedSetIterable iter env v=pure v:=fun v=>by
  cases rng with
  | false=>exact jiW hit v
  | true=>
   exact rngT hit fun _ _ _ _ _=>rfl
 refine wpAny_comprehension_free (g:=⟨.Name x xp,iter,ifs,0⟩) (gs:=[]) rfl hfold hout h1 h4 ?_
 cases rng with
 | false=>
  refine jaF (ihIt _ _ _ hit _ _ _ _ _ _ _ hA E R q) fun v ag pv af ak ao am aq aj=>?_
  refine jdp ao fun I N hI0 hI=>?_;clear ao
  obtain⟨_,zu5⟩:=hI 0 _ hI0;refine jaj zu5 fun xs hxs _=>?_;clear zu5
  have hxs': ∃xs,jam false pv af=some xs:=by
   cases pv with
   | ref l=>
    have hl:l<af.objs.length:=by
     simp only[VRep]at aq
     refine jaj aq fun p hp _=>?_;clear aq
     rw[<- am.len];exact jcS hp
    refine⟨xs,?_⟩
    simp only[jam,jbt,AHeap.get,AHeap.alloc]at hxs ⊢
    rwa [List.getElem?_append_left hl]at hxs
   | tup ys=>exact⟨xs,hxs⟩
   | none=>simp[jam,jbt]at hxs
   | bool b=>simp[jam,jbt]at hxs
   | int b=>simp[jam,jbt]at hxs
   | str b=>simp[jam,jbt]at hxs
  obtain⟨xs',hxs'⟩:=hxs'
  refine jlc am aq hxs' fun it' src ar a1 a2 a3 a4 a5 a6=>?_
  exact block ⟨I,N,hI0,hI⟩ am aj a1 a2 a3 a4 a5 a6
 | true=>
  revert block
  refine rngT hit fun f fp n p' hit=>?_
  intro block
  simp only[and_eq_true]at hit
  obtain⟨⟨hf,hg⟩,hn⟩:=hit
  refine jjh G hn (beq_iff_eq.mp hf) hg E R (ihIt _ _ _ hn _ _ _ _ _ _ _ hA E R q) fun pv af ak ag ao am aj=>?_
  refine jdp ao fun I N hI0 hI=>?_;clear ao
  obtain⟨_,zu6⟩:=hI 0 _ hI0;refine jaj zu6 fun xs hxs _=>?_;clear zu6
  simp only[jam]at hxs
  split at hxs
  ·rename_i k
   split at hxs
   ·rename_i hk
    refine⟨k,rfl,hk,fun it' src ar a1 a2 a3 a4 a5 a6=>?_⟩
    exact block ⟨I,N,hI0,hI⟩ am aj a1 a2 a3 a4 a5 a6
   ·cases hxs
  ·cases hxs
end
open PySem.SeqAt
section
variable{prog:Program}{w:World}{T:Tb}{cl:Cls->Addr}{fa:Nat->Addr}{K:Frag}{U:Heap}{env:Env}{sc:Scope}{ctx:List (Option Str)}{Z:jao}{Y:AHeap}{O:List Ad}{A:Around}{d:Nat}{s:Shared}
theorem jrH(G:Gl T cl fa K U)(slot:Nat)(elt it:Ex)(rng:Bool)(cond:Exs)(ihElt:ja1 prog w T cl fa U d elt)(ihIt:ja1 prog w T cl fa U d it)(ihC:jqL prog w T cl fa U d cond):ja1 prog w T cl fa U d (.comp slot elt it rng cond):=by
 intro e sc ctx hm A env Z Y O s Q hA E R q
 have hm0:=hm
 revert hm0
 refine m_comp hm fun _ _ _ _ _ _ _ hm=>?_
 intro hm0
 rw[eval_ListComp]
 refine jiQ G ihElt ihIt ihC hm0 hA E R q (use:=none) fun C m pv v Y' O' s' q' R' V' S' hn hC oC=>?_
 refine⟨m,hn,fun h' hs=>?_⟩
 have kp:=SameBut.kp hs
 obtain⟨aB,tk⟩:=oC.keepBut R' kp
 exact⟨pv,Y',O',q',aB,V'.mono (prefix_refl _) tk,S'.last kp hC rfl rfl⟩
theorem jhW: ∀{as:Exs} {es:List PySem.Expr} {pos:Pos},jed T sc ctx as es=true->(backTo pos (starEach es env)).any (·.1)=false
 | .nil,es,pos,h=>by rw[jbI h];rfl
 | .cons a as,es,pos,h=>by
  refine jaT (jbc h) fun x r zq7 h1 h2=>?_;subst zq7
  rw[jar h1]
  show(false||(backTo pos (starEach r env)).any (·.1))=false
  rw[jhW h2];rfl
theorem jiP{f:Value}{vs:List Value}{Q:Value->Shared->Prop}(h:codeAny (model prog w) A (.call f ⟨vs,[]⟩) (fun r s'=>match r with | .ok (.ret v)=>Q v s' | _=>False) s):wpAny (model prog w) A (call f vs) Q NoE s:=by
 refine wpAny_call (codeAny_mono h fun r s' hr=>?_)
 match r,hr with
 | .ok (.ret v),hr=>exact hr
theorem jkX(G:Gl T cl fa K U){as:Exs}{es:List PySem.Expr}{pos:Pos}{f:Value}{first:List Value}{bx:List PV->AHeap->Prop}{Q:Value->Shared->Prop}(ih:jgO prog w T cl fa U d as)(hm:jed T sc ctx as es=true)(hk:keepIn K f=true)
  (hA:AOk d A) (E:EnvOk env sc ctx Z O s.heap) (R:SR prog w cl T.fld U Y O s.heap) (q:as.wp (jaL prog w T cl fa U d) Z Y bx)
  (h: ∀vs ag pvs af ak,bx pvs af->SR prog w cl T.fld U af ak ag.heap->VReps ak ag.heap pvs vs->Stp No O s ak ag->wpAny (model prog w) A (call f (first++vs)) Q NoE ag):
  wpAny (model prog w) A (callWith pos f first (backTo pos (starEach es env)) []) Q NoE s:=by
 cases as with
 | nil=>
  have:=jbI hm;subst this
  exact callWith_K0 (G.kin.keeps R.keep) hk (h [] s [] Y O q R VReps.nil (.refl _ _ _))
 | cons a as=>
  have ha:=ih _ _ _ hm A env Z Y O s bx pos hA E R q
  refine jaT (jbc hm) fun x r zq8 h1 h2=>?_;subst zq8
  refine callWith_K G.kin hk ?_ (jar h1) (jhW h2)
  exact bindL ha fun vs ag pvs af ak ao am aq aj=>⟨G.kin.keeps am.keep,h vs ag pvs af ak ao am aq aj⟩
theorem jrG(G:Gl T cl fa K U)(f:Nat)(as:Exs)(ih:jgO prog w T cl fa U d as):ja1 prog w T cl fa U d (.call f as):=by
 intro e sc ctx hm A env Z Y O s Q hA E R q
 refine m_call hm fun _ _ _ _ hm=>?_
 simp only[and_eq_true]at hm
 obtain⟨⟨⟨⟨h1,h2⟩,h3⟩,h4⟩,h5⟩:=hm
 have h1:=beq_iff_eq.mp h1
 refine wpAny_Call_NameR (jdz G E R h3 (jdJ h4) (G.fn _ _ h1 (by simpa using h2)) ?_)
 refine jkX G ih h5 (G.keeps _ _ h1) hA E R q fun vs ag pvs af ak ao am aq aj=>?_
 exact jcE aj (jiP (ao A ak ag vs hA.c am aq))
theorem js2(G:Gl T cl fa K U)(c:Cls)(f:Nat)(as:Exs)(ih:jgO prog w T cl fa U d as):ja1 prog w T cl fa U d (.new c f as):=by
 intro e sc ctx hm A env Z Y O s Q hA E R q
 refine m_new hm fun _ _ _ _ hm=>?_
 simp only[and_eq_true]at hm
 obtain⟨⟨⟨⟨h1,h2⟩,h3⟩,h4⟩,h5⟩:=hm
 have h1:=beq_iff_eq.mp h1
 subst h1
 have h5:=beq_iff_eq.mp h5
 refine wpAny_Call_NameR (jdz G E R h2 (jdJ h3) (G.clsg c) ?_)
 refine jkX G ih h4 (G.clsk c) hA E R q fun vs ag pvs af ak ao am aq aj=>?_
 obtain⟨i1,i2⟩:=G.cinit c f h5
 refine jgk (G.cget c) fun c1 c2 c3 c4 c5=>?_
 have X:=G.kin.keeps am.keep
 refine wpAny_call ?_
 obtain⟨hh,gg,dd,tt,oo⟩:=ag
 refine make_core (makes_of X c5) (looks_findIn X i1) (fun self=>bind_fn X self i2) (.inl rfl) ?_
 have n1:hh.get? (hh.objs.size+1)=none:=by
  cases e:hh.get? (hh.objs.size+1)with
  | none=>rfl
  | some o=>exact absurd (Heap.lt_size e) (Nat.not_lt.mpr (le_succ _))
 have kk: ∀b o,hh.get? b=some o->((hh.push emptyDict).push (instObj (cl c) hh.objs.size)).get? b=some o:=fun b o e=>jax _ _ _ _ (jax _ _ _ _ e)
 have g2:((hh.push emptyDict).push (instObj (cl c) hh.objs.size)).get? hh.objs.size=some (dictOf [] 0):=jax _ _ _ _ (Heap.get?_push_size _ rfl)
 have g1:((hh.push emptyDict).push (instObj (cl c) hh.objs.size)).get? (hh.objs.size+1)=some (instObj (cl c) hh.objs.size):=by
  have:=Heap.get?_push_size (hh.push emptyDict) (o:=instObj (cl c) hh.objs.size) rfl
  rwa [Heap.size_push]at this
 have aB:SR prog w cl T.fld U (af.alloc (.inst c (replicate c.num none))) (ak++ [(hh.objs.size+1,hh.objs.size)]) ((hh.push emptyDict).push (instObj (cl c) hh.objs.size)):=by
  refine am.alloc (p:=(hh.objs.size+1,hh.objs.size)) kk n1 (jaH _) ⟨Nat.succ_ne_self _,g1,[],0,g2,zero_le _,by simp,rfl,fun i hi=>?_⟩
  rw[List.getElem?_replicate,if_pos hi]
  rfl
 have hself:VRep (ak++ [(hh.objs.size+1,hh.objs.size)]) ((hh.push emptyDict).push (instObj (cl c) hh.objs.size)) (.ref af.sz) (.ref (hh.objs.size+1)):=by
  simp only[VRep]
  exact⟨(hh.objs.size+1,hh.objs.size),by rw[AHeap.sz,<-am.len];simp,rfl⟩
 have aw:Stp No ak ⟨hh,gg,dd,tt,oo⟩ (ak++ [(hh.objs.size+1,hh.objs.size)]) ⟨(hh.push emptyDict).push (instObj (cl c) hh.objs.size),gg,dd,tt,oo⟩:=by
  refine⟨prefix_append _ _,fun a ha hn=>?_,.of_all kk,fun a o e=>⟨o,kk a o e⟩,fun a vs e=>kk a _ e,rfl,rfl⟩
  refine jaj ha fun p hp e=>?_;clear ha
  rcases mem_append.mp hp with hp | hp
  ·exact absurd ⟨p,hp,e⟩ hn
  ·have:=mem_singleton.mp hp;subst this
   rcases e with rfl | rfl
   ·exact n1
   ·exact jaH _
 have hA':COk d (A.under (Code.builtin "type.__call__" ⟨.ref (cl c)::([]++vs),[]⟩)):=by
  have hw:(Code.builtin "type.__call__" ⟨.ref (cl c)::([]++vs),[]⟩).weight=1:=by rfl
  have hf:(Code.builtin "type.__call__" ⟨.ref (cl c)::([]++vs),[]⟩).frames=0:=by rfl
  have hu:(Code.builtin "type.__call__" ⟨.ref (cl c)::([]++vs),[]⟩).cUnits<=10:=by
   simp only[Code.cUnits]
   rw[hf]
   exact jvQ
  refine⟨hA.handled,?_,?_⟩
  ·show A.depth+(Code.builtin "type.__call__" ⟨.ref (cl c)::([]++vs),[]⟩).weight+3*d<=502
   have:=hA.depth
   rw[hw];exact jvR this
  ·show A.units+(Code.builtin "type.__call__" ⟨.ref (cl c)::([]++vs),[]⟩).cUnits+40*d<=5020
   have:=hA.units
   exact jvS hu this
 have hcall:=ao _ _ ⟨(hh.push emptyDict).push (instObj (cl c) hh.objs.size),gg,dd,tt,oo⟩ (.ref (hh.objs.size+1)::vs) hA' aB (VReps.cons hself (aq.mono (prefix_append _ _) fun a vs e=>kk a _ e))
 refine codeAny_mono hcall fun r aT h3=>?_
 match r,h3 with
 | .ok (.ret v),h3=>
  refine jhN h3 fun pv aI bj zv9 aU bp aG=>?_;clear h3;obtain⟨rfl,q3⟩:=zv9
  have:=jdU bp
  subst this
  refine⟨rfl,?_⟩
  exact⟨.ref af.sz,aI,bj,q3,aU,hself.mono aG.pre aG.tk,(aj.trans aw).trans aG⟩
end
open PySem.SeqAt
section
variable{prog:Program}{w:World}{T:Tb}{cl:Cls->Addr}{fa:Nat->Addr}{K:Frag}{U:Heap}{env:Env}{sc:Scope}{ctx:List (Option Str)}{Z:jao}{Y:AHeap}{O:List Ad}{A:Around}{d:Nat}{s:Shared}
theorem jft{a:Ex}{e:PySem.Expr}{pos:Pos}{Q:PV->AHeap->Prop}{R:List Value->Shared->Prop}(h:mtE T sc ctx a e=true)(ih:ja1 prog w T cl fa U d a)
  (hA:AOk d A) (E:EnvOk env sc ctx Z O s.heap) (ci:SR prog w cl T.fld U Y O s.heap) (q:a.wp (jaL prog w T cl fa U d) Z Y Q)
  (k: ∀v ag pv af ak,Q pv af->SR prog w cl T.fld U af ak ag.heap->VRep ak ag.heap pv v->Stp No O s ak ag->R [v] ag):
  wpAny (model prog w) A (spliced (backTo pos (starEach [e] env))) R NoE s:=by
 rw[jar h]
 refine Calls.spliced_cons ?_
 refine jaF (ih _ _ _ h _ _ _ _ _ _ _ hA E ci q) fun v ag pv af ak ao am aq aj=>?_
 exact wpAny_pure (k v ag pv af ak ao am aq aj)
theorem js0(G:Gl T cl fa K U)(a:Ex)(ih:ja1 prog w T cl fa U d a):ja1 prog w T cl fa U d (.len a):=by
 intro e sc ctx hm A env Z Y O s Q hA E R q
 refine m_len hm fun _ _ _ _ hm=>?_
 simp only[and_eq_true]at hm
 obtain⟨⟨h1,h2⟩,h3⟩:=hm
 have h1:=beq_iff_eq.mp h1;subst h1
 refine wpAny_Call_NameR (jbN G E R h2 rfl (by decide) (G.bi _ (by simp)) boot_len ?_)
 refine PyProof.Rows.callWith_builtin1 ?_ (jar h3) rfl
 refine jft h3 ih hA E R q fun v ag pv af ak ao am aq aj=>?_
 exact jcE aj (wpAny_mono (jnp G am aq ao) (fun _ _ x=>x.keep fun _ q=>q) fun _ _ e=>e)
theorem joF(G:Gl T cl fa K U)(a:Ex)(ih:ja1 prog w T cl fa U d a):ja1 prog w T cl fa U d (.sorted a):=by
 intro e sc ctx hm A env Z Y O s Q hA E R q
 refine m_sorted hm fun _ _ _ _ hm=>?_
 simp only[and_eq_true]at hm
 obtain⟨⟨h1,h2⟩,h3⟩:=hm
 have h1:=beq_iff_eq.mp h1;subst h1
 refine wpAny_Call_NameR (jbN G E R h2 rfl (by decide) (G.bi _ (by simp)) boot_sorted ?_)
 refine PyProof.Rows.callWith_builtin1 ?_ (jar h3) rfl
 refine jft h3 ih hA E R q fun v ag pv af ak ao am aq aj=>?_
 exact jcE aj (jjd G hA.handled am aq ao)
theorem jqd(G:Gl T cl fa K U)(a:Ex)(ih:ja1 prog w T cl fa U d a):ja1 prog w T cl fa U d (.strOf a):=by
 intro e sc ctx hm A env Z Y O s Q hA E R q
 refine m_strOf hm fun _ _ _ _ hm=>?_
 simp only[and_eq_true]at hm
 obtain⟨⟨h1,h2⟩,h3⟩:=hm
 have h1:=beq_iff_eq.mp h1;subst h1
 refine wpAny_Call_NameR (jbN G E R h2 rfl (by decide) (G.bi _ (by simp)) boot_str ?_)
 refine PyProof.Rows.callWith_type1 ?_ (jar h3) rfl
 refine jft h3 ih hA E R q fun v ag pv af ak ao am aq aj=>?_
 exact jcE aj (wpAny_mono (jns G am aq ao) (fun _ _ x=>x.keep fun _ q=>q) fun _ _ e=>e)
theorem jnK(G:Gl T cl fa K U)(a:Ex)(ih:ja1 prog w T cl fa U d a):ja1 prog w T cl fa U d (.tupleOf a):=by
 intro e sc ctx hm A env Z Y O s Q hA E R q
 refine m_tupleOf hm fun _ _ _ _ hm=>?_
 simp only[and_eq_true]at hm
 obtain⟨⟨h1,h2⟩,h3⟩:=hm
 have h1:=beq_iff_eq.mp h1;subst h1
 refine wpAny_Call_NameR (jbN G E R h2 rfl (by decide) (G.bi _ (by simp)) boot_tuple ?_)
 refine PyProof.Rows.callWith_type1 ?_ (jar h3) rfl
 refine jft h3 ih hA E R q fun v ag pv af ak ao am aq aj=>?_
 exact jcE aj (wpAny_mono (jkx G am aq ao) (fun _ _ x=>x.keep fun _ q=>q) fun _ _ e=>e)
theorem jrk{ag:Shared}{pv:PV}{v:Value}(R:SR prog w cl T.fld U Y O ag.heap)(V:VRep O ag.heap pv v)(h:jdy pv Y):ag.TypeIs v "list"/\∀a:Addr,v= .ref a->∃ob,ag.heap.get? a=some ob/\ob.dict=none:=by
 obtain⟨l,rfl,h⟩:=jcG h
 ·obtain⟨xs,hx,_⟩:=jo9 h
  refine jjG (R.list V hx) fun p vs hp zq0 e2 zv1 r z=>?_;subst zq0;obtain⟨n,pl⟩:=zv1
  refine⟨?_,fun a ha=>?_⟩
  ·exact⟨_,pl,rfl⟩
  ·cases ha;exact⟨_,pl,rfl⟩
theorem jrb{ag:Shared}{pv:PV}{v:Value}(R:SR prog w cl T.fld U Y O ag.heap)(V:VRep O ag.heap pv v)(h:jdx pv Y):ag.TypeIs v "dict"/\∀a:Addr,v= .ref a->∃ob,ag.heap.get? a=some ob/\ob.dict=none:=by
 obtain⟨l,rfl,h⟩:=jcG h
 ·obtain⟨xs,hx,_⟩:=jrs h
  refine jqJ (R.dict V hx) fun p vs hp zq2 e2 zv3 z=>?_;subst zq2;obtain⟨o,es,ep,pl,ed,r⟩:=zv3
  refine⟨?_,fun a ha=>?_⟩
  ·exact⟨_,pl,ed.1⟩
  ·cases ha;exact⟨_,pl,ed.2.1⟩
theorem jiT(G:Gl T cl fa K U){h:Heap}{pv:PV}{v:Value}(R:SR prog w cl T.fld U Y O h)(V:VRep O h pv v)(hl:jdx pv Y): ∃a:Addr,v= .ref a/\(a==sysModules)=false:=by
 obtain⟨l,rfl,hl⟩:=jcG hl
 ·obtain⟨xs,hx,_⟩:=jrs hl
  refine jaT (R.dict V hx) fun p vs hp zq4 _=>?_;subst zq4
  exact⟨_,rfl,jll G R hp hx⟩
theorem joE(G:Gl T cl fa K U)(o x:Ex)(iho:ja1 prog w T cl fa U d o)(ih:ja1 prog w T cl fa U d x):ja1 prog w T cl fa U d (.append o x):=by
 intro e sc ctx hm A env Z Y O s Q hA E R q
 refine m_append hm fun _ _ _ _ _ hm=>?_
 simp only[and_eq_true]at hm
 obtain⟨⟨⟨⟨h1,h2⟩,h3⟩,h4⟩,h5⟩:=hm
 have h1:=beq_iff_eq.mp h1;subst h1
 rename_i v ap y p
 refine wpAny_Call_method (jd3 h3) (by rw[jar h5];rfl) h2 PySem.F.plainAttrs_list PySem.F.slot_list_append PySem.F.type_list_append ?_
 refine jaF (iho _ _ _ h4 _ _ _ _ _ _ _ hA E R q) fun v ag pv af ak ao am aq aj=>?_
 obtain⟨hl,ao⟩:=ao
 obtain⟨t1,t2⟩:=jrk am aq hl
 refine⟨t1,t2,?_⟩
 rw[jar h5]
 refine Calls.callWith_builtin rfl (Calls.evalArgs_plain (Calls.spliced_cons ?_))
 refine jaF (ih _ _ _ h5 _ _ _ _ _ _ _ hA (E.stepNo aj) am ao) fun y ar py ai aE aD aB aL aw=>?_
 refine wpAny_pure ?_
 refine wpAny_mono (jex G aB (aq.mono aw.pre aw.tk) aL aD) (fun r aT h=>?_) fun _ _ e=>e
 obtain⟨zq5,zu6⟩:=h;subst zq5;refine jaT zu6 fun aI bj be aU aG=>?_;clear zu6
 exact⟨.none,aI,bj,be,aU,jdO,(aj.trans aw).trans aG⟩
theorem js4(G:Gl T cl fa K U)(o:Ex)(iho:ja1 prog w T cl fa U d o):ja1 prog w T cl fa U d (.pop o):=by
 intro e sc ctx hm A env Z Y O s Q hA E R q
 refine m_pop hm fun _ _ _ _ hm=>?_
 simp only[and_eq_true]at hm
 obtain⟨⟨⟨h1,h2⟩,h3⟩,h4⟩:=hm
 have h1:=beq_iff_eq.mp h1;subst h1
 rename_i v ap p
 refine wpAny_Call_method (jd3 h3) rfl h2 PySem.F.plainAttrs_list PySem.F.slot_list_pop PySem.F.type_list_pop ?_
 refine jaF (iho _ _ _ h4 _ _ _ _ _ _ _ hA E R q) fun v ag pv af ak ao am aq aj=>?_
 obtain⟨hl,ao⟩:=ao
 obtain⟨t1,t2⟩:=jrk am aq hl
 refine⟨t1,t2,?_⟩
 refine Calls.callWith_builtin rfl (PySem.evalArgs_none ?_)
 exact jcE aj (jnr G am aq ao)
theorem jgB{v k dd:PV}{Q:PV->Prop}{ag:Shared}{ov kv dv:Value}(R:SR prog w cl T.fld U Y O ag.heap)(V:VRep O ag.heap v ov)(Vk:VRep O ag.heap k kv)(Vd:VRep O ag.heap dd dv)(q:jjb v k dd Y Q):
  ∃(k:Int) (f:Int->Option Value),(iK prog w).is k kv=true/\(∀ a:Addr,ov= .ref a->Heap.MapOf (iK prog w) ag.heap a f)/\∃pv,Q pv/\VRep O ag.heap pv ((f k).getD dv):=by
 obtain⟨l,rfl,q⟩:=jcG q
 obtain⟨k,rfl,q⟩:=jeL q
 ·obtain⟨es,hx,q⟩:=jrs q
  refine jqS (R.dict V hx) fun p kvs hp zq7 e2 pl e3 r z=>?_;subst zq7
  obtain⟨t,rfl⟩:=jak Vk
  refine⟨k,valueAt kvs,?_,fun a ha=>?_,_,q,jot Vd e3 r⟩
  ·exact intKind_is ..
  ·cases ha;exact pl.mapOf
theorem jrI(G:Gl T cl fa K U)(o k:Ex)(iho:ja1 prog w T cl fa U d o)(ih:ja1 prog w T cl fa U d k):ja1 prog w T cl fa U d (.get1 o k):=by
 intro e sc ctx hm A env Z Y O s Q hA E R q
 refine m_get1 hm fun _ _ _ _ _ hm=>?_
 simp only[and_eq_true]at hm
 obtain⟨⟨⟨⟨h1,h2⟩,h3⟩,h4⟩,h5⟩:=hm
 have h1:=beq_iff_eq.mp h1;subst h1
 rename_i v ap y p
 refine wpAny_Call_method (jd3 h3) (by rw[jar h5];rfl) h2 PySem.F.plainAttrs_dict PySem.F.slot_dict_get PySem.F.type_dict_get ?_
 refine jaF (iho _ _ _ h4 _ _ _ _ _ _ _ hA E R q) fun v ag pv af ak ao am aq aj=>?_
 obtain⟨hl,ao⟩:=ao
 obtain⟨t1,t2⟩:=jrb am aq hl
 refine⟨t1,t2,?_⟩
 refine jaj (jiT G am aq hl) fun a zq8 ha=>?_;subst zq8
 rw[jar h5]
 refine wpAny_dict_get1 (knd:=iK prog w) ha ?_
 refine jaF (ih _ _ _ h5 _ _ _ _ _ _ _ hA (E.stepNo aj) am ao) fun y ar py ai aE aD aB aL aw=>?_
 refine jaT (jgB aB (aq.mono aw.pre aw.tk) aL jdO aD) fun k f e1 e2 zu9=>?_;refine jaj zu9 fun pv' e3 e4=>?_;clear zu9
 exact⟨k,f,e1,e2 _ rfl,Post.before (aj.trans aw) (Post.same aB e4 e3)⟩
theorem jrJ(G:Gl T cl fa K U)(o k dd:Ex)(iho:ja1 prog w T cl fa U d o)(ih:ja1 prog w T cl fa U d k)(ihd:ja1 prog w T cl fa U d dd):ja1 prog w T cl fa U d (.get2 o k dd):=by
 intro e sc ctx hm A env Z Y O s Q hA E R q
 refine m_get2 hm fun _ _ _ _ _ _ hm=>?_
 simp only[and_eq_true]at hm
 obtain⟨⟨⟨⟨⟨h1,h2⟩,h3⟩,h4⟩,h5⟩,h6⟩:=hm
 have h1:=beq_iff_eq.mp h1;subst h1
 rename_i v ap y z p
 have hst: ∀pos:Pos,backTo pos (starEach [y,z] env)=(false,eval y env)::(backTo pos [(false,eval z env)]):=fun pos=>by
  rw[jar h5,jar h6];rfl
 refine wpAny_Call_method (jd3 h3) (by rw[hst];rfl) h2 PySem.F.plainAttrs_dict PySem.F.slot_dict_get PySem.F.type_dict_get ?_
 refine jaF (iho _ _ _ h4 _ _ _ _ _ _ _ hA E R q) fun v ag pv af ak ao am aq aj=>?_
 obtain⟨hl,ao⟩:=ao
 obtain⟨t1,t2⟩:=jrb am aq hl
 refine⟨t1,t2,?_⟩
 refine jaj (jiT G am aq hl) fun a zq0 ha=>?_;subst zq0
 rw[hst]
 refine wpAny_dict_get2 (knd:=iK prog w) ha ?_
 refine jaF (ih _ _ _ h5 _ _ _ _ _ _ _ hA (E.stepNo aj) am ao) fun y ar py ai aE aD aB aL aw=>?_
 show wpAny (model prog w) A (eval z env) _ NoE ar
 refine jaF (ihd _ _ _ h6 _ _ _ _ _ _ _ hA ((E.stepNo aj).stepNo aw) aB aD) fun z aT pz aI bj be aU bp aG=>?_
 refine jaT (jgB aU ((aq.mono aw.pre aw.tk).mono aG.pre aG.tk) (aL.mono aG.pre aG.tk) bp be) fun k f e1 e2 zu1=>?_;refine jaj zu1 fun pv' e3 e4=>?_;clear zu1
 exact⟨k,f,e1,e2 _ rfl,Post.before ((aj.trans aw).trans aG) (Post.same aU e4 e3)⟩
theorem jrN(G:Gl T cl fa K U)(f:Nat)(o x:Ex)(iho:ja1 prog w T cl fa U d o)(ih:ja1 prog w T cl fa U d x):ja1 prog w T cl fa U d (.meth f o x):=by
 intro e sc ctx hm A env Z Y O s Q hA E R q
 refine m_meth hm fun _ _ _ _ _ hm=>?_
 simp only[and_eq_true]at hm
 obtain⟨⟨⟨⟨⟨h1,h1'⟩,h2⟩,h3⟩,h4⟩,h5⟩:=hm
 rename_i n nn ap y p
 have h1:=beq_iff_eq.mp h1;subst h1
 have h1':=beq_iff_eq.mp h1'
 rw[arm_eval_Call,jd3 h3]
 refine wpAny_bind ?_
 refine jaF (iho _ _ _ h4 _ _ _ _ _ _ _ hA E R q) fun v ag pv af ak ao am aq aj=>?_
 refine wpAny_bind (wpAny_standAt ?_)
 have hform:methodCallForm ([y].length+([]:List Keyword).length) (backTo p (starEach [y] env)) (backToKw p (keywordEach [] env))=true:=by rw[jar h5];rfl
 have hpos:methodCallPos true n env ap p=pure p:=by unfold methodCallPos;simp[h2]
 unfold methodCall
 rw[hform]
 obtain⟨hi,ao⟩:=ao
 obtain⟨i1,i2⟩:=G.nw f h1'
 refine jgk (G.cget .words) fun c1 c2 c3 c4 c5=>?_
 obtain⟨l,rfl,hi⟩:=jcG hi
 ·obtain⟨c,fs,hx,rfl⟩:=jsj hi
  have ck:=aq
  simp only[VRep]at ck
  refine jaj ck fun p' hp zq2=>?_;clear ck;subst zq2
  refine jdo (am.obj _ _ _ hp hx) fun g0 g1 zu3=>?_;refine jqJ zu3 fun es nn g2 f1 f2 f4 f3=>?_;clear zu3
  have I:PySem.W.InstAt ag.heap p'.1 (instObj (cl .words) p'.2) (cl .words) (some (dictOf es nn)):=⟨g1,rfl,rfl,g2⟩
  refine wpAny_bind (wpAny_holding (method_fn (G.kin.keeps am.keep) I (plainGet_of c1).1 (plainGet_of c1).2 i1 i2 ?_ ?_))
  ·show Option.map (fun x=>x.isSome) (getL "new_word" es)=_
   rw[f4];rfl
  refine wpAny_bind (wpAny_of_eq hpos ?_)
  refine callWith_K G.kin (G.keeps _ _ h1') ?_ (jar h5) rfl
  refine jft h5 ih hA (E.stepNo aj) am ao fun y ar py ai aE aD aB aL aw=>⟨G.kin.keeps aB.keep,?_⟩
  exact jcE (aj.trans aw) (jiP (aD A aE ar _ hA.c aB (VReps.cons (aq.mono aw.pre aw.tk) (VReps.one aL))))
theorem jqc(G:Gl T cl fa K U)(k v:Ex)(ihk:ja1 prog w T cl fa U d k)(ihv:ja1 prog w T cl fa U d v):ja1 prog w T cl fa U d (.dict1 k v):=by
 intro e sc ctx hm A env Z Y O s Q hA E R q
 refine m_dict1 hm fun _ _ _ hm=>?_
 simp only[and_eq_true]at hm
 obtain⟨h1,h2⟩:=hm
 rename_i a b pos
 refine wpAny_Dict_pairs (knd:=iK prog w) (pairs:=[(eval a env,do let x <-eval b env;standAt pos;pure x)]) rfl (by simp) (by simp) ?_
 have cm:Stp No O s O {s with heap:=s.heap.push {cls:=Value.type "dict",data:=Data.dict #[]}}:=.grow (jax _ _) rfl rfl
 have ci:SR prog w cl T.fld U Y O (s.heap.push {cls:=Value.type "dict",data:=Data.dict #[]}):=R.grow (jax _ _)
 refine evalPairs_cons ?_
 refine jaF (ihk _ _ _ h1 _ _ _ _ _ {s with heap:=s.heap.push {cls:=Value.type "dict",data:=Data.dict #[]}} _ hA (E.stepNo cm) ci q) fun kv ag pk af ak ao am aq aj=>?_
 refine wpAny_bind ?_
 refine jaF (ihv _ _ _ h2 _ _ _ _ _ _ _ hA ((E.stepNo cm).stepNo aj) am ao) fun vv ar pvv ai aE aD aB aL aw=>?_
 refine wpAny_bind (wpAny_standAt (wpAny_pure (evalPairs_nil ?_)))
 cases pk<;>first | exact aD.elim | skip
 rename_i kk
 obtain⟨t,rfl⟩:=jak aq
 have bB:=aj.trans aw
 have hn0:s.heap.get? s.heap.objs.size=none:=jaH _
 have hD0:(s.heap.push {cls:=Value.type "dict",data:=Data.dict #[]}).get? s.heap.objs.size=some {cls:=Value.type "dict",data:=Data.dict #[]}:=Heap.get?_push_size _ rfl
 have nmD: ¬InMu aE s.heap.objs.size:=fun x=>by
  by_cases y:InMu O s.heap.objs.size
  ·refine jaj (R.mu y) fun o e _=>?_
   rw[hn0]at e;cases e
  ·have:=bB.new _ x y
   rw[hD0]at this;cases this
 have nmD0: ¬InMu O s.heap.objs.size:=fun y=>by
  refine jaj (R.mu y) fun o e _=>?_
  rw[hn0]at e;cases e
 have hD2:=bB.keep _ _ hD0 (fun q=>q.elim nmD0 id)
 have nbD:U.get? s.heap.objs.size=none:=by
  cases e:U.get? s.heap.objs.size with
  | none=>rfl
  | some o=>have:=R.keep _ _ e;rw[hn0]at this;cases this
 refine⟨[(kk,vv)],⟨intKind_is ..,rfl,trivial⟩,?_,fun h' hd hs=>?_⟩
 ·exact jfg (jk0 (h:=s.heap)) fun o e=>by rw[hD0]at e;cases e;exact hD2
 have kp:=SameBut.kp hs
 have oD:Own U aE ar.heap s.heap.objs.size:=⟨nmD,nbD,_,hD2,.of_dict rfl⟩
 obtain⟨aU,tk⟩:=oD.keepBut aB kp
 have aG:=(cm.trans bB).last (ar:={ar with heap:=h',toks:=ar.toks+1}) kp hn0 rfl rfl
 have be:Q (.ref ai.sz) (ai.alloc (.dict [(kk,pvv)])):=aD
 refine⟨_,_,aE++ [(s.heap.objs.size,s.heap.objs.size)],be,aU.add nmD nmD nbD nbD ⟨rfl,_,hd,rfl,VReps.one (aL.mono (prefix_append _ _) tk),(by decide:1<=sizeLine)⟩,?_,?_⟩
 ·simp only[VRep]
  exact⟨(s.heap.objs.size,s.heap.objs.size),by rw[AHeap.sz,<-aB.len];simp,rfl⟩
 ·refine⟨aG.pre.trans (prefix_append _ _),fun a ha hn=>?_,aG.keep,aG.ex,aG.tk,aG.os,aG.gens⟩
  refine jaj ha fun p hp e=>?_;clear ha
  rcases mem_append.mp hp with hp | hp
  ·exact aG.new a ⟨p,hp,e⟩ hn
  ·have:=mem_singleton.mp hp;subst this
   rcases e with rfl | rfl<;>exact hn0
end
section
variable{prog:Program}{w:World}{T:Tb}{cl:Cls->Addr}{fa:Nat->Addr}{K:Frag}{U:Heap}{env:Env}{sc:Scope}{ctx:List (Option Str)}{Z:jao}{Y:AHeap}{O:List Ad}{A:Around}{d:Nat}{s:Shared}
theorem jo1{Q:Bool->Shared->Prop}: ∀(e:List PySem.Expr),Q false s->wpAny (model prog w) A (forIn e false fun c r=>if r=true then do let ok <-isTrue c env (eval c env);pure (ForInStep.yield ok)else pure (ForInStep.yield r)) Q NoE s
 | [],q=>by rw[forIn_nil];exact wpAny_pure q
 | x::r,q=>by
  rw[List.forIn_cons,if_neg (by decide)]
  exact wpAny_bind (wpAny_pure (jo1 r q))
theorem jq9(a:Ex)(as:Exs)(ih:jmJ prog w T cl fa U d a)(ihs:jqL prog w T cl fa U d as):jqL prog w T cl fa U d (.cons a as):=by
 intro e sc ctx hm A env Z Y O s TQ FQ hA E R q
 refine jaT (jbc hm) fun x r zq4 h1 h2=>?_;subst zq4
 rw[List.forIn_cons,if_pos rfl]
 refine wpAny_bind (wpAny_bind ?_)
 rw[jmE]at q
 refine jmR (ih _ _ _ h1 _ _ _ _ _ _ (fun Y'=>as.wpAnd (jaL prog w T cl fa U d) Z Y' (fun v Y'=>ifB v (TQ Y') (FQ Y'))) FQ hA E R ?_) fun b ag af ak ao aD am aj=>?_
 ·simpa [ifB]using q
 ·refine wpAny_pure ?_
  cases b with
  | false=>
   show wpAny _ _ (forIn r false _) _ _ _
   exact jo1 r ⟨af,ak,(fun e=>by cases e),fun _=>aD rfl,am,aj⟩
  | true=>
   show wpAny _ _ (forIn r true _) _ _ _
   exact jkP aj (ihs _ _ _ h2 _ _ _ _ _ _ _ _ hA (E.stepNo aj) am (ao rfl))
theorem jqx:TV T (.none):=fun e sc ctx hm env whole=>m_none hm fun _ _=>rfl
theorem jqo{b}:TV T (.bool b):=fun e sc ctx hm env whole=>m_bool hm fun _ _ _ _=>rfl
theorem jrZ{b}:TV T (.int b):=fun e sc ctx hm env whole=>m_int hm fun _ _ _ _=>rfl
theorem jr4{b}:TV T (.str b):=fun e sc ctx hm env whole=>m_str hm fun _ _ _ _=>rfl
theorem jr1{i}:TV T (.loc i):=fun e sc ctx hm env whole=>m_loc hm fun _ _ _=>rfl
theorem jqt{j i}:TV T (.glob j i):=fun e sc ctx hm env whole=>m_glob hm fun _ _ _=>rfl
theorem jqn{a k}:TV T (.attr a k):=fun e sc ctx hm env whole=>m_attr hm fun _ _ _ _=>rfl
theorem jqu{a b}:TV T (.item a b):=fun e sc ctx hm env whole=>m_item hm fun _ _ _ _=>rfl
theorem jmr{a b}:TV T (.sliceTo a b):=fun e sc ctx hm env whole=>m_sliceTo hm fun _ _ _ _ _=>rfl
theorem jjC{a b}:TV T (.sliceFrom a b):=fun e sc ctx hm env whole=>m_sliceFrom hm fun _ _ _ _ _=>rfl
theorem jrY{o a b}:TV T (.bin o a b):=fun e sc ctx hm env whole=>m_bin hm fun _ _ _ _ _=>rfl
theorem jqv{es}:TV T (.list es):=fun e sc ctx hm env whole=>m_list hm fun _ _ _=>rfl
theorem jr5{es}:TV T (.tup es):=fun e sc ctx hm env whole=>m_tup hm fun _ _ _ _=>rfl
theorem joQ:TV T (.dict0):=fun e sc ctx hm env whole=>m_dict0 hm fun _=>rfl
theorem joR{a b}:TV T (.dict1 a b):=fun e sc ctx hm env whole=>m_dict1 hm fun _ _ _ _=>rfl
theorem jqq{s a b r es}:TV T (.comp s a b r es):=fun e sc ctx hm env whole=>m_comp hm fun _ _ _ _ _ _ _ _=>rfl
theorem jqp{f es}:TV T (.call f es):=fun e sc ctx hm env whole=>m_call hm fun _ _ _ _ _=>rfl
theorem jr2{c f es}:TV T (.new c f es):=fun e sc ctx hm env whole=>m_new hm fun _ _ _ _ _=>rfl
theorem jr0{a}:TV T (.len a):=fun e sc ctx hm env whole=>m_len hm fun _ _ _ _ _=>rfl
theorem jnW{a}:TV T (.sorted a):=fun e sc ctx hm env whole=>m_sorted hm fun _ _ _ _ _=>rfl
theorem joS{a}:TV T (.strOf a):=fun e sc ctx hm env whole=>m_strOf hm fun _ _ _ _ _=>rfl
theorem jms{a}:TV T (.tupleOf a):=fun e sc ctx hm env whole=>m_tupleOf hm fun _ _ _ _ _=>rfl
theorem jnV{a b}:TV T (.append a b):=fun e sc ctx hm env whole=>m_append hm fun _ _ _ _ _ _=>rfl
theorem jr3{a}:TV T (.pop a):=fun e sc ctx hm env whole=>m_pop hm fun _ _ _ _ _=>rfl
theorem jqr{a b}:TV T (.get1 a b):=fun e sc ctx hm env whole=>m_get1 hm fun _ _ _ _ _ _=>rfl
theorem jqs{a b c}:TV T (.get2 a b c):=fun e sc ctx hm env whole=>m_get2 hm fun _ _ _ _ _ _ _=>rfl
theorem jqw{f a b}:TV T (.meth f a b):=fun e sc ctx hm env whole=>m_meth hm fun _ _ _ _ _ _=>rfl
abbrev jtp(prog:Program)(w:World)(T:Tb)(cl:Cls->Addr)(fa:Nat->Addr)(U:Heap)(d:Nat)(x:Ex):Prop:=ja1 prog w T cl fa U d x/\jmJ prog w T cl fa U d x
structure Sim6 (prog:Program) (w:World) (T:Tb) (cl:Cls->Addr) (fa:Nat->Addr) (U:Heap) (d:Nat) (x:Exs):Prop where
 es:jgO prog w T cl fa U d x
 and:jhS prog w T cl fa U d x
 or:jmI prog w T cl fa U d x
 tand:je3 prog w T cl fa U d x
 tor:jhU prog w T cl fa U d x
 c:jqL prog w T cl fa U d x
theorem jd5{x:Ex}(h:ja1 prog w T cl fa U d x)(hs:TV T x):jtp prog w T cl fa U d x:=⟨h,jql h hs⟩
mutual
theorem jbx(G:Gl T cl fa K U): ∀x:Ex,jtp prog w T cl fa U d x
 | .none=>jd5 (jrO) jqx
 | .bool b=>jd5 (jrF b) jqo
 | .int b=>jd5 (jsZ b) jrZ
 | .str b=>jd5 (js5 b) jr4
 | .loc i=>jd5 (js1 G i) jr1
 | .glob j i=>jd5 (jrK G j i) jqt
 | .attr a k=>jd5 (jrE G a k (jbx G a).1) jqn
 | .item a b=>jd5 (jrL G a b (jbx G a).1 (jbx G b).1) jqu
 | .sliceTo a b=>jd5 (jnJ G a b (jbx G a).1 (jbx G b).1) jmr
 | .sliceFrom a b=>jd5 (jkE G a b (jbx G a).1 (jbx G b).1) jjC
 | .bin o a b=>jd5 (jsX o a b (jbx G a).1 (jbx G b).1) jrY
 | .list es=>jd5 (jrM es (jdi G es).es) jqv
 | .tup es=>jd5 (js6 es (jdi G es).es) jr5
 | .dict0=>jd5 (jqb) joQ
 | .dict1 a b=>jd5 (jqc G a b (jbx G a).1 (jbx G b).1) joR
 | .comp s a b r es=>jd5 (jrH G s a b r es (jbx G a).1 (jbx G b).1 (jdi G es).c) jqq
 | .call f es=>jd5 (jrG G f es (jdi G es).es) jqp
 | .new c f es=>jd5 (js2 G c f es (jdi G es).es) jr2
 | .len a=>jd5 (js0 G a (jbx G a).1) jr0
 | .sorted a=>jd5 (joF G a (jbx G a).1) jnW
 | .strOf a=>jd5 (jqd G a (jbx G a).1) joS
 | .tupleOf a=>jd5 (jnK G a (jbx G a).1) jms
 | .append a b=>jd5 (joE G a b (jbx G a).1 (jbx G b).1) jnV
 | .pop a=>jd5 (js4 G a (jbx G a).1) jr3
 | .get1 a b=>jd5 (jrI G a b (jbx G a).1 (jbx G b).1) jqr
 | .get2 a b c=>jd5 (jrJ G a b c (jbx G a).1 (jbx G b).1 (jbx G c).1) jqs
 | .meth f a b=>jd5 (jrN G f a b (jbx G a).1 (jbx G b).1) jqw
 | .cmp o a b=>⟨jsY G o a b (jbx G a).1 (jbx G b).1,js8 G o a b (jbx G a).1 (jbx G b).1⟩
 | .and es=>⟨jsW es (jdi G es).and,js7 es (jdi G es).tand⟩
 | .or es=>⟨jBj es (jdi G es).or,jBl es (jdi G es).tor⟩
 | .not a=>⟨js3 a (jbx G a).2 (jbx G a).1,js9 a (jbx G a).2⟩
theorem jdi(G:Gl T cl fa K U): ∀x:Exs,Sim6 prog w T cl fa U d x
 | .nil=>⟨jsE,jpi,jrv,joL,jqm,jsD⟩
 | .cons a as=>⟨jrc a as (jbx G a).1 (jdi G as).es,job a as (jbx G a).1 (jdi G as).and,jp2 a as (jbx G a).1 (jdi G as).or,
   jnS a as (jbx G a).2 (jdi G as).tand,joP a as (jbx G a).2 (jdi G as).tor,jq9 a as (jbx G a).2 (jdi G as).c⟩
end
end
open PySem.SeqAt
noncomputable def Pf(env:Env)(a:Addr):Prop:=a=env.locals\/∃y,env.cells.lookup y=some a
structure FrOk (U:Heap) (env:Env) (sc:Scope) (ctx:List (Option Str)) (Z:jao) (O:List Ad) (h:Heap):Prop where
 ok:EnvOk env sc ctx Z O h
 ns: ∃m,h.Ns env.locals m
 own:Own U O h env.locals
 cell: ∀y c,env.cells.lookup y=some c->Own U O h c/\(∃ v,h.IsCell c v)/\c≠env.locals
 cinj: ∀y z c,env.cells.lookup y=some c->env.cells.lookup z=some c->y=z
 ctxnd: ∀(i j:Nat) (x:Str),ctx[i]? =some (some x)->ctx[j]? =some (some x)->i=j
 kinds: ∀(i:Nat) (x:Str),ctx[i]? =some (some x)->env.kindOf x=some .local\/env.kindOf x=some .cell
section
variable{prog:Program}{w:World}{T:Tb}{cl:Cls->Addr}{fa:Nat->Addr}{K:Frag}{U:Heap}{env:Env}{sc:Scope}{ctx:List (Option Str)}{Z:jao}{Y:AHeap}{O:List Ad}{A:Around}{d:Nat}{s:Shared}
theorem jhj{h h':Heap}{a:Addr}{m}(x:h.Ns a m)(k: ∀o,h.get? a=some o->h'.get? a=some o):h'.Ns a m:=by
 refine jn5 x fun o es ep e1 e2=>?_;clear x
 exact⟨o,es,ep,k _ e1,e2⟩
theorem FrOk.pf(F:FrOk U env sc ctx Z O s.heap){a:Addr}(x:Pf env a):Own U O s.heap a:=by
 rcases x with rfl | ⟨y,hy⟩
 ·exact F.own
 ·exact(F.cell _ _ hy).1
theorem FrOk.step{O':List Ad}{s':Shared}(F:FrOk U env sc ctx Z O s.heap)(S:Stp No O s O' s'):FrOk U env sc ctx Z O' s'.heap:=by
 have kk: ∀{a},Own U O s.heap a->∀o,s.heap.get? a=some o->s'.heap.get? a=some o:=fun x o e=>S.keep _ _ e fun q=>q.elim x.nm id
 obtain⟨m,hm⟩:=F.ns
 refine⟨F.ok.stepNo S,⟨m,jhj hm (kk F.own)⟩,F.own.step S id,fun y c hc=>?_,F.cinj,F.ctxnd,F.kinds⟩
 refine jdo (F.cell y c hc) fun c1 zv5 c3=>?_;obtain⟨v,o,c2,c2'⟩:=zv5
 exact⟨c1.step S id,⟨v,o,kk c1 o c2,c2'⟩,c3⟩
theorem jlt{Z:jao}{i j:Nat}{v:Option PV}{x}(h:(Z.set i v)[j]? =some x):(j=i/\x=v)\/(j≠i/\Z[j]? =some x):=by
 rw[getElem?_set]at h
 by_cases e:i=j
 ·rw[if_pos e]at h
  split at h
  ·cases h;exact .inl ⟨e.symm,rfl⟩
  ·cases h
 ·rw[if_neg e]at h
  exact .inr ⟨Ne.symm e,h⟩
theorem jco{i:Nat}{x:Str}{pv:PV}{v:Value}{Q:Unit->Shared->Prop}{E':Value->Shared->Prop}(F:FrOk U env sc ctx Z O s.heap)(R:SR prog w cl T.fld U Y O s.heap)(V:VRep O s.heap pv v)(hx:ctx[i]? =some (some x))
  (k: ∀s',SR prog w cl T.fld U Y O s'.heap->FrOk U env sc ctx (Z.set i (some pv)) O s'.heap->TK s.heap s'.heap->Stp (Pf env) O s O s'->Q () s'):wpAny (model prog w) A (storeName env x v) Q E' s:=by
 have hkf:(env.scope.kind==ScopeKind.class||env.scope.kind==ScopeKind.module&&env.locals !=env.globals)=false:=by rw[F.ok.kind];rfl
 rcases F.kinds i x hx with hk | hk
 ·obtain⟨m,hm⟩:=F.ns
  refine wpAny_storeName_local hk hm (fun h' hn hs=>?_) hkf
  have kp:=SameBut.kp hs
  obtain⟨R',tk⟩:=F.own.keepBut R kp
  have S:Stp (Pf env) O s O {s with heap:=h',toks:=s.toks+1}:=⟨prefix_refl _,fun _ a b=>absurd a b,fun b o e n=>kp b o e fun q=>n (.inr (.inl q)),fun a o e=>?_,tk,rfl,rfl⟩
  ·refine jhN (id hn) fun o' es ep n1 n2 n3 n4=>?_
   have own':Own U O h' env.locals:=⟨F.own.nm,F.own.nb,o',n1,.of_dict n2⟩
   refine k _ R' ⟨⟨F.ok.kind,F.ok.names,F.ok.globals,F.ok.bi,by rw[length_set];exact F.ok.len,F.ok.cells,fun j y pv' hj hv=>?_⟩,⟨_,hn⟩,own',fun y c hc=>?_,F.cinj,F.ctxnd,F.kinds⟩ tk S
   ·rcases jlt hv with ⟨rfl,hv'⟩ | ⟨hne,hv'⟩
    ·cases hv'
     rw[hx]at hj;cases hj
     exact⟨v,env.locals,o',V.mono (prefix_refl _) tk,n1,F.own.nm,.inl ⟨hk,rfl,es,ep,n2,n3,(n4 x).trans (if_pos rfl)⟩⟩
    ·have hyx:y≠x:=fun e=>by subst e;exact hne (F.ctxnd _ _ _ hj hx)
     refine jhN (F.ok.vars j y pv' hj hv') fun v' a o r1 r2 r3 r4=>?_
     rcases r4 with ⟨k1,rfl,es',ep',k2,k3,k4⟩ | ⟨k1,k2,k3⟩
     ·refine jhN hm fun om em pm m1 m2 m3 m4=>?_;clear hm
      rw[r2]at m1;cases m1
      rw[k2]at m2;cases m2
      exact⟨v',env.locals,o',r1.mono (prefix_refl _) tk,n1,F.own.nm,.inl ⟨k1,rfl,es,ep,n2,n3,(n4 y).trans ((if_neg hyx).trans ((m4 y).symm.trans k4))⟩⟩
     ·exact⟨v',a,o,r1.mono (prefix_refl _) tk,kp _ _ r2 (F.cell _ _ k2).2.2,r3,.inr ⟨k1,k2,k3⟩⟩
   ·refine jdo (F.cell y c hc) fun c1 zv6 c3=>?_;obtain⟨v',o,c2,c2'⟩:=zv6
    exact⟨c1.other kp c3,⟨v',o,kp _ _ c2 c3,c2'⟩,c3⟩
  ·by_cases ha:a=env.locals
   ·subst ha
    refine jn5 hn fun o' es ep n1 _=>?_;clear hn
    exact⟨o',n1⟩
   ·exact⟨o,kp _ _ e ha⟩
 ·obtain⟨c,hc⟩:=F.ok.cells x hk
  refine jdo (F.cell x c hc) fun c1 zv7 c3=>?_;obtain⟨v0,hv0⟩:=zv7
  refine wpAny_storeName_cell F.ok.kind hk hc hv0 fun h' hn hs=>?_
  have kp:=SameBut.kp hs
  obtain⟨R',tk⟩:=c1.keepBut R kp
  refine jaj hn fun o' n1 n2=>?_;clear hn
  have S:Stp (Pf env) O s O {s with heap:=h'}:=⟨prefix_refl _,fun _ a b=>absurd a b,fun b o e n=>kp b o e fun q=>n (.inr (.inr ⟨x,by rw[q];exact hc⟩)),fun a o e=>?_,tk,rfl,rfl⟩
  ·obtain⟨m,hm⟩:=F.ns
   refine k _ R' ⟨⟨F.ok.kind,F.ok.names,F.ok.globals,F.ok.bi,by rw[length_set];exact F.ok.len,F.ok.cells,fun j y pv' hj hv=>?_⟩,⟨m,jhj hm fun o e=>kp _ _ e (Ne.symm c3)⟩,F.own.other kp (Ne.symm c3),fun y c' hc'=>?_,F.cinj,F.ctxnd,F.kinds⟩ tk S
   ·rcases jlt hv with ⟨rfl,hv'⟩ | ⟨hne,hv'⟩
    ·cases hv'
     rw[hx]at hj;cases hj
     exact⟨v,c,o',V.mono (prefix_refl _) tk,n1,c1.nm,.inr ⟨hk,hc,n2⟩⟩
    ·have hyx:y≠x:=fun e=>by subst e;exact hne (F.ctxnd _ _ _ hj hx)
     refine jhN (F.ok.vars j y pv' hj hv') fun v' a o r1 r2 r3 r4=>?_
     rcases r4 with ⟨k1,rfl,k2⟩ | ⟨k1,k2,k3⟩
     ·exact⟨v',env.locals,o,r1.mono (prefix_refl _) tk,kp _ _ r2 (Ne.symm c3),r3,.inl ⟨k1,rfl,k2⟩⟩
     ·have hac:a≠c:=fun e=>by subst e;exact hyx (F.cinj _ _ _ k2 hc)
      exact⟨v',a,o,r1.mono (prefix_refl _) tk,kp _ _ r2 hac,r3,.inr ⟨k1,k2,k3⟩⟩
   ·by_cases hcc:c'=c
    ·subst hcc
     exact⟨⟨c1.nm,c1.nb,o',n1,.of_cell n2⟩,⟨_,o',n1,n2⟩,c3⟩
    ·refine jdo (F.cell y c' hc') fun d1 zv8 d3=>?_;obtain⟨v',o,d2,d2'⟩:=zv8
     exact⟨d1.other kp hcc,⟨v',o,kp _ _ d2 hcc,d2'⟩,d3⟩
  ·by_cases ha:a=c
   ·subst ha
    exact⟨o',n1⟩
   ·exact⟨o,kp _ _ e ha⟩
noncomputable def jsq(O:List Ad)(h:Heap):Fl->Flow->Prop
 | .next,f=>f= .next
 | .ret v,f=>∃u,f= .ret u/\VRep O h v u
variable(prog w T cl U) in
noncomputable def PostS(env:Env)(sc:Scope)(ctx:List (Option Str))(O:List Ad)(s:Shared)(Q:Fl->jao->AHeap->Prop)(f:Flow)(s':Shared):Prop:=
 ∃fl Z' Y' O',Q fl Z' Y'/\jsq O' s'.heap fl f/\FrOk U env sc ctx Z' O' s'.heap/\SR prog w cl T.fld U Y' O' s'.heap/\Stp (Pf env) O s O' s'
theorem PostS.before{O':List Ad}{s' s'':Shared}{Q:Fl->jao->AHeap->Prop}{f:Flow}(S:Stp (Pf env) O s O' s')(x:PostS prog w T cl U env sc ctx O' s' Q f s''):PostS prog w T cl U env sc ctx O s Q f s'':=by
 refine jmC x fun fl Z' Y' aE q r F R S'=>?_;clear x
 exact⟨fl,Z',Y',aE,q,r,F,R,S.trans S'⟩
theorem jkQ{t:Sem Flow}{O':List Ad}{s':Shared}{Q:Fl->jao->AHeap->Prop}(S:Stp (Pf env) O s O' s')(h:wpAny (model prog w) A t (PostS prog w T cl U env sc ctx O' s' Q) NoE s'):wpAny (model prog w) A t (PostS prog w T cl U env sc ctx O s Q) NoE s':=
 wpAny_mono h (fun _ _ x=>x.before S) fun _ _ e=>e
variable(prog w T cl fa U d) in
noncomputable def jkW(x:St):Prop:=∀(e:PySem.Stmt) (sc:Scope) (ctx:List (Option Str)),mtS T sc ctx x e=true->∀(A:Around) (env:Env) (Z:jao) (Y:AHeap) (O:List Ad) (s:Shared) (Q:Fl->jao->AHeap->Prop),
 AOk d A->FrOk U env sc ctx Z O s.heap->SR prog w cl T.fld U Y O s.heap->x.wp (jaL prog w T cl fa U d) Z Y Q->wpAny (model prog w) A (exec e env) (PostS prog w T cl U env sc ctx O s Q) NoE s
variable(prog w T cl fa U d) in
noncomputable def jhT(x:Sts):Prop:=∀(e:List PySem.Stmt) (sc:Scope) (ctx:List (Option Str)),jmv T sc ctx x e=true->∀(A:Around) (env:Env) (Z:jao) (Y:AHeap) (O:List Ad) (s:Shared) (Q:Fl->jao->AHeap->Prop),
 AOk d A->FrOk U env sc ctx Z O s.heap->SR prog w cl T.fld U Y O s.heap->x.wp (jaL prog w T cl fa U d) Z Y Q->wpAny (model prog w) A (execs e env) (PostS prog w T cl U env sc ctx O s Q) NoE s
theorem jrP:jhT prog w T cl fa U d .nil:=by
 intro e sc ctx hm A env Z Y O s Q hA F R q
 cases e with
 | cons _ _=>exact(Bool.false_ne_true hm).elim
 | nil=>exact wpAny_execs_nil ⟨.next,Z,Y,O,q,rfl,F,R,.refl _ _ _⟩
theorem jqh(a:St)(as:Sts)(ih:jkW prog w T cl fa U d a)(ihs:jhT prog w T cl fa U d as):jhT prog w T cl fa U d (.cons a as):=by
 intro e sc ctx hm A env Z Y O s Q hA F R q
 cases e with
 | nil=>exact(Bool.false_ne_true hm).elim
 | cons _ _=>
  have hm:=Bool.and_eq_true_iff.mp hm
  refine wpAny_execs_cons (wpAny_mono (ih _ _ _ hm.1 _ _ _ _ _ _ _ hA F R q) (fun f ag h=>?_) fun _ _ e=>e)
  refine jmC h fun fl aV af ak ao r cL am aj=>?_;clear h
  cases fl with
  | next=>
   have:f= .next:=r
   subst this
   exact jkQ aj (ihs _ _ _ hm.2 _ _ _ _ _ _ _ hA cL am ao)
  | ret v=>
   revert r;intro zo0;refine jaj zo0 fun u zq9 r=>?_;clear zo0;subst zq9
   exact⟨.ret v,aV,af,ak,ao,⟨u,rfl,r⟩,cL,am,aj⟩
theorem jrS(G:Gl T cl fa K U)(a:Ex):jkW prog w T cl fa U d (.ret a):=by
 intro e sc ctx hm A env Z Y O s Q hA F R q
 refine m_ret hm fun _ _ hm=>?_
 refine wpAny_Return_some (jaF ((jbx G a).1 _ _ _ hm _ _ _ _ _ _ _ hA F.ok R q) fun v ag pv af ak ao am aq aj=>?_)
 exact⟨.ret pv,Z,af,ak,ao,⟨v,rfl,aq⟩,F.step aj,am,aj.ofNo⟩
theorem jmj:jkW prog w T cl fa U d .retNone:=by
 intro e sc ctx hm A env Z Y O s Q hA F R q
 refine m_retNone hm fun _=>?_
 exact wpAny_Return_none ⟨.ret .none,Z,Y,O,q,⟨_,rfl,jdO⟩,F,R,.refl _ _ _⟩
theorem jrR(G:Gl T cl fa K U)(c:Ex)(a b:Sts)(iha:jhT prog w T cl fa U d a)(ihb:jhT prog w T cl fa U d b):jkW prog w T cl fa U d (.ifs c a b):=by
 intro e sc ctx hm A env Z Y O s Q hA F R q
 refine m_ifs hm fun _ _ _ _ hm=>?_
 simp only[and_eq_true]at hm
 obtain⟨⟨h1,h2⟩,h3⟩:=hm
 refine wpAny_If (jmR ((jbx G c).2 _ _ _ h1 _ _ _ _ _ _ (fun Y'=>a.wp (jaL prog w T cl fa U d) Z Y' Q) (fun Y'=>b.wp (jaL prog w T cl fa U d) Z Y' Q) hA F.ok R q) fun v ag af ak ao aD am aj=>?_)
 cases v with
 | true=>
  rw[if_pos rfl]
  exact jkQ aj.ofNo (iha _ _ _ h2 _ _ _ _ _ _ _ hA (F.step aj) am (ao rfl))
 | false=>
  rw[if_neg (by decide)]
  exact jkQ aj.ofNo (ihb _ _ _ h3 _ _ _ _ _ _ _ hA (F.step aj) am (aD rfl))
end
open PySem.SeqAt
section
variable{prog:Program}{w:World}{T:Tb}{cl:Cls->Addr}{fa:Nat->Addr}{K:Frag}{U:Heap}{env:Env}{sc:Scope}{ctx:List (Option Str)}{Z:jao}{Y:AHeap}{O:List Ad}{A:Around}{d:Nat}{s:Shared}
theorem FrOk.other{h h':Heap}{it:Addr}(F:FrOk U env sc ctx Z O h)(k:Kp (fun b=>b=it) h h')(tk:TK h h')(nf: ¬Pf env it):FrOk U env sc ctx Z O h':=by
 have hl:env.locals≠it:=fun e=>nf (.inl e.symm)
 have hc: ∀{y c},env.cells.lookup y=some c->c≠it:=fun{y c} e q=>nf (.inr ⟨y,q▸e⟩)
 obtain⟨m,hm⟩:=F.ns
 refine⟨⟨F.ok.kind,F.ok.names,F.ok.globals,F.ok.bi,F.ok.len,F.ok.cells,fun j y pv' hj hv=>?_⟩,⟨m,jhj hm fun o e=>k _ _ e hl⟩,F.own.other k hl,fun y c e=>?_,F.cinj,F.ctxnd,F.kinds⟩
 ·refine jhN (F.ok.vars j y pv' hj hv) fun v' a o r1 r2 r3 r4=>?_
  refine⟨v',a,o,r1.mono (prefix_refl _) tk,k _ _ r2 ?_,r3,r4⟩
  rcases r4 with ⟨_,rfl,_⟩ | ⟨_,k2,_⟩
  ·exact hl
  ·exact hc k2
 ·refine jdo (F.cell y c e) fun d1 zv1 d3=>?_;obtain⟨v',o,d2,d2'⟩:=zv1
  exact⟨d1.other k (hc e),⟨v',o,k _ _ d2 (hc e),d2'⟩,d3⟩
theorem FrOk.nf(F:FrOk U env sc ctx Z O s.heap){a:Addr}(h:s.heap.get? a=none): ¬Pf env a:=fun x=>by
 refine jaj ((F.pf x).nt) fun o e _=>?_
 rw[h]at e;cases e
theorem jo6{v:PySem.Expr}{e:Option PySem.Expr}{k:Nat}(h:jfn v=false):swapsWith v e k env=pure false:=by
 cases v<;>first | rfl | cases h
theorem jpW{v:PySem.Expr}{e}{k p l}:swapsWithSole [.Tuple e k p] v l env=pure false:=by cases v<;>rfl
theorem jpU{v:PySem.Expr}{e a p l}:swapsWith v (some (.Attribute e a p)) l env=pure false:=by cases v<;>rfl
theorem jpV{v:PySem.Expr}{e a p l}:swapsWith v (some (.Subscript e a p)) l env=pure false:=by cases v<;>rfl
theorem jnk{v:PySem.Expr}{e}{k p}(h:jpN v=false):swappedStores [.Tuple e k p] v env=pure none:=by cases v<;>first | rfl | cases h
theorem jpC{a:Ex}{v:PySem.Expr}(hm:mtE T sc ctx a v=true)(h:jfn v=true):
  ∃slot elt it rng cond el x xp iter ifs scope pos,a= .comp slot elt it rng cond/\v= .ListComp el [⟨.Name x xp,iter,ifs,0⟩] scope pos:=by
 cases v<;>first | exact(Bool.false_ne_true h).elim | (cases a<;>first | exact(Bool.false_ne_true hm).elim | exact m_comp (P:=fun v=>∃slot elt it rng cond el x xp iter ifs scope pos,_=Ex.comp slot elt it rng cond/\v= .ListComp el [⟨.Name x xp,iter,ifs,0⟩] scope pos) hm fun _ _ _ _ _ _ _ _=>⟨_,_,_,_,_,_,_,_,_,_,_,_,rfl,rfl⟩)
theorem jqi(G:Gl T cl fa K U)(i:Nat)(a:Ex):jkW prog w T cl fa U d (.asgn i a):=by
 intro e sc ctx hm A env Z Y O s Q hA F R q
 refine m_asgn hm fun _ _ _ _ hm=>?_
 rename_i x xp v pos
 rw[and_eq_true]at hm
 obtain⟨h1,h2⟩:=hm
 have h1:=beq_iff_eq.mp h1
 have plain:swapsWith v (some (.Name x xp)) pos.line env=pure false->wpAny (model prog w) A (exec (.Assign [.Name x xp] v pos) env) (PostS prog w T cl U env sc ctx O s Q) NoE s:=fun hsw=>by
  refine wpAny_Assign_Name ?_ hsw
  refine jaF ((jbx G a).1 _ _ _ h2 _ _ _ _ _ _ _ hA F.ok R q) fun u ag pv af ak ao am aq aj=>?_
  refine jco (F.step aj) am aq h1 fun ar aB bf _ aw=>?_
  exact⟨.next,_,af,ak,ao.2,rfl,bf,aB,aj.ofNo.trans aw⟩
 cases hc:jfn v with
 | false=>exact plain (jo6 hc)
 | true=>
  refine jtm (jpC h2 hc) fun slot elt it rng cond el y yp iter ifs scope cpos zq2 zq3=>?_;subst zq2;subst zq3
  obtain⟨b,hb⟩: ∃b,swapsWith (.ListComp el [⟨.Name y yp,iter,ifs,0⟩] scope cpos) (some (.Name x xp)) pos.line env=pure b:=⟨_,rfl⟩
  cases b with
  | false=>exact plain hb
  | true=>
   rw[exec_Assign_Name_used _ _ _ _ hb]
   refine wpAny_bind (wpAny_standAt (wpAny_bind ?_))
   show wpAny _ A (do let _ <-comprehension (.ListComp el [⟨.Name y yp,iter,ifs,0⟩] scope cpos) scope env _ (newList []) false (eval iter env) (some (assign (.Name x xp) env))) _ _ s
   refine wpAny_bind ?_
   refine jiQ G (jbx G elt).1 (jbx G it).1 (jdi G cond).c h2 (Q:=fun v af=>i<Z.length/\Q .next (Z.set i (some v)) af) hA F.ok R q (use:=some (assign (.Name x xp) env)) fun C m pv u Y' O' s' q' R' V' S' hn hC oC=>?_
   show wpAny _ A (assign (.Name x xp) env u) _ _ s'
   refine wpAny_assign_Name (jco (F.step S') R' V' h1 fun ar aB bf bR aw=>?_)
   have nf: ¬Pf env C:=F.nf hC
   have hkC: ∀o,s'.heap.get? C=some o->ar.heap.get? C=some o:=fun o e=>aw.keep _ _ e fun q=>q.elim oC.nm nf
   refine⟨m,jhj hn hkC,fun h' hs=>?_⟩
   have kp:=SameBut.kp hs
   have df:Own U O' ar.heap C:=by refine jaj oC.nt fun o e nt=>?_;exact⟨oC.nm,oC.nb,o,hkC _ e,nt⟩
   obtain⟨aU,cp⟩:=df.keepBut aB kp
   refine wpAny_pure (wpAny_pure ⟨.next,_,Y',O',q'.2,rfl,bf.other kp cp nf,aU,(S'.ofNo.trans aw).last kp hC rfl rfl⟩)
theorem joB{h:Heap}{a b:PV}{v:Value}(V:VRep O h (.tup [a,b]) v): ∃t x y,v= .ref t/\h.get? t=some (jdZ [x,y])/\VRep O h a x/\VRep O h b y:=by
 refine jaT (jb6 V) fun t vs zq4 e1 e2=>?_;subst zq4
 refine jaT e2.uncons fun x r zq5 e3 e4=>?_;subst zq5
 refine jaT e4.uncons fun y r zq6 e5 e6=>?_;subst zq6
 have:=e6.eq_nil;subst this
 exact⟨t,x,y,rfl,e1,e3,e5⟩
theorem jln{i j:Nat}{x y:Str}{xp yp tp:Pos}{kk:Nat}{pv:PV}{v:Value}{P:jao->Prop}{Q:Unit->Shared->Prop}(hA:A.handled=none)(F:FrOk U env sc ctx Z O s.heap)(R:SR prog w cl T.fld U Y O s.heap)(V:VRep O s.heap pv v)
  (hx:ctx[i]? =some (some x)) (hy:ctx[j]? =some (some y)) (q:jd4 (.two i j) pv Z P)
  (k: ∀s' Z',P Z'->SR prog w cl T.fld U Y O s'.heap->FrOk U env sc ctx Z' O s'.heap->TK s.heap s'.heap->Stp (Pf env) O s O s'->Q () s'):wpAny (model prog w) A (assign (.Tuple [.Name x xp,.Name y yp] kk tp) env v) Q NoE s:=by
 unfold jd4 at q
 dsimp only at q
 split at q
 ·rename_i a b
  refine jhN (joB V) fun t u1 u2 zq7 e1 V1 V2=>?_;subst zq7
  refine wpAny_assign_Tuple (items:= #[u1,u2]) hA ⟨_,e1,rfl,_,rfl⟩ rfl rfl fun h' hs=>?_
  have kk: ∀b o,s.heap.get? b=some o->h'.get? b=some o:=fun b o e=>hs b o (fun q=>by subst q;exact absurd (Heap.lt_size e) (lt_irrefl _)) e
  have aj:Stp No O s O {s with heap:=h'}:=.grow kk rfl rfl
  show wpAny (model prog w) A (assignInOrder [assign (.Name x xp) env,assign (.Name y yp) env] [u1,u2]) Q NoE _
  refine wpAny_assignInOrder_more (wpAny_assign_Name (jco (s:={s with heap:=h'}) (F.step aj) (R.grow kk) (V1.mono aj.pre aj.tk) hx fun ar aB bf bR aw=>?_))
  refine wpAny_assignInOrder_more (wpAny_assign_Name (jco bf aB ((V2.mono aj.pre aj.tk).mono aw.pre aw.tk) hy fun aT aU cq cp aG=>?_))
  exact wpAny_assignInOrder_none (k aT _ q.2.2 aU cq ((aj.tk.trans bR).trans cp) ((aj.ofNo.trans aw).trans aG))
 ·exact q.elim
theorem jnN(G:Gl T cl fa K U)(i j:Nat)(a:Ex):jkW prog w T cl fa U d (.unpack i j a):=by
 intro e sc ctx hm A env Z Y O s Q hA F R q
 refine m_unpack hm fun _ _ _ _ _ _ _ _ hm=>?_
 simp only[and_eq_true]at hm
 obtain⟨⟨⟨⟨h1,h2⟩,h3⟩,h4⟩,h5⟩:=hm
 have h1:=beq_iff_eq.mp h1
 have h2:=beq_iff_eq.mp h2
 refine Assign_Tuple ?_ jpW (jnk (by simpa using h4))
 refine jaF ((jbx G a).1 _ _ _ h5 _ _ _ _ _ _ _ hA F.ok R q) fun u ag pv af ak ao am aq aj=>?_
 refine jln hA.handled (F.step aj) am aq h1 h2 ao fun ar Z' aD aB bf _ aw=>?_
 exact⟨.next,_,af,ak,aD,rfl,bf,aB,aj.ofNo.trans aw⟩
theorem jsF{s':Shared}{Q:Fl->jao->AHeap->Prop}{O':List Ad}(F:FrOk U env sc ctx Z O s.heap)(aj:Stp No O s O' s'){s'':Shared}(x:PostU prog w T cl U No O' s' (fun Y'=>Q .next Z Y') s''):PostS prog w T cl U env sc ctx O s Q .next s'':=by
 refine jaT x fun ai aE q R S=>?_;clear x
 exact⟨.next,Z,ai,aE,q,rfl,F.step (aj.trans S),R,(aj.trans S).ofNo⟩
theorem jmk(G:Gl T cl fa K U)(o:Ex)(k:Nat)(a:Ex):jkW prog w T cl fa U d (.setAttr o k a):=by
 intro e sc ctx hm A env Z Y O s Q hA F R q
 refine m_setAttr hm fun _ _ _ _ _ hm=>?_
 rename_i v n p x pos
 simp only[and_eq_true]at hm
 obtain⟨⟨h1,h2⟩,h3⟩:=hm
 have hn:n=T.fld k:=by unfold Tb.fld;rw[beq_iff_eq.mp h1];rfl
 subst hn
 refine plainObj_wpAny_Assign_Attribute ?_ jpU
 refine jaF ((jbx G a).1 _ _ _ h3 _ _ _ _ _ _ _ hA F.ok R q) fun u ag pv af ak ao am aq aj=>?_
 refine jaF ((jbx G o).1 _ _ _ h2 _ _ _ _ _ _ _ hA (F.step aj).ok am ao) fun cr ar bo ai aE aD aB aL aw=>?_
 exact wpAny_mono (jfJ G aB aL (aq.mono aw.pre aw.tk) aD) (fun _ aT x=>jsF F (aj.trans aw) x) fun _ _ e=>e
theorem jml(G:Gl T cl fa K U)(o i a:Ex):jkW prog w T cl fa U d (.setItem o i a):=by
 intro e sc ctx hm A env Z Y O s Q hA F R q
 refine m_setItem hm fun _ _ _ _ _ hm=>?_
 simp only[and_eq_true]at hm
 obtain⟨⟨h1,h2⟩,h3⟩:=hm
 refine wpAny_Assign_Subscript ?_ jpV
 refine jaF ((jbx G a).1 _ _ _ h3 _ _ _ _ _ _ _ hA F.ok R q) fun u ag pv af ak ao am aq aj=>?_
 refine jaF ((jbx G o).1 _ _ _ h1 _ _ _ _ _ _ _ hA (F.step aj).ok am ao) fun cr ar bo ai aE aD aB aL aw=>?_
 refine jaF ((jbx G i).1 _ _ _ h2 _ _ _ _ _ _ _ hA ((F.step aj).step aw).ok aB aD) fun dg aT cx aI bj be aU bp aG=>?_
 exact wpAny_mono (jhn G aU (aL.mono aG.pre aG.tk) bp ((aq.mono aw.pre aw.tk).mono aG.pre aG.tk) be) (fun _ aT x=>jsF F ((aj.trans aw).trans aG) x) fun _ _ e=>e
theorem jqj(G:Gl T cl fa K U)(a:Ex):jkW prog w T cl fa U d (.expr a):=by
 intro e sc ctx hm A env Z Y O s Q hA F R q
 refine m_expr hm fun _ _ hm=>?_
 simp only[and_eq_true]at hm
 refine wpAny_Expr_any ?_ (by unfold interactive;rw[F.ok.kind];rfl) (jo6 (by simpa using hm.1))
 refine jaF ((jbx G a).1 _ _ _ hm.2 _ _ _ _ _ _ _ hA F.ok R q) fun u ag pv af ak ao am aq aj=>?_
 exact⟨.next,Z,af,ak,ao,rfl,F.step aj,am,aj.ofNo⟩
theorem jov{i:Nat}{x:Str}{Q:Value->Shared->Prop}{P:PV->Prop}(E:EnvOk env sc ctx Z O s.heap)(hx:ctx[i]? =some (some x))(q:jee Z i P)(k: ∀pv v,P pv->VRep O s.heap pv v->Q v s):
  wpAny (model prog w) A (loadName env x) Q NoE s:=by
 refine jaj (jhm q) fun pv bk q=>?_
 refine jhN (E.vars i x pv hx bk) fun v a o r1 r2 r3 r4=>?_
 have fin:Q v s:=k pv v q r1
 rcases r4 with ⟨k1,rfl,es,ep,k2,k3,k4⟩ | ⟨k1,k2,k3⟩
 ·exact wpAny_loadName_local (m:=nsFind es) E.kind k1 ⟨o,es,ep,r2,k2,k3,fun _=>rfl⟩ k4 fin
 ·exact wpAny_loadName_cell E.kind k1 k2 ⟨o,r2,k3⟩ fin
theorem jnM(G:Gl T cl fa K U)(i:Nat)(op:Bop)(a:Ex):jkW prog w T cl fa U d (.augLoc i op a):=by
 intro e sc ctx hm A env Z Y O s Q hA F R q
 refine m_augLoc hm fun _ _ _ _ _ hm=>?_
 simp only[and_eq_true]at hm
 obtain⟨⟨h1,h2⟩,h3⟩:=hm
 have h1:=beq_iff_eq.mp h1
 refine wpAny_AugAssign_Name (jov F.ok h1 q fun pv v q' V=>?_)
 refine jaF ((jbx G a).1 _ _ _ h3 _ _ _ _ _ _ _ hA F.ok R q') fun u ag dw af ak ao am aq aj=>?_
 refine jaF (ji8 h2 am (V.mono aj.pre aj.tk) aq ao) fun cr ar bo ai aE aD aB aL aw=>?_
 obtain⟨aD,rfl⟩:=aD
 refine jco ((F.step aj).step aw) aB aL h1 fun aT aU cq _ aG=>?_
 exact⟨.next,_,_,aE,aD,rfl,cq,aU,(aj.trans aw).ofNo.trans aG⟩
theorem jmi(G:Gl T cl fa K U)(o:Ex)(k:Nat)(op:Bop)(a:Ex):jkW prog w T cl fa U d (.augAttr o k op a):=by
 intro e sc ctx hm A env Z Y O s Q hA F R q
 refine m_augAttr hm fun _ _ _ _ _ _ hm=>?_
 rename_i v n p o' x pos
 simp only[and_eq_true]at hm
 obtain⟨⟨⟨h1,h2⟩,h3⟩,h4⟩:=hm
 have hn:n=T.fld k:=by unfold Tb.fld;rw[beq_iff_eq.mp h1];rfl
 subst hn
 refine wpAny_AugAssign_AttributeAny ?_
 refine jaF ((jbx G o).1 _ _ _ h3 _ _ _ _ _ _ _ hA F.ok R q) fun u ag pv af ak ao am aq aj=>?_
 refine jaF (jfk G am aq ao) fun cr ar bo ai aE aD aB aL aw=>?_
 obtain⟨aD,rfl⟩:=aD
 refine jaF ((jbx G a).1 _ _ _ h4 _ _ _ _ _ _ _ hA ((F.step aj).step aw).ok aB aD) fun dg aT cx aI bj be aU bp aG=>?_
 refine jaF (ji8 h2 aU (aL.mono aG.pre aG.tk) bp be) fun dz aW dC aZ dD ct bv dh bw=>?_
 obtain⟨ct,rfl⟩:=ct
 have cu:=(aw.trans aG).trans bw
 exact wpAny_mono (jfJ G bv (aq.mono cu.pre cu.tk) dh ct) (fun _ aT x=>jsF F (aj.trans cu) x) fun _ _ e=>e
end
open PySem.SeqAt
section
variable{prog:Program}{w:World}{T:Tb}{cl:Cls->Addr}{fa:Nat->Addr}{K:Frag}{U:Heap}{env:Env}{sc:Scope}{ctx:List (Option Str)}{Z:jao}{Y:AHeap}{O:List Ad}{A:Around}{d:Nat}{s:Shared}
theorem joJ(G:Gl T cl fa K U)(c:Ex)(b:Sts)(ihb:jhT prog w T cl fa U d b):jkW prog w T cl fa U d (.while c b):=by
 intro e sc ctx hm A env Z Y O s Q hA F R q
 refine m_while hm fun _ _ _ hm=>?_
 simp only[and_eq_true]at hm
 obtain⟨h1,h2⟩:=hm
 refine jdp q fun I aY hI0 hI=>?_;clear q
 refine wpAny_While (codeAny_whileLoop (fun n s'=>∃Z' Y' O',I n Z' Y'/\FrOk U env sc ctx Z' O' s'.heap/\SR prog w cl T.fld U Y' O' s'.heap/\Stp (Pf env) O s O' s') ?_ aY ⟨Z,Y,O,hI0,F,R,.refl _ _ _⟩)
 intro n s' zu8;refine jhN zu8 fun Z' Y' O' hIn F' R' S'=>?_;clear zu8
 have q':=hI n Z' Y' hIn
 refine wpAny_mono ((jbx G c).2 _ _ _ h1 _ _ _ _ _ _ (fun af=>b.wp (jaL prog w T cl fa U d) Z' af fun fl aJ ai=>match fl with
    | .next=>∃m,m<n/\I m aJ ai
    | .ret r=>Q (.ret r) aJ ai) (fun af=>Q .next Z' af) hA F'.ok R' q') (fun v ag h=>?_) fun _ _ e=>e.elim
 refine jmA h fun af ak q1 q2 am aj=>?_;clear h
 cases v with
 | true=>
  rw[if_pos rfl]
  refine wpAny_mono (ihb _ _ _ h2 _ _ _ _ _ _ _ hA (F'.step aj) am (q1 rfl)) (fun f ar h=>?_) fun _ _ e=>e.elim
  refine jmC h fun fl aJ ai aE aD r bf aB aw=>?_;clear h
  have S:=(S'.trans aj.ofNo).trans aw
  cases fl with
  | next=>
   have:f= .next:=r
   subst this
   refine jaj aD fun m hm hIm=>?_;clear aD
   exact⟨m,hm,aJ,ai,aE,hIm,bf,aB,S⟩
  | ret v=>
   revert r;intro zo0;refine jaj zo0 fun u zq9 r=>?_;clear zo0;subst zq9
   exact⟨.ret v,aJ,ai,aE,aD,⟨u,rfl,r⟩,bf,aB,S⟩
 | false=>
  rw[if_neg (by decide)]
  exact wpAny_execs_nil ⟨.next,Z',af,ak,q2 rfl,rfl,F'.step aj,am,S'.trans aj.ofNo⟩
theorem jsN{tgt:PySem.Expr}{it:Addr}{src:Src}{i:Nat}{v:Value}{Q:Unit->Shared->Prop}{E':Value->Shared->Prop}(hr:ItRep s.heap it src i)(q:Q () s):wpAny (model prog w) A (letOwnedTupleGo tgt (.ref it) v) Q E' s:=by
 have hcls: ∃o n vs,s.heap.get? it=some o/\o.cls= .type n/\o.data= .fields vs/\(["enumerate","zip","dict_itemiterator","dict_reverseitemiterator","odict_iterator","itertools.zip_longest","itertools.pairwise"].contains n)=false:=by
  cases src with
  | list a=>refine jcs hr fun o h1 h2 h3=>?_;clear hr;exact⟨o,_,_,h1,h2,h3,by decide⟩
  | tup a vs=>obtain⟨⟨o,h1,h2,h3⟩,_⟩:=hr;exact⟨o,_,_,h1,h2,h3,by decide⟩
  | rng n=>exact⟨_,_,_,hr.2,rfl,rfl,by decide⟩
 refine jhN hcls fun o n vs h1 h2 h3 h4=>?_;clear hcls
 unfold letOwnedTupleGo
 have body:wpAny (model prog w) A (do
   let (.ref r,.ref a):=((.ref it:Value),v) | (pure ():Sem Unit)
   let o <-load r
   match o.cls,o.data with
   | .type n,.fields vs=>
    if ["enumerate","zip","dict_itemiterator","dict_reverseitemiterator","odict_iterator","itertools.zip_longest","itertools.pairwise"].contains n&&vs[0]? ==some (rawInt a)then
     rule "for.unpacks-the-owned-tuple"
     updateField r 0 .none
   | _,_=>pure ()) Q E' s:=by
  cases v<;>first | exact wpAny_pure q | skip
  refine wpAny_bind (wpAny_load h1 ?_)
  rw[h2,h3]
  dsimp only
  rw[h4,Bool.false_and,if_neg (by decide)]
  exact wpAny_pure q
 cases tgt<;>first | exact wpAny_pure q | exact body
theorem jrQ(G:Gl T cl fa K U)(t:Tgt)(it:Ex)(rng:Bool)(b:Sts)(ihb:jhT prog w T cl fa U d b):jkW prog w T cl fa U d (.for t it rng b):=by
 intro e sc ctx hm A env Z Y O s Q hA F R q
 refine m_for hm fun _ _ _ _ hm=>?_
 rename_i tgt iter body pos
 rw[and_eq_true,and_eq_true]at hm
 obtain⟨⟨ht,hit⟩,hb⟩:=hm
 have take: ∀{s':Shared} {Z':jao} {Y':AHeap} {O':List Ad} {pv:PV} {v:Value} {P:jao->Prop} {Q':Unit->Shared->Prop},FrOk U env sc ctx Z' O' s'.heap->SR prog w cl T.fld U Y' O' s'.heap->VRep O' s'.heap pv v->jd4 t pv Z' P->
   (∀ s'' Z'',P Z''->SR prog w cl T.fld U Y' O' s''.heap->FrOk U env sc ctx Z'' O' s''.heap->TK s'.heap s''.heap->Stp (Pf env) O' s' O' s''->Q' () s'')->wpAny (model prog w) A (assign tgt env v) Q' NoE s':=by
  intro s' Z' Y' O' pv v P Q' F' R' V' q' k
  cases t with
  | one i=>
    refine m_one ht fun _ _ ht=>?_
    refine wpAny_assign_Name (jco F' R' V' (beq_iff_eq.mp ht) fun ar aB bf bR aw=>k _ _ q'.2 aB bf bR aw)
  | two i j=>
    refine m_two ht fun _ _ _ _ _ _ ht=>?_
    simp only[and_eq_true]at ht
    obtain⟨⟨t1,t2⟩,t3⟩:=ht
    exact jln hA.handled F' R' V' (beq_iff_eq.mp t1) (beq_iff_eq.mp t2) q' k
 have loop: ∀{pv:PV} {af:AHeap} {ak:List Ad} {ag ar:Shared} {it':Addr} {src:Src},
   (∃ (I:Nat->jao->AHeap->Prop) (N:Nat),I 0 Z af/\∀i Z' Y',I i Z' Y'->i<=N/\∃xs,jam rng pv Y'=some xs/\
   (match xs[i]? with
    | Option.none=>Q .next Z' Y'
    | some x=>jd4 t x Z' fun aV=>b.wp (jaL prog w T cl fa U d) aV Y' fun fl aJ ai=>match fl with
     | .next=>I (i+1) aJ ai
     | .ret r=>Q (.ret r) aJ ai))->SR prog w cl T.fld U af ak ag.heap->Stp No O s ak ag->ag.heap.get? it'=none->
   (∀ (b:Addr) (o:Obj),ag.heap.get? b=some o->ar.heap.get? b=some o)->ar.os=ag.os->ar.gens=ag.gens->ItRep ar.heap it' src 0->SrcOk ak ar.heap pv rng src->
   codeAny (model prog w) A (.forLoop tgt (.ref it') body [] env) (fun r s'=>match r with | .ok f=>PostS prog w T cl U env sc ctx O s Q f s' | .error e=>cameBackBy (model prog w) A env NoE e s') ar:=by
  intro pv af ak ag ar it' src zu1 am aj hn hk ho hg hir hsrc;refine jdp zu1 fun I N hI0 hI=>?_;clear zu1
  have hns:s.heap.get? it'=none:=by
   cases e:s.heap.get? it' with
   | none=>rfl
   | some o=>obtain⟨o',e'⟩:=aj.ex _ _ e;rw[hn]at e';cases e'
  have nf: ¬Pf env it':=F.nf hns
  have bB:Stp No ak ag ak ar:=.grow hk ho hg
  have nm1: ¬InMu ak it':=fun x=>by refine jaj (am.mu x) fun o e _=>?_;rw[hn]at e;cases e
  have nb:U.get? it'=none:=by
   cases e:U.get? it' with
   | none=>rfl
   | some o=>have:=R.keep _ _ e;rw[hns]at this;cases this
  refine codeAny_forLoop_any (fun n s'=>∃i Z' Y' O',n=N+1-i/\I i Z' Y'/\FrOk U env sc ctx Z' O' s'.heap/\SR prog w cl T.fld U Y' O' s'.heap/\Stp (Pf env) O s O' s'/\ItRep s'.heap it' src i/\SrcOk O' s'.heap pv rng src/\Own U O' s'.heap it') ?_ (N+1-0)
   ⟨0,Z,af,ak,rfl,hI0,(F.step aj).step bB,am.grow hk,(aj.trans bB).ofNo,hir,hsrc,⟨nm1,nb,hir.nt⟩⟩
  intro n s' zu2;refine juL zu2 fun i Z' Y' O' zq3 hIi F' R' S' hir' hsrc' oit=>?_;clear zu2;subst zq3
  obtain⟨hiN,zu4⟩:=hI i Z' Y' hIi;refine jaj zu4 fun xs hxs hmt=>?_;clear zu4
  refine wpAny_mono (jlk hA.handled R' hir' oit.nm oit.nb hxs hsrc') (fun r aW hnx=>?_) fun _ _ e=>e.elim
  refine jgk hnx fun n1 n2 bv bF hcase=>?_;clear hnx
  cases hxi:xs[i]? with
  | none=>
   rw[hxi]at hcase hmt
   obtain⟨rfl,kp⟩:=hcase
   exact wpAny_execs_nil ⟨.next,Z',Y',O',hmt,rfl,F'.other kp bF nf,bv,S'.last kp hns n1 n2⟩
  | some x'=>
   rw[hxi]at hcase hmt
   refine jkV hcase fun v zq5 rv bz bN=>?_;clear hcase;subst zq5
   have bG:=SameBut.kp bN
   have bw:Stp (Pf env) O s O' aW:=S'.last bG hns n1 n2
   have di:=F'.other bG bF nf
   have bO:Own U O' aW.heap it':=⟨oit.nm,oit.nb,bz.nt⟩
   refine jsN bz ?_
   refine wpAny_mono (take di bv rv hmt (Q':=fun _ bM=>∃Z'',b.wp (jaL prog w T cl fa U d) Z'' Y' (fun fl aJ ai=>match fl with
     | .next=>I (i+1) aJ ai
     | .ret r=>Q (.ret r) aJ ai)/\SR prog w cl T.fld U Y' O' bM.heap/\FrOk U env sc ctx Z'' O' bM.heap/\TK aW.heap bM.heap/\Stp (Pf env) O' aW O' bM) fun s'' Z'' a1 a2 a3 a4 a5=>⟨Z'',a1,a2,a3,a4,a5⟩) (fun _ bM h5=>?_) fun _ _ e=>e.elim
   refine jtn h5 fun Z'' dk cb dn bH bA=>?_;clear h5
   have kit: ∀{bg:List Ad} {sa sb:Shared} {br:List Ad} {j:Nat},Own U bg sa.heap it'->Stp (Pf env) bg sa br sb->ItRep sa.heap it' src j->ItRep sb.heap it' src j:=fun{bg sa sb br j} o S hr=>
    hr.keep (fun ob e=>S.keep _ _ e (fun q=>q.elim o.nm nf)) S.tk
   have bI:=bO.step bA nf
   have cf:=kit bO bA bz
   refine wpAny_mono (ihb _ _ _ hb _ _ _ _ _ _ _ hA dn cb dk) (fun f cC h=>?_) fun _ _ e=>e.elim
   refine jmC h fun fl cM bJ bK cO r cP bL aX=>?_;clear h
   have S:=(bw.trans bA).trans aX
   cases fl with
   | next=>
    have:f= .next:=r
    subst this
    exact⟨N+1-(i+1),by exact o62 hiN,i+1,cM,bJ,bK,rfl,cO,cP,bL,S,kit bI aX cf,((hsrc'.mono (prefix_refl _) bF).mono (prefix_refl _) bH).mono aX.pre aX.tk,bI.step aX nf⟩
   | ret v=>
    revert r;intro zo7;refine jaj zo7 fun u zq6 r=>?_;clear zo7;subst zq6
    exact⟨.ret v,cM,bJ,bK,cO,⟨u,rfl,r⟩,cP,bL,S⟩
 have hfold: ∀v,foldedSetIterable iter env v=pure v:=fun v=>by
  cases rng with
  | false=>exact jiW hit v
  | true=>
   exact rngT hit fun _ _ _ _ _=>rfl
 refine wpAny_For ?_ hfold
 cases rng with
 | false=>
  refine jaF ((jbx G it).1 _ _ _ hit _ _ _ _ _ _ _ hA F.ok R q) fun v ag pv af ak ao am aq aj=>?_
  have hxs: ∃xs,jam false pv af=some xs:=by
   refine jdp ao fun I N hI0 hI=>?_;clear ao
   obtain⟨_,zu8⟩:=hI 0 _ _ hI0;refine jaj zu8 fun xs hxs _=>?_;clear zu8
   exact⟨xs,hxs⟩
  obtain⟨xs,hxs⟩:=hxs
  exact jlc am aq hxs fun it' src ar a1 a2 a3 a4 a5 a6=>loop ao am aj a1 a2 a3 a4 a5 a6
 | true=>
  refine rngT hit fun f fp n p' hit=>?_
  simp only[and_eq_true]at hit
  obtain⟨⟨hf,hg⟩,hn⟩:=hit
  refine jjh G hn (beq_iff_eq.mp hf) hg F.ok R ((jbx G it).1 _ _ _ hn _ _ _ _ _ _ _ hA F.ok R q) fun pv af ak ag ao am aj=>?_
  have hxs: ∃xs,jam true pv af=some xs:=by
   refine jdp ao fun I N hI0 hI=>?_;clear ao
   obtain⟨_,zu9⟩:=hI 0 _ _ hI0;refine jaj zu9 fun xs hxs _=>?_;clear zu9
   exact⟨xs,hxs⟩
  obtain⟨xs,hxs⟩:=hxs
  simp only[jam]at hxs
  split at hxs
  ·rename_i k
   split at hxs
   ·rename_i hk
    exact⟨k,rfl,hk,fun it' src ar a1 a2 a3 a4 a5 a6=>loop ao am aj a1 a2 a3 a4 a5 a6⟩
   ·cases hxs
  ·cases hxs
mutual
theorem jBk(G:Gl T cl fa K U): ∀x:St,jkW prog w T cl fa U d x
 | .asgn i e=>jqi G i e
 | .unpack i j e=>jnN G i j e
 | .setAttr o k e=>jmk G o k e
 | .setItem o i e=>jml G o i e
 | .augLoc i op e=>jnM G i op e
 | .augAttr o k op e=>jmi G o k op e
 | .ifs c a b=>jrR G c a b (jkG G a) (jkG G b)
 | .while c b=>joJ G c b (jkG G b)
 | .for t it rng b=>jrQ G t it rng b (jkG G b)
 | .ret e=>jrS G e
 | .retNone=>jmj
 | .expr e=>jqj G e
theorem jkG(G:Gl T cl fa K U): ∀x:Sts,jhT prog w T cl fa U d x
 | .nil=>jrP
 | .cons a as=>jqh a as (jBk G a) (jkG G as)
end
end
open PySem.SeqAt
theorem jcN: ∀{names:List (Str×NameKind)} {n:Nat} {acc:List (Str×Addr)} {y:Str},((acc.lookup y).isSome=true\/(y,NameKind.cell)∈names)->((cellsFrom n names acc).lookup y).isSome=true
 | [],n,acc,y,h=>by
  rcases h with h | h
  ·exact h
  ·cases h
 | (m,k)::r,n,acc,y,h=>by
  unfold cellsFrom
  split
  ·refine jcN ?_
   rcases h with h | h
   ·left
    rw[lookup_cons]
    cases y==m with
    | true=>rfl
    | false=>exact h
   ·rcases mem_cons.mp h with e | h
    ·cases e
     left
     rw[lookup_cons]
     simp
    ·exact .inr h
  ·rename_i hk
   refine jcN ?_
   rcases h with h | h
   ·exact .inl h
   ·rcases mem_cons.mp h with e | h
    ·cases e;exact absurd rfl hk
    ·exact .inr h
theorem jfa{kindOf:Str->Option NameKind}{x:Str}: ∀{binds:List (Str×Value)} {m:Str->Option Value},(∀ p∈binds,p.1≠x)->PySem.bindL kindOf binds m x=m x
 | [],m,_=>rfl
 | (n,v)::r,m,h=>by
  unfold PySem.bindL
  rw[jfa fun p hp=>h p (.tail _ hp)]
  split
  ·exact if_neg (Ne.symm (h (n,v) (.head _)))
  ·rfl
theorem je9{kindOf:Str->Option NameKind}{x:Str}: ∀{binds:List (Str×Value)} {m:Str->Option Value},(∀ p∈binds,p.1≠x)->PySem.bindC kindOf binds m x=m x
 | [],m,_=>rfl
 | (n,v)::r,m,h=>by
  unfold PySem.bindC
  rw[je9 fun p hp=>h p (.tail _ hp)]
  split
  ·rfl
  ·exact if_neg (Ne.symm (h (n,v) (.head _)))
theorem jpf{x:Str}: ∀{names:List Str} {vs:List Value},x∉names->∀p∈names.zip vs,p.1≠x:=fun{names vs} h p hp e=>h (e▸(List.of_mem_zip (a:=p.1) (b:=p.2) hp).1)
theorem jio{kindOf:Str->Option NameKind}: ∀{names:List Str} {vs:List Value} {m:Str->Option Value} {i:Nat} {x:Str} {v:Value},names.Nodup->names[i]? =some x->vs[i]? =some v->kindOf x=some .local->PySem.bindL kindOf (names.zip vs) m x=some v
 | [],_,_,_,_,_,_,h,_,_=>by simp at h
 | _::_,[],_,_,_,_,_,_,h,_=>by simp at h
 | n::ns,u::us,m,i,x,v,hnd,h1,h2,hk=>by
  rw[nodup_cons]at hnd
  show PySem.bindL kindOf (ns.zip us) _ x=some v
  cases i with
  | zero=>
   simp at h1 h2
   subst h1;subst h2
   rw[jfa (jpf hnd.1),if_pos hk,if_pos rfl]
  | succ i=>
   simp at h1 h2
   exact jio hnd.2 h1 h2 hk
theorem jin{kindOf:Str->Option NameKind}: ∀{names:List Str} {vs:List Value} {m:Str->Option Value} {i:Nat} {x:Str} {v:Value},names.Nodup->names[i]? =some x->vs[i]? =some v->kindOf x=some .cell->PySem.bindC kindOf (names.zip vs) m x=some v
 | [],_,_,_,_,_,_,h,_,_=>by simp at h
 | _::_,[],_,_,_,_,_,_,h,_=>by simp at h
 | n::ns,u::us,m,i,x,v,hnd,h1,h2,hk=>by
  rw[nodup_cons]at hnd
  show PySem.bindC kindOf (ns.zip us) _ x=some v
  cases i with
  | zero=>
   simp at h1 h2
   subst h1;subst h2
   rw[je9 (jpf hnd.1),if_neg (by rw[hk];simp),if_pos rfl]
  | succ i=>
   simp at h1 h2
   exact jin hnd.2 h1 h2 hk
theorem jdL: ∀{names:List Str} {vs:List Value},names.Nodup->vs.length=names.length->∀(pre:List (Str×Value)),(∀ n∈names,pre.lookup n=none)->
  names.filterMap (fun n=>((pre++names.zip vs).lookup n).map (n,·))=names.zip vs
 | [],vs,_,_,_,_=>rfl
 | n::ns,[],_,h,_,_=>by simp at h
 | n::ns,v::vs,hnd,h,pre,hp=>by
  rw[nodup_cons]at hnd
  have ih:=jdL hnd.2 (by simpa using h) (pre++ [(n,v)]) (fun y hy=>by
   rw[List.lookup_append,hp y (.tail _ hy),Option.none_or,lookup_cons]
   have:(y==n)=false:=by
    cases e:y==n with
    | false=>rfl
    | true=>rw[beq_iff_eq.mp e]at hy;exact absurd hy hnd.1
   rw[this];rfl)
  rw[append_assoc]at ih
  rw[List.filterMap_cons]
  have e1:(pre++(n::ns).zip (v::vs)).lookup n=some v:=by
   rw[List.lookup_append,hp n (.head _),Option.none_or]
   simp[List.zip_cons_cons,lookup_cons]
  rw[e1]
  simp only[Option.map_some,List.zip_cons_cons]
  congr 1
theorem jj4{fd:FuncData}{names:List Str}{vs:List Value}(h1:fd.params.posonlyargs= [])(h2:fd.params.vararg=none)(h3:fd.params.kwonlyargs= [])(h4:fd.params.kwarg=none)
  (h5:fd.defaults= .none) (hn:fd.params.args.map (·.arg)=names) (hnd:names.Nodup) (hl:vs.length=names.length):bindArgs fd ⟨vs,[]⟩=pure (names.zip vs):=by
 have hf:=jdL hnd hl [] (fun _ _=>rfl)
 rw[nil_append]at hf
 have hlook: ∀n∈names,(List.lookup n (names.zip vs)).isNone=false:=fun n hm=>by
  obtain⟨i,hi⟩:=mem_iff_getElem?.mp hm
  cases e:List.lookup n (names.zip vs)with
  | some _=>rfl
  | none=>
   rw[List.lookup_eq_none_iff]at e
   have hlt:i<names.length:=(List.getElem?_eq_some_iff.mp hi).1
   have:(n,vs[i]'(o45 hl hlt))∈names.zip vs:=by
    rw[mem_iff_getElem?]
    refine⟨i,?_⟩
    rw[List.getElem?_zip_eq_some]
    exact⟨hi,getElem?_eq_getElem _⟩
   have:=e _ this
   simp at this
 have hmiss:List.filter (fun n=>(List.lookup n (names.zip vs)).isNone) (List.take (names.length-([]:List Value).length) names)= []:=by
  rw[filter_eq_nil_iff]
  intro n hm
  rw[hlook n (mem_of_mem_take hm)]
  simp
 unfold bindArgs
 simp only[h1,h2,h3,h4,h5,hn,map_nil,nil_append,forIn_nil,append_nil]
 have hseq:seqItems? Value.none=pure none:=rfl
 have hgt:(decide (vs.length>names.length)&&(none:Option Arg).isNone)=false:=by
  rw[decide_eq_false (jvT hl)];rfl
 simp only[hseq]
 show(if (decide (vs.length>names.length)&&(none:Option Arg).isNone)=true then _ else _)=_
 rw[hgt,if_neg (by decide)]
 show(if (!(List.filter (fun n=>(List.lookup n (names.zip vs)).isNone) (List.take (names.length-(List.drop (([]:List Value).length-names.length) ([]:List Value)).length) names)).isEmpty)=true then _ else _)=_
 rw[List.drop_nil,hmiss,if_neg (by decide)]
 have hd0: ∀k,List.drop k ((none:Option (Array Value)).getD #[]).toList= []:=fun k=>List.drop_nil
 simp only[hd0,List.zip_nil_right,forIn_nil]
 show(pure (names.filterMap (fun n=>((names.zip vs).lookup n).map (n,·))):Sem _)=_
 rw[hf]
open PySem.SeqAt
noncomputable def jiS:List (Option Str)->Bool
 | []=>true
 | none::r=>jiS r
 | some x::r=> !r.contains (some x)&&jiS r
theorem jdK: ∀{ctx:List (Option Str)},jiS ctx=true->∀(i j:Nat) (x:Str),ctx[i]? =some (some x)->ctx[j]? =some (some x)->i=j
 | [],_,i,_,_,h,_=>by simp at h
 | o::r,hn,i,j,x,h1,h2=>by
  have hr:jiS r=true:=by
   cases o with
   | none=>exact hn
   | some y=>unfold jiS at hn;simp only[and_eq_true]at hn;exact hn.2
  have nm:o=some x->∀(k:Nat),r[k]? ≠some (some x):=by
   rintro rfl k hk
   unfold jiS at hn
   simp only[and_eq_true]at hn
   have:=mem_of_getElem? hk
   have h:=hn.1
   rw[<- contains_iff_mem]at this
   rw[this]at h
   cases h
  cases i with
  | zero=>
   cases j with
   | zero=>rfl
   | succ j=>simp at h1 h2;exact absurd h2 (nm h1 j)
  | succ i=>
   cases j with
   | zero=>simp at h1 h2;exact absurd h1 (nm h2 i)
   | succ j=>simp at h1 h2;exact congrArg Nat.succ (jdK hr i j x h1 h2)
noncomputable def jeQ(sc:Scope)(ctx:List (Option Str)):Bool:=ctx.all fun o=>match o with
 | none=>true
 | some x=>sc.names.lookup x==some .local||sc.names.lookup x==some .cell
noncomputable def juE(sc:Scope):Bool:= !sc.isCoroutine&& !sc.isGenerator&&sc.kind== .function
noncomputable def jrz(p:Arguments):Bool:=p.posonlyargs.isEmpty&&p.vararg.isNone&&p.kwonlyargs.isEmpty&&p.kwarg.isNone
noncomputable def joq(T:Tb)(K:Frag)(a:Addr)(n:Nat)(ctx:List (Option Str))(ss:Sts):Bool:=
 match K.lookup a with
 | some ⟨_,_,.func fd,_⟩=>juE fd.scope&&jrz fd.params&&codeIn K fd.code fd.qualname&&fd.closure.isEmpty&&fd.globals==mainGlobals&&fd.builtins==builtinsNs&&
   (match fd.defaults with | .none=>true | _=>false)&&(fd.params.args.map (fun p=>some p.arg)==ctx.take n)&&ble n ctx.length&&jiS ctx&&jeQ fd.scope ctx&&
   (match fd.body with | .stmts b=>jmv T fd.scope ctx ss b | _=>false)
 | _=>false
noncomputable def Fl.val:Fl->PV
 | .next=>.none
 | .ret v=>v
section
variable{prog:Program}{w:World}{T:Tb}{cl:Cls->Addr}{fa:Nat->Addr}{K:Frag}{U:Heap}{env:Env}{sc:Scope}{ctx:List (Option Str)}{Z:jao}{Y:AHeap}{O:List Ad}{A:Around}{d:Nat}{s:Shared}
theorem jmW(G:Gl T cl fa K U){f n:Nat}{ss:Sts}{args:List PV}{Q:PV->AHeap->Prop}(hc:joq T K (fa f) n ctx ss=true)(hlen:args.length=n)
  (q:ss.wp (jaL prog w T cl fa U d) (args.map some++replicate (ctx.length-n) none) Y (fun fl _ Y'=>Q fl.val Y')):jaL prog w T cl fa U (d+1) f args Y Q:=by
 intro A O s vs hA R V
 unfold joq at hc
 split at hc
 ·rename_i c0 d0 fd sl hK
  simp only[and_eq_true]at hc
  obtain⟨⟨⟨⟨⟨⟨⟨⟨⟨⟨⟨b1,b2⟩,b3⟩,b4⟩,b5⟩,b6⟩,b7⟩,b8⟩,b9⟩,b10⟩,b11⟩,b12⟩:=hc
  unfold juE at b1
  unfold jrz at b2
  simp only[and_eq_true,Bool.not_eq_true',beq_iff_eq,List.isEmpty_iff,Option.isNone_iff_eq_none]at b1 b2 b4 b5 b6 b8
  obtain⟨⟨c1,c2⟩,c3⟩:=b1
  obtain⟨⟨⟨p1,p2⟩,p3⟩,p4⟩:=b2
  have hdef:fd.defaults= .none:=by
   split at b7
   ·assumption
   ·cases b7
  have hn:n<=ctx.length:=by simpa using b9
  split at b12
  ·rename_i body hbody
   have X:=G.kin.keeps R.keep
   have hvl:vs.length=args.length:=V.length
   obtain⟨names,hnames⟩: ∃names,fd.params.args.map (·.arg)=names:=⟨_,rfl⟩
   have htake:ctx.take n=names.map some:=by rw[<- b8,<-hnames,map_map];rfl
   have hnl:names.length=n:=by
    have:=congrArg length htake
    rw[length_take,length_map]at this
    exact jvU hn this
   have hctx: ∀(i:Nat) (x:Str),names[i]? =some x->ctx[i]? =some (some x):=fun i x h=>by
    have hi:i<n:=by rw[<- hnl];exact(List.getElem?_eq_some_iff.mp h).1
    rw[<- List.getElem?_take_of_lt hi,htake,getElem?_map,h];rfl
   have hnd:names.Nodup:=by
    rw[nodup_iff_pairwise_ne,pairwise_iff_getElem]
    intro i j hi hj hij e
    have:=jdK b10 _ _ _ (hctx i _ (getElem?_eq_getElem hi)) (hctx j _ (e▸getElem?_eq_getElem hj))
    exact o25 hij this
   have hkinds: ∀(i:Nat) (x:Str),ctx[i]? =some (some x)->fd.scope.names.lookup x=some .local\/fd.scope.names.lookup x=some .cell:=fun i x h=>by
    unfold jeQ at b11
    rw[all_eq_true]at b11
    have:=b11 _ (mem_of_getElem? h)
    simpa using this
   refine jto G.top fun p loose mg mb TR=>?_
   refine codeAny_call_function (body:=body) ?_ (X _ _ hK) rfl c1 c2 hbody (codeRec_of X b3) ?_
   ·have:=hA.depth
    show A.depth<1000
    exact jvV this
   refine wpAny_of_eq (jj4 p1 p2 p3 p4 hdef hnames hnd (jvW hlen hvl hnl)) ?_
   rw[b4,b5,b6]
   refine wpAny_newFunctionEnv_cells c3 ?_ ?_
   ·intro y hy
    obtain⟨hy1,hy2⟩:=List.of_mem_zip (a:=y.1) (b:=y.2) hy
    obtain⟨i,hi⟩:=mem_iff_getElem?.mp hy1
    rcases hkinds _ _ (hctx _ _ hi)with h | h
    ·exact .inl h
    ·exact .inr ⟨h,jcN (.inr (mem_of_lookup h))⟩
   ·rintro env rfl s' I
    refine⟨(TR.nolimit.keeps R.keep).keeps I.toInCall.keep,codeAny_func ?_⟩
    have hkO: ∀y,(newEnv fd.scope s.heap.objs.size mainGlobals (cellsFrom (s.heap.objs.size+1) fd.scope.names []) (fd.qualname++Str.ofString ".<locals>.") (some (fa f)) fd.code none builtinsNs).kindOf y=fd.scope.names.lookup y:=fun y=>rfl
    have hsc:(newEnv fd.scope s.heap.objs.size mainGlobals (cellsFrom (s.heap.objs.size+1) fd.scope.names []) (fd.qualname++Str.ofString ".<locals>.") (some (fa f)) fd.code none builtinsNs).scope=fd.scope:=rfl
    have hL:(newEnv fd.scope s.heap.objs.size mainGlobals (cellsFrom (s.heap.objs.size+1) fd.scope.names []) (fd.qualname++Str.ofString ".<locals>.") (some (fa f)) fd.code none builtinsNs).locals=s.heap.objs.size:=rfl
    have hcs:(newEnv fd.scope s.heap.objs.size mainGlobals (cellsFrom (s.heap.objs.size+1) fd.scope.names []) (fd.qualname++Str.ofString ".<locals>.") (some (fa f)) fd.code none builtinsNs).cells=cellsFrom (s.heap.objs.size+1) fd.scope.names []:=rfl
    have hgl:(newEnv fd.scope s.heap.objs.size mainGlobals (cellsFrom (s.heap.objs.size+1) fd.scope.names []) (fd.qualname++Str.ofString ".<locals>.") (some (fa f)) fd.code none builtinsNs).globals=mainGlobals:=rfl
    have hbu:(newEnv fd.scope s.heap.objs.size mainGlobals (cellsFrom (s.heap.objs.size+1) fd.scope.names []) (fd.qualname++Str.ofString ".<locals>.") (some (fa f)) fd.code none builtinsNs).builtins=builtinsNs:=rfl
    revert I
    generalize newEnv fd.scope s.heap.objs.size mainGlobals (cellsFrom (s.heap.objs.size+1) fd.scope.names []) (fd.qualname++Str.ofString ".<locals>.") (some (fa f)) fd.code none builtinsNs=env at*
    intro I
    have kk:=I.toInCall.keep
    refine jhN (id I.toInCall.ns) fun oL esL epL n1 n2 n3 n4=>?_
    have tk:TK s.heap s'.heap:=fun a vs e=>kk a _ e
    have fr: ∀a,s.heap.get? a=none->¬InMu O a/\U.get? a=none:=fun a ha=>by
     refine⟨fun x=>?_,?_⟩
     ·refine jaj (R.mu x) fun o e _=>?_
      rw[ha]at e;cases e
     ·cases e:U.get? a with
      | none=>rfl
      | some o=>have:=R.keep _ _ e;rw[ha]at this;cases this
    have hLn:s.heap.get? env.locals=none:=by rw[hL];exact jaH _
    have hcn: ∀{y c},env.cells.lookup y=some c->s.heap.get? c=none/\c≠env.locals:=fun{y c} h=>by
     have hab:=I.above y c (mem_of_lookup h)
     refine⟨?_,fun e=>by rw[e]at hab;exact lt_irrefl _ hab⟩
     cases e:s.heap.get? c with
     | none=>rfl
     | some o=>have h1:=Heap.lt_size e;rw[hL]at hab;exact absurd (lt_trans h1 hab) (lt_irrefl _)
    have F:FrOk U env fd.scope ctx (args.map some++replicate (ctx.length-n) none) O s'.heap:=by
     refine⟨⟨by rw[hsc];exact c3,by rw[hsc],hgl,hbu,by simp;exact jvX hlen hdef hn,fun y hy=>?_,fun i x pv h1 h2=>?_⟩,⟨_,I.toInCall.ns⟩,⟨(fr _ hLn).1,(fr _ hLn).2,oL,n1,.of_dict n2⟩,fun y c h=>?_,fun y z c h1 h2=>name_of_addr I.apart (mem_of_lookup h1) (mem_of_lookup h2),fun i j x=>jdK b10 i j x,fun i x h=>?_⟩
     ·rw[hkO]at hy
      have:=jcN (names:=fd.scope.names) (n:=s.heap.objs.size+1) (acc:=[]) (y:=y) (.inr (mem_of_lookup hy))
      rw[hcs]
      exact Option.isSome_iff_exists.mp this
     ·
      have hi:i<args.length/\args[i]? =some pv:=by
       rw[List.getElem?_append]at h2
       split at h2
       ·rename_i hlt
        rw[getElem?_map]at h2
        cases e:args[i]? with
        | none=>rw[e]at h2;simp at h2
        | some q=>rw[e]at h2;simp at h2;subst h2;exact⟨by simpa using hlt,rfl⟩
       ·rw[List.getElem?_replicate]at h2
        split at h2<;>simp at h2
      refine jaj (V.get hi.2) fun v hv rv=>?_
      have hx:names[i]? =some x:=by
       have h3:(ctx.take n)[i]? =some (some x):=by rw[List.getElem?_take_of_lt (jvY hlen hi)];exact h1
       rw[htake,getElem?_map]at h3
       cases e:names[i]? with
       | none=>rw[e]at h3;simp at h3
       | some y=>rw[e]at h3;simp at h3;subst h3;rfl
      rcases hkinds i x h1 with hk | hk
      ·exact⟨v,env.locals,oL,rv.mono (prefix_refl _) tk,n1,(fr _ hLn).1,.inl ⟨by rw[hkO];exact hk,rfl,esL,epL,n2,n3,by rw[n4];exact jio hnd hx hv (by rw[hkO];exact hk)⟩⟩
      ·have hsome:=jcN (names:=fd.scope.names) (n:=s.heap.objs.size+1) (acc:=[]) (y:=x) (.inr (mem_of_lookup hk))
       rw[<- hcs]at hsome
       obtain⟨c,hc⟩:=Option.isSome_iff_exists.mp hsome
       refine jaj (I.cell x c hc) fun o o1 o2=>?_
       rw[jin hnd hx hv (by rw[hkO];exact hk)]at o2
       exact⟨v,c,o,rv.mono (prefix_refl _) tk,o1,(fr _ (hcn hc).1).1,.inr ⟨by rw[hkO];exact hk,hc,o2⟩⟩
     ·refine jaj (I.cell y c h) fun o o1 o2=>?_
      obtain⟨d1,d2⟩:=hcn h
      exact⟨⟨(fr _ d1).1,(fr _ d1).2,o,o1,.of_cell o2⟩,⟨_,o,o1,o2⟩,d2⟩
     ·rw[hkO];exact hkinds i x h
    have hA':AOk d (A.deeper env):=by
     refine⟨hA.handled,?_,?_⟩
     ·have:=hA.depth
      show A.depth+1+3*d<=500
      exact jvZ this
     ·have:=hA.units
      show A.units+3+40*d<=5000
      exact jv0 this
    refine jdp I.done fun hh' tk' e' _=>?_
    have aj:Stp (Pf env) O s O s':=.grow kk (by rw[e']) (by rw[e'])
    refine wpAny_mono (jkG G ss _ _ _ b12 _ _ _ _ _ _ _ hA' F (R.grow kk) q) (fun fl ar h=>?_) fun _ _ e=>e.elim
    refine jmC h fun pf Z' Y' O' q' r' F' R' S'=>?_;clear h
    have S:Stp No O s O' ar:=(aj.trans S').forget fun a o x e=>by
     rcases x with rfl | ⟨y,hy⟩
     ·rw[hLn]at e;cases e
     ·rw[(hcn hy).1]at e;cases e
    cases pf with
    | next=>
     have:fl= .next:=r'
     subst this
     exact⟨.none,Y',O',q',R',jdO,S⟩
    | ret v=>
     revert r';intro zo1;refine jaj zo1 fun u zq0 r'=>?_;clear zo1;subst zq0
     exact⟨v,Y',O',q',R',r',S⟩
  ·cases b12
 ·cases hc
end
section
variable{Y:AHeap}{Z:jao}
theorem jef{i:Nat}{K K':PV->Prop}(h: ∀x,K x->K' x)(q:jee Z i K):jee Z i K':=jmw q fun _ q=>jmw q h
theorem jdA{k:Nat}{v:PV}{K K':PV->Prop}(h: ∀x,K x->K' x)(q:jey k v Y K):jey k v Y K':=jb5 q fun _ q=>juy q fun _ _ q=>⟨q.1,jef h q.2⟩
theorem jdn{k:Nat}{v x:PV}{K K':AHeap->Prop}(h: ∀x,K x->K' x)(q:jbO k v x Y K):jbO k v x Y K':=jb5 q fun _ q=>juy q fun _ _ q=>⟨q.1,q.2.1,h _ q.2.2⟩
theorem jkw{v i:PV}{K K':PV->Prop}(h: ∀x,K x->K' x)(q:jgD v i Y K):jgD v i Y K':=jcF q fun _ q=>jgA q (fun _ q=>joy q (fun _ q=>⟨q.1,jmw q.2 h⟩) fun _ q=>jmw q h) fun _ q=>⟨q.1,q.2.1,jmw q.2.2 h⟩
theorem jgb{v i x:PV}{K K':AHeap->Prop}(h: ∀x,K x->K' x)(q:jck v i x Y K):jck v i x Y K':=jcF q fun _ q=>jb5 q fun _ q=>joy q (fun _ q=>⟨q.1,q.2.1,h _ q.2.2⟩) fun _ q=>⟨q.1,h _ q.2⟩
theorem jgc{v i:PV}{K K':PV->AHeap->Prop}(h: ∀x y,K x y->K' x y)(q:jcl v i Y K):jcl v i Y K':=jcF q fun _ q=>jgA q (fun _ q=>jsS q fun _ q=>⟨q.1,q.2.1,q.2.2.1,h _ _ q.2.2.2⟩) fun _ q=>⟨q.1,q.2.1,q.2.2.1,h _ _ q.2.2.2⟩
theorem jeN{v i:PV}{K K':PV->AHeap->Prop}(h: ∀x y,K x y->K' x y)(q:jbD v i Y K):jbD v i Y K':=jcF q fun _ q=>jb5 q fun _ q=>jqP q fun _ q=>⟨q.1,q.2.1,q.2.2.1,h _ _ q.2.2.2⟩
theorem jl3{op:Bop}{a b:PV}{K K':PV->AHeap->Prop}(h: ∀x y,K x y->K' x y)(q:jl2 op a b Y K):jl2 op a b Y K':=by
 cases op
 ·cases a<;>first | exact jcF q fun _=>h _ _ | exact jrt q fun _ q=>⟨q.1,h _ _ q.2⟩ | exact jb5 q fun _ q=>jqP q fun _ q=>jqP q fun _ q=>⟨q.1,h _ _ q.2⟩ | exact q.elim
 ·exact jbT q fun _ _=>h _ _
 ·exact jbT q fun _ _ q=>⟨q.1,h _ _ q.2⟩
 ·exact jbT q fun _ _ q=>⟨q.1,q.2.1,h _ _ q.2.2⟩
 ·exact jbT q fun _ _ q=>⟨q.1,h _ _ q.2⟩
 ·exact jbT q fun _ _ q=>⟨q.1,q.2.1,q.2.2.1,h _ _ q.2.2.2⟩
 ·exact jbT q fun _ _ q=>⟨q.1,q.2.1,q.2.2.1,h _ _ q.2.2.2⟩
theorem jc5{op:Bop}{a b:PV}{K K':PV->Prop}(h: ∀x,K x->K' x)(q:jhk op a b K):jhk op a b K':=by cases op<;>first | exact jbT q fun _ _=>h _ | exact q.elim
theorem jnn{a b:PV}{K K':Bool->Prop}(h: ∀x,K x->K' x)(q:jl6 a b Y K):jl6 a b Y K':=by
 unfold jl6 at*
 split at q
 ·refine⟨q.1,?_⟩
  have q:=q.2
  split at q<;>try exact q.elim
  split at q<;>try exact q.elim
  exact h _ q
 ·split at q<;>try exact q.elim
  exact h _ q
theorem jnq{a b:PV}{K K':Bool->Prop}(h: ∀x,K x->K' x)(q:jmx a b Y K):jmx a b Y K':=by
 unfold jmx at*
 split at q
 ·split at q<;>try exact q.elim
  split at q<;>try exact q.elim
  exact h _ q
 ·split at q<;>try exact q.elim
  exact h _ q
theorem jjc{a b:PV}{K K':Bool->Prop}(h: ∀x,K x->K' x)(q:jqQ a b Y K):jqQ a b Y K':=jcF q fun _ q=>jb5 q fun _ q=>joy q (fun _ q=>jmw q fun _=>h _) fun _=>h _
theorem jl5{op:Cop}{a b:PV}{K K':PV->Prop}(h: ∀x,K x->K' x)(q:jl4 op a b Y K):jl4 op a b Y K':=by
 cases op
 ·exact jnn (fun _=>h _) q
 ·exact jnq (fun _=>h _) q
 ·exact jbT q fun _ _=>h _
 ·exact jbT q fun _ _=>h _
 ·exact jbT q fun _ _=>h _
 ·exact jbT q fun _ _=>h _
 ·exact jjc (K:=fun e=>K (.bool e)) (fun _=>h _) q
 ·exact jjc (K:=fun e=>K (.bool !e)) (fun _=>h _) q
 ·have q:=jc4 q;obtain⟨rfl,q⟩:=q;exact h _ q
 ·have q:=jc4 q;obtain⟨rfl,q⟩:=q;exact h _ q
theorem jl9{v:PV}{K K':PV->Prop}(h: ∀x,K x->K' x)(q:jl8 v Y K):jl8 v Y K':=jgA q (fun _ q=>joy q (fun _ q=>⟨q.1,h _ q.2⟩) fun _=>h _) fun _ q=>⟨q.1,h _ q.2⟩
theorem jhp{v:PV}{K K':PV->AHeap->Prop}(h: ∀x y,K x y->K' x y)(q:jc6 v Y K):jc6 v Y K':=jb5 q fun _ q=>jux q fun _ q=>⟨q.1,h _ _ q.2⟩
theorem jmd{v:PV}{K K':PV->Prop}(h: ∀x,K x->K' x)(q:jmc v K):jmc v K':=jcF q fun _ q=>⟨q.1,q.2.1,h _ q.2.2⟩
theorem jje{v:PV}{K K':PV->Prop}(h: ∀x,K x->K' x)(q:jeg v Y K):jeg v Y K':=jb5 q fun _ q=>jqP q fun _ q=>⟨q.1,h _ q.2⟩
theorem jdP{v x:PV}{K K':AHeap->Prop}(h: ∀x,K x->K' x)(q:jbv v x Y K):jbv v x Y K':=jb5 q fun _ q=>jqP q fun _ q=>⟨q.1,h _ q.2⟩
theorem jmb{v:PV}{K K':PV->AHeap->Prop}(h: ∀x y,K x y->K' x y)(q:jma v Y K):jma v Y K':=jb5 q fun _ q=>jqP q fun _ q=>jmw q fun _=>h _ _
theorem jgC{v k d:PV}{K K':PV->Prop}(h: ∀x,K x->K' x)(q:jjb v k d Y K):jjb v k d Y K':=jb5 q fun _ q=>jcF q fun _ q=>jux q fun _=>h _
theorem jja{k v:PV}{K K':PV->AHeap->Prop}(h: ∀x y,K x y->K' x y)(q:jhl k v Y K):jhl k v Y K':=jcF q fun _=>h _ _
theorem jc2{v:PV}{P P' R R':Prop}(h1:P->P')(h2:R->R')(q:ifB v P R):ifB v P' R':=by
 unfold ifB at*
 split at q<;>try exact q.elim
 exact⟨fun e=>h1 (q.1 e),fun e=>h2 (q.2 e)⟩
theorem jch{t:Tgt}{v:PV}{K K':jao->Prop}(h: ∀x,K x->K' x)(q:jd4 t v Z K):jd4 t v Z K':=by
 unfold jd4 at*
 split at q
 ·exact⟨q.1,h _ q.2⟩
 ·split at q<;>try exact q.elim
  exact⟨q.1,q.2.1,h _ q.2.2⟩
end
noncomputable def jhR(ax ba:Phi):Prop:=∀f args Y (Q Q':PV->AHeap->Prop),(∀ v Y,Q v Y->Q' v Y)->ax f args Y Q->ba f args Y Q'
section
variable{ax ba:Phi}
mutual
theorem jab(H:jhR ax ba): ∀(e:Ex) {Z:jao} {Y:AHeap} {Q Q':PV->AHeap->Prop},(∀ v Y,Q v Y->Q' v Y)->e.wp ax Z Y Q->e.wp ba Z Y Q'
 | .none,_,_,_,_,h,q=>h _ _ q
 | .bool _,_,_,_,_,h,q=>h _ _ q
 | .int _,_,_,_,_,h,q=>h _ _ q
 | .str _,_,_,_,_,h,q=>h _ _ q
 | .loc _,_,_,_,_,h,q=>jef (fun _=>h _ _) q
 | .glob _ _,_,_,_,_,h,q=>h _ _ q
 | .attr e _,_,_,_,_,h,q=>jab H e (fun _ _=>jdA fun _=>h _ _) q
 | .item e i,_,_,_,_,h,q=>jab H e (fun _ _=>jab H i fun _ _=>jkw fun _=>h _ _) q
 | .sliceTo e i,_,_,_,_,h,q=>jab H e (fun _ _=>jab H i fun _ _=>jgc h) q
 | .sliceFrom e i,_,_,_,_,h,q=>jab H e (fun _ _=>jab H i fun _ _=>jeN h) q
 | .bin _ a b,_,_,_,_,h,q=>jab H a (fun _ _=>jab H b fun _ _=>jl3 h) q
 | .cmp _ a b,_,_,_,_,h,q=>jab H a (fun _ _=>jab H b fun _ _=>jl5 fun _=>h _ _) q
 | .and es,_,_,_,_,h,q=>jdf H es h q
 | .or es,_,_,_,_,h,q=>jjE H es h q
 | .not e,_,_,_,_,h,q=>jab H e (fun _ _=>jc2 (h _ _) (h _ _)) q
 | .list es,_,_,_,_,h,q=>jbf H es (fun _ _ q=>⟨q.1,h _ _ q.2⟩) q
 | .tup es,_,_,_,_,h,q=>jbf H es (fun _ _ q=>⟨q.1,h _ _ q.2⟩) q
 | .dict0,_,_,_,_,h,q=>h _ _ q
 | .dict1 a b,_,_,_,_,h,q=>jab H a (fun _ _=>jab H b fun _ _=>jja h) q
 | .comp slot elt it rng cond,Z,_,Q,Q',h,q=>jab H it (fun v af ⟨I,N,h0,hI⟩=>⟨I,N,h0,fun i Y' hi=>by
   obtain⟨h1,zu2⟩:=hI i Y' hi;refine jaj zu2 fun xs h2 h3=>?_;clear zu2
   refine⟨h1,xs,h2,?_⟩
   revert h3
   cases xs[i]? with
   | none=>exact h _ _
   | some x=>exact jdf H cond fun _ _=>jc2 (jab H elt fun _ _=>jdP fun _=>id) id⟩) q
 | .call _ es,_,_,_,_,h,q=>jbf H es (fun _ _=>H _ _ _ _ _ h) q
 | .new _ _ es,_,_,_,_,h,q=>jbf H es (fun _ _=>H _ _ _ _ _ fun _ _ q=>⟨q.1,h _ _ q.2⟩) q
 | .len e,_,_,_,_,h,q=>jab H e (fun _ _=>jl9 fun _=>h _ _) q
 | .sorted e,_,_,_,_,h,q=>jab H e (fun _ _=>jhp h) q
 | .strOf e,_,_,_,_,h,q=>jab H e (fun _ _=>jmd fun _=>h _ _) q
 | .tupleOf e,_,_,_,_,h,q=>jab H e (fun _ _=>jje fun _=>h _ _) q
 | .append o x,_,_,_,_,h,q=>jab H o (fun _ _ q=>⟨q.1,jab H x (fun _ _=>jdP fun _=>h _ _) q.2⟩) q
 | .pop o,_,_,_,_,h,q=>jab H o (fun _ _ q=>⟨q.1,jmb h q.2⟩) q
 | .get1 o k,_,_,_,_,h,q=>jab H o (fun _ _ q=>⟨q.1,jab H k (fun _ _=>jgC fun _=>h _ _) q.2⟩) q
 | .get2 o k d,_,_,_,_,h,q=>jab H o (fun _ _ q=>⟨q.1,jab H k (fun _ _=>jab H d fun _ _=>jgC fun _=>h _ _) q.2⟩) q
 | .meth _ o x,_,_,_,_,h,q=>jab H o (fun _ _ q=>⟨q.1,jab H x (fun _ _=>H _ _ _ _ _ h) q.2⟩) q
theorem jbf(H:jhR ax ba): ∀(e:Exs) {Z:jao} {Y:AHeap} {Q Q':List PV->AHeap->Prop},(∀ v Y,Q v Y->Q' v Y)->e.wp ax Z Y Q->e.wp ba Z Y Q'
 | .nil,_,_,_,_,h,q=>h _ _ q
 | .cons e es,_,_,_,_,h,q=>jab H e (fun _ _=>jbf H es fun _ _=>h _ _) q
theorem jdf(H:jhR ax ba): ∀(e:Exs) {Z:jao} {Y:AHeap} {Q Q':PV->AHeap->Prop},(∀ v Y,Q v Y->Q' v Y)->e.wpAnd ax Z Y Q->e.wpAnd ba Z Y Q'
 | .nil,_,_,_,_,h,q=>h _ _ q
 | .cons e es,_,_,_,_,h,q=>jab H e (fun _ _=>jc2 (jdf H es h) (h _ _)) q
theorem jjE(H:jhR ax ba): ∀(e:Exs) {Z:jao} {Y:AHeap} {Q Q':PV->AHeap->Prop},(∀ v Y,Q v Y->Q' v Y)->e.wpOr ax Z Y Q->e.wpOr ba Z Y Q'
 | .nil,_,_,_,_,h,q=>h _ _ q
 | .cons e es,_,_,_,_,h,q=>jab H e (fun _ _=>jc2 (h _ _) (jjE H es h)) q
end
mutual
theorem jlC(H:jhR ax ba): ∀(s:St) {Z:jao} {Y:AHeap} {Q Q':Fl->jao->AHeap->Prop},(∀ v Z Y,Q v Z Y->Q' v Z Y)->s.wp ax Z Y Q->s.wp ba Z Y Q'
 | .asgn _ e,_,_,_,_,h,q=>jab H e (fun _ _ q=>⟨q.1,h _ _ _ q.2⟩) q
 | .unpack _ _ e,_,_,_,_,h,q=>jab H e (fun _ _=>jch fun _=>h _ _ _) q
 | .setAttr o _ e,_,_,_,_,h,q=>jab H e (fun _ _=>jab H o fun _ _=>jdn fun _=>h _ _ _) q
 | .setItem o i e,_,_,_,_,h,q=>jab H e (fun _ _=>jab H o fun _ _=>jab H i fun _ _=>jgb fun _=>h _ _ _) q
 | .augLoc _ _ e,_,_,_,_,h,q=>jef (fun _=>jab H e fun _ _=>jc5 fun _=>h _ _ _) q
 | .augAttr o _ _ e,_,_,_,_,h,q=>jab H o (fun _ _=>jdA fun _=>jab H e fun _ _=>jc5 fun _=>jdn fun _=>h _ _ _) q
 | .ifs c a b,_,_,_,_,h,q=>jab H c (fun _ _=>jc2 (jaR H a h) (jaR H b h)) q
 | .while c b,_,_,_,_,h,q=>by
  refine jdp q fun I aY h0 hI=>?_;clear q
  refine⟨I,aY,h0,fun n Z' Y' hi=>jab H c (fun _ _=>jc2 (jaR H b fun fl aJ ai=>?_) (h _ _ _)) (hI n Z' Y' hi)⟩
  cases fl with
  | next=>exact id
  | ret v=>exact h _ _ _
 | .for t it rng b,Z,_,Q,Q',h,q=>jab H it (fun v af ⟨I,N,h0,hI⟩=>⟨I,N,h0,fun i Z' Y' hi=>by
   obtain⟨h1,zu3⟩:=hI i Z' Y' hi;refine jaj zu3 fun xs h2 h3=>?_;clear zu3
   refine⟨h1,xs,h2,?_⟩
   revert h3
   cases xs[i]? with
   | none=>exact h _ _ _
   | some x=>
    refine jch fun _=>jaR H b fun fl aJ ai=>?_
    cases fl with
    | next=>exact id
    | ret v=>exact h _ _ _⟩) q
 | .ret e,_,_,_,_,h,q=>jab H e (fun _ _=>h _ _ _) q
 | .retNone,_,_,_,_,h,q=>h _ _ _ q
 | .expr e,_,_,_,_,h,q=>jab H e (fun _ _=>h _ _ _) q
theorem jaR(H:jhR ax ba): ∀(s:Sts) {Z:jao} {Y:AHeap} {Q Q':Fl->jao->AHeap->Prop},(∀ v Z Y,Q v Z Y->Q' v Z Y)->s.wp ax Z Y Q->s.wp ba Z Y Q'
 | .nil,_,_,_,_,h,q=>h _ _ _ q
 | .cons s ss,_,_,_,_,h,q=>jlC H s (fun fl aV af=>by
   cases fl with
   | next=>exact jaR H ss h
   | ret v=>exact h _ _ _) q
end
end
structure Fn where
 n:Nat
 k:Nat
 body:Sts
noncomputable def Ok(P:Array (Option Fn)):Nat->Phi
 | 0=>fun _ _ _ _=>False
 | m+1=>fun f args Y Q=>match P[f]? with
  | some (some fn)=>args.length=fn.n/\fn.body.wp (Ok P m) (args.map some++replicate fn.k none) Y (fun fl _ Y'=>Q fl.val Y')
  | _=>False
theorem jaw(P:Array (Option Fn)): ∀m,jhR (Ok P m) (Ok P m)
 | 0=>fun _ _ _ _ _ _ h=>h.elim
 | m+1=>fun f args Y Q Q' h q=>by
  unfold Ok at*
  split at q
  ·exact⟨q.1,jaR (jaw P m) _ (fun _ _ _=>h _ _) q.2⟩
  ·exact q.elim
section
variable{prog:Program}{w:World}{T:Tb}{cl:Cls->Addr}{fa:Nat->Addr}{K:Frag}{U:Heap}
theorem jmD(d:Nat){f args Y}{Q Q':PV->AHeap->Prop}(h: ∀v Y,Q v Y->Q' v Y)(q:jaL prog w T cl fa U d f args Y Q):jaL prog w T cl fa U d f args Y Q':=by
 intro A O s vs hA R V
 refine codeAny_mono (q A O s vs hA R V) fun r s' hr=>?_
 match r,hr with
 | .ok (.ret v),hr=>
  refine jn5 hr fun pv Y' O' q r=>?_;clear hr
  exact⟨pv,Y',O',h _ _ q,r⟩
noncomputable def jph(T:Tb)(K:Frag)(fa:Nat->Addr)(P:Array (Option Fn)):Prop:=∀(f:Nat) (fn:Fn),P[f]? =some (some fn)->∃ctx,ctx.length=fn.n+fn.k/\joq T K (fa f) fn.n ctx fn.body=true
theorem jmH(G:Gl T cl fa K U){P:Array (Option Fn)}(H:jph T K fa P): ∀m,jhR (Ok P m) (jaL prog w T cl fa U m)
 | 0=>fun _ _ _ _ _ _ h=>h.elim
 | m+1=>fun f args Y Q Q' h q=>by
  unfold Ok at q
  split at q
  ·rename_i fn hfn
   refine jaj (H f fn hfn) fun ctx h1 h2=>?_
   refine jmD _ h (jmW G (ctx:=ctx) h2 q.1 ?_)
   rw[show ctx.length-fn.n=fn.k by exact jv1 h1]
   exact jaR (jmH G H m) _ (fun _ _ _=>id) q.2
  ·exact q.elim
end
noncomputable def je6:Sts:=
 (.cons (.ifs (.cmp .eq (.item (.loc 0) (.int 0)) (.glob 1 4))
  (.cons (.ifs (.cmp .eq (.item (.loc 0) (.int 1)) (.int 0))
   (.cons (.ret (.list .nil)) .nil) .nil)
  (.cons (.ret (.list (.cons (.item (.loc 0) (.int 1)) .nil))) .nil)) .nil)
 (.cons (.ifs (.cmp .ne (.item (.loc 0) (.int 0)) (.glob 2 5))
  (.cons (.ret (.list .nil)) .nil) .nil)
 (.cons (.asgn 1 (.list .nil))
 (.cons (.asgn 2 (.list (.cons (.loc 0) .nil)))
 (.cons (.while (.cmp .gt (.len (.loc 2)) (.int 0))
  (.cons (.asgn 3 (.pop (.loc 2)))
  (.cons (.ifs (.cmp .eq (.item (.loc 3) (.int 0)) (.glob 2 5))
   (.cons (.asgn 4 (.bin .sub (.len (.item (.loc 3) (.int 2))) (.int 1)))
   (.cons (.while (.cmp .ge (.loc 4) (.int 0))
    (.cons (.expr (.append (.loc 2) (.item (.item (.loc 3) (.int 2)) (.loc 4))))
    (.cons (.augLoc 4 .sub (.int 1)) .nil))) .nil))
   (.cons (.ifs (.and (.cons (.cmp .eq (.item (.loc 3) (.int 0)) (.glob 1 4)) (.cons (.cmp .ne (.item (.loc 3) (.int 1)) (.int 0)) .nil)))
    (.cons (.expr (.append (.loc 1) (.item (.loc 3) (.int 1)))) .nil) .nil) .nil)) .nil)))
 (.cons (.ret (.loc 1)) .nil))))))
noncomputable def jmV:List (Option Str):=[some "value",some "found",some "todo",some "top",some "place"]
noncomputable def jic:Sts:=
 (.cons (.ifs (.cmp .eq (.item (.loc 0) (.int 0)) (.glob 2 5))
  (.cons (.ret (.call 3 (.cons (.loc 0) (.cons (.loc 1) (.cons (.loc 2) .nil))))) .nil) .nil)
 (.cons (.ret (.call 2 (.cons (.loc 0) (.cons (.loc 1) (.cons (.loc 2) .nil))))) .nil))
noncomputable def jiH:List (Option Str):=[some "value",some "forward",some "words"]
noncomputable def jib:Sts:=
 (.cons (.ifs (.cmp .eq (.item (.loc 0) (.int 0)) (.glob 1 4))
  (.cons (.ret (.tup (.cons (.glob 1 4) (.cons (.get2 (.loc 1) (.item (.loc 0) (.int 1)) (.item (.loc 0) (.int 1))) .nil)))) .nil) .nil)
 (.cons (.ifs (.and (.cons (.cmp .eq (.item (.loc 0) (.int 0)) (.glob 3 6)) (.cons (.cmp .eq (.item (.item (.loc 0) (.int 1)) (.int 0)) (.glob 5 3)) .nil)))
  (.cons (.asgn 3 (.item (.loc 0) (.int 1)))
  (.cons (.ret (.tup (.cons (.glob 3 6) (.cons (.tup (.cons (.glob 5 3) (.cons (.meth 82 (.loc 2) (.item (.loc 3) (.int 1))) (.cons (.item (.loc 3) (.int 2)) .nil)))) .nil)))) .nil)) .nil)
 (.cons (.ret (.loc 0)) .nil)))
noncomputable def jiG:List (Option Str):=[some "value",some "forward",some "words",some "place"]
noncomputable def jgV:Sts:=
 (.cons (.asgn 3 (.list (.cons (.tup (.cons (.loc 0) (.cons (.list .nil) .nil))) .nil)))
 (.cons (.asgn 4 (.loc 0))
 (.cons (.while (.cmp .gt (.len (.loc 3)) (.int 0))
  (.cons (.unpack 5 6 (.item (.loc 3) (.bin .sub (.len (.loc 3)) (.int 1))))
  (.cons (.ifs (.cmp .eq (.len (.loc 6)) (.len (.item (.loc 5) (.int 2))))
   (.cons (.asgn 4 (.tup (.cons (.glob 2 5) (.cons (.item (.loc 5) (.int 1)) (.cons (.tupleOf (.loc 6)) .nil)))))
   (.cons (.expr (.pop (.loc 3)))
   (.cons (.ifs (.cmp .gt (.len (.loc 3)) (.int 0))
    (.cons (.expr (.append (.item (.item (.loc 3) (.bin .sub (.len (.loc 3)) (.int 1))) (.int 1)) (.loc 4))) .nil) .nil) .nil)))
   (.cons (.asgn 7 (.item (.item (.loc 5) (.int 2)) (.len (.loc 6))))
   (.cons (.ifs (.cmp .eq (.item (.loc 7) (.int 0)) (.glob 2 5))
    (.cons (.expr (.append (.loc 3) (.tup (.cons (.loc 7) (.cons (.list .nil) .nil))))) .nil)
    (.cons (.expr (.append (.loc 6) (.call 2 (.cons (.loc 7) (.cons (.loc 1) (.cons (.loc 2) .nil)))))) .nil)) .nil))) .nil)))
 (.cons (.ret (.loc 4)) .nil))))
noncomputable def jg5:List (Option Str):=[some "value",some "forward",some "words",some "todo",some "rebuilt",some "struct_value",some "items",some "item"]
noncomputable def jj0:Sts:=
 (.cons (.ifs (.cmp .lt (.bin .add (.glob 7 2) (.loc 0)) (.glob 8 3))
  (.cons (.ret (.glob 8 3)) .nil) .nil)
 (.cons (.ret (.bin .add (.glob 7 2) (.loc 0))) .nil))
noncomputable def jkm:List (Option Str):=[some "count"]
noncomputable def jh7:Sts:=
 (.cons (.asgn 3 (.new .thing 79 (.cons (.attr (.loc 0) 8) (.cons (.loc 1) (.cons (.loc 2) .nil)))))
 (.cons (.augAttr (.loc 0) 17 .add (.int 1))
 (.cons (.setAttr (.loc 3) 5 (.attr (.loc 0) 17))
 (.cons (.expr (.append (.attr (.loc 0) 6) (.loc 3)))
 (.cons (.setItem (.attr (.loc 0) 7) (.attr (.loc 3) 0) (.loc 3))
 (.cons (.augAttr (.loc 0) 8 .add (.attr (.loc 3) 4))
 (.cons (.augAttr (.loc 0) 12 .add (.attr (.loc 3) 4))
 (.cons (.ret (.loc 3)) .nil))))))))
noncomputable def jiC:List (Option Str):=[some "heap",some "kind",some "slots",some "thing"]
noncomputable def jik:Sts:=
 (.cons (.ret (.bin .sub (.attr (.loc 0) 8) (.glob 6 16))) .nil)
noncomputable def jiO:List (Option Str):=[some "heap"]
noncomputable def jeG:Sts:=
 (.cons (.setAttr (.loc 0) 12 (.int 0))
 (.cons (.ifs (.and (.cons (.cmp .ge (.loc 1) (.glob 9 2)) (.cons (.cmp .gt (.bin .mul (.int 2) (.call 6 (.cons (.loc 0) .nil))) (.attr (.loc 0) 9)) .nil)))
  (.cons (.setAttr (.loc 0) 9 (.bin .mul (.int 2) (.call 6 (.cons (.loc 0) .nil)))) .nil) .nil) .nil))
noncomputable def jeI:List (Option Str):=[some "heap",some "gen"]
noncomputable def jh5:Sts:=
 (.cons (.asgn 2 (.get1 (.attr (.loc 0) 7) (.loc 1)))
 (.cons (.ifs (.cmp .isnot (.loc 2) .none)
  (.cons (.ret (.loc 2)) .nil) .nil)
 (.cons (.asgn 3 (.int 0))
 (.cons (.asgn 4 (.len (.attr (.loc 0) 6)))
 (.cons (.while (.cmp .lt (.loc 3) (.loc 4))
  (.cons (.asgn 5 (.bin .div (.bin .add (.loc 3) (.loc 4)) (.int 2)))
  (.cons (.ifs (.cmp .le (.attr (.item (.attr (.loc 0) 6) (.loc 5)) 0) (.loc 1))
   (.cons (.asgn 3 (.bin .add (.loc 5) (.int 1))) .nil)
   (.cons (.asgn 4 (.loc 5)) .nil)) .nil)))
 (.cons (.ifs (.cmp .eq (.loc 3) (.int 0))
  (.cons (.ret .none) .nil) .nil)
 (.cons (.asgn 6 (.item (.attr (.loc 0) 6) (.bin .sub (.loc 3) (.int 1))))
 (.cons (.ifs (.cmp .lt (.loc 1) (.bin .add (.attr (.loc 6) 0) (.attr (.loc 6) 4)))
  (.cons (.ret (.loc 6)) .nil) .nil)
 (.cons (.ret .none) .nil)))))))))
noncomputable def jiA:List (Option Str):=[some "heap",some "word",some "exact",some "low",some "high",some "middle",some "thing"]
noncomputable def jjZ:Sts:=
 (.cons (.ret (.bin .add (.bin .add (.attr (.loc 0) 0) (.glob 7 2)) (.loc 1))) .nil)
noncomputable def jkl:List (Option Str):=[some "thing",some "slot"]
noncomputable def jd2:Sts:=
 (.cons (.ifs (.cmp .eq (.item (.loc 0) (.int 0)) (.glob 1 4))
  (.cons (.ret (.cmp .ne (.item (.loc 0) (.int 1)) (.int 0))) .nil) .nil)
 (.cons (.for (.one 1) (.call 0 (.cons (.loc 0) .nil)) false
  (.cons (.ifs (.cmp .ne (.loc 1) (.int 0))
   (.cons (.ret (.bool true)) .nil) .nil) .nil))
 (.cons (.ret (.bool false)) .nil)))
noncomputable def jd6:List (Option Str):=[some "value",some "addr"]
noncomputable def jgS:Sts:=
 (.cons (.ret (.bin .shr (.loc 1) (.attr (.loc 0) 11))) .nil)
noncomputable def jg2:List (Option Str):=[some "heap",some "word"]
noncomputable def jij:Sts:=
 (.cons (.setItem (.attr (.loc 1) 2) (.loc 2) (.loc 3))
 (.cons (.ifs (.and (.cons (.cmp .gt (.attr (.loc 1) 3) (.int 0)) (.cons (.call 10 (.cons (.loc 3) .nil)) .nil)))
  (.cons (.setItem (.attr (.loc 0) 10) (.call 11 (.cons (.loc 0) (.cons (.call 9 (.cons (.loc 1) (.cons (.loc 2) .nil))) .nil))) (.int 1)) .nil) .nil) .nil))
noncomputable def jiN:List (Option Str):=[some "heap",some "thing",some "slot",some "value"]
noncomputable def jlH:Sts:=
 (.cons (.ifs (.cmp .eq (.item (.loc 0) (.int 0)) (.glob 1 4))
  (.cons (.ret (.list (.cons (.item (.loc 0) (.int 1)) .nil))) .nil) .nil)
 (.cons (.ifs (.cmp .eq (.item (.loc 0) (.int 0)) (.glob 3 6))
  (.cons (.asgn 1 (.item (.loc 0) (.int 1)))
  (.cons (.ifs (.cmp .eq (.item (.loc 1) (.int 0)) (.glob 5 3))
   (.cons (.ret (.list (.cons (.item (.loc 1) (.int 1)) .nil))) .nil) .nil)
  (.cons (.ret (.list .nil)) .nil))) .nil)
 (.cons (.ret (.call 0 (.cons (.loc 0) .nil))) .nil)))
noncomputable def jlQ:List (Option Str):=[some "value",some "place"]
noncomputable def jjW:Sts:=
 (.cons (.ifs (.cmp .eq (.loc 1) (.int 0))
  (.cons .retNone .nil) .nil)
 (.cons (.asgn 5 (.call 8 (.cons (.loc 0) (.cons (.loc 1) .nil))))
 (.cons (.ifs (.or (.cons (.cmp .is (.loc 5) .none) (.cons (.cmp .gt (.attr (.loc 5) 3) (.loc 2)) (.cons (.cmp .isin (.attr (.loc 5) 0) (.loc 3)) .nil))))
  (.cons .retNone .nil) .nil)
 (.cons (.setItem (.loc 3) (.attr (.loc 5) 0) (.int 1))
 (.cons (.expr (.append (.loc 4) (.loc 5))) .nil)))))
noncomputable def jkj:List (Option Str):=[some "heap",some "word",some "gen",some "marks",some "work",some "thing"]
noncomputable def jif:Sts:=
 (.cons (.for (.one 5) (.call 13 (.cons (.loc 1) .nil)) false
  (.cons (.expr (.call 14 (.cons (.loc 0) (.cons (.loc 5) (.cons (.loc 2) (.cons (.loc 3) (.cons (.loc 4) .nil))))))) .nil)) .nil)
noncomputable def jiK:List (Option Str):=[some "heap",some "value",some "gen",some "marks",some "work",some "word"]
noncomputable def jpl:Sts:=
 (.cons (.while (.cmp .gt (.len (.loc 1)) (.int 0))
  (.cons (.asgn 4 (.pop (.loc 1)))
  (.cons (.for (.one 5) (.attr (.loc 4) 2) false
   (.cons (.expr (.call 15 (.cons (.loc 0) (.cons (.loc 5) (.cons (.loc 2) (.cons (.loc 3) (.cons (.loc 1) .nil))))))) .nil)) .nil))) .nil)
noncomputable def jpy:List (Option Str):=[some "heap",some "work",some "gen",some "marks",some "thing",some "value"]
noncomputable def jjV:Sts:=
 (.cons (.asgn 2 (.list .nil))
 (.cons (.for (.one 3) (.attr (.loc 0) 6) false
  (.cons (.ifs (.cmp .gt (.attr (.loc 3) 3) (.loc 1))
   (.cons (.for (.one 4) (.len (.attr (.loc 3) 2)) true
    (.cons (.ifs (.cmp .isin (.call 11 (.cons (.loc 0) (.cons (.call 9 (.cons (.loc 3) (.cons (.loc 4) .nil))) .nil))) (.attr (.loc 0) 10))
     (.cons (.expr (.append (.loc 2) (.tup (.cons (.loc 3) (.cons (.loc 4) .nil))))) .nil) .nil) .nil)) .nil) .nil) .nil))
 (.cons (.ret (.loc 2)) .nil)))
noncomputable def jki:List (Option Str):=[some "heap",some "gen",some "out",some "thing",some "slot"]
noncomputable def jq7:Sts:=
 (.cons (.asgn 3 .dict0)
 (.cons (.asgn 4 (.list .nil))
 (.cons (.for (.one 5) (.loc 1) false
  (.cons (.for (.one 6) (.loc 5) false
   (.cons (.expr (.call 15 (.cons (.loc 0) (.cons (.loc 6) (.cons (.loc 2) (.cons (.loc 3) (.cons (.loc 4) .nil))))))) .nil)) .nil))
 (.cons (.ifs (.cmp .lt (.loc 2) (.glob 9 2))
  (.cons (.for (.two 7 8) (.call 17 (.cons (.loc 0) (.cons (.loc 2) .nil))) false
   (.cons (.expr (.call 15 (.cons (.loc 0) (.cons (.item (.attr (.loc 7) 2) (.loc 8)) (.cons (.loc 2) (.cons (.loc 3) (.cons (.loc 4) .nil))))))) .nil)) .nil) .nil)
 (.cons (.expr (.call 16 (.cons (.loc 0) (.cons (.loc 4) (.cons (.loc 2) (.cons (.loc 3) .nil))))))
 (.cons (.ret (.loc 3)) .nil))))))
noncomputable def jra:List (Option Str):=[some "heap",some "lists",some "gen",some "marks",some "work",some "values",some "value",some "thing",some "slot"]
noncomputable def jig:Sts:=
 (.cons (.asgn 4 (.list .nil))
 (.cons (.for (.one 5) (.loc 2) false
  (.cons (.expr (.call 14 (.cons (.loc 0) (.cons (.loc 5) (.cons (.loc 3) (.cons (.loc 1) (.cons (.loc 4) .nil))))))) .nil))
 (.cons (.expr (.call 16 (.cons (.loc 0) (.cons (.loc 4) (.cons (.loc 3) (.cons (.loc 1) .nil)))))) .nil)))
noncomputable def jiL:List (Option Str):=[some "heap",some "marks",some "addrs",some "gen",some "work",some "addr"]
noncomputable def jmM:Sts:=
 (.cons (.ret (.call 11 (.cons (.loc 0) (.cons (.loc 1) .nil)))) .nil)
noncomputable def jmT:List (Option Str):=[some "heap",some "word"]
noncomputable def jjT:Sts:=
 (.cons (.setItem (.attr (.loc 0) 10) (.call 11 (.cons (.loc 0) (.cons (.loc 1) .nil))) (.int 1)) .nil)
noncomputable def jkg:List (Option Str):=[some "heap",some "word"]
noncomputable def jeH:Sts:=
 (.cons (.for (.one 3) (.call 0 (.cons (.loc 2) .nil)) false
  (.cons (.asgn 4 (.get1 (.attr (.loc 0) 7) (.loc 3)))
  (.cons (.ifs (.and (.cons (.cmp .isnot (.loc 4) .none) (.cons (.cmp .lt (.attr (.loc 4) 3) (.attr (.loc 1) 3)) .nil)))
   (.cons (.ret (.bool true)) .nil) .nil) .nil)))
 (.cons (.ret (.bool false)) .nil))
noncomputable def jeJ:List (Option Str):=[some "heap",some "thing",some "value",some "addr",some "other"]
noncomputable def je8:Sts:=
 (.cons (.asgn 1 (.list .nil))
 (.cons (.for (.one 2) (.attr (.loc 0) 6) false
  (.cons (.ifs (.cmp .gt (.attr (.loc 2) 3) (.int 0))
   (.cons (.for (.one 3) (.len (.attr (.loc 2) 2)) true
    (.cons (.ifs (.call 22 (.cons (.loc 0) (.cons (.loc 2) (.cons (.item (.attr (.loc 2) 2) (.loc 3)) .nil))))
     (.cons (.expr (.append (.loc 1) (.tup (.cons (.loc 2) (.cons (.loc 3) .nil))))) .nil) .nil) .nil)) .nil) .nil) .nil))
 (.cons (.ret (.loc 1)) .nil)))
noncomputable def jfd:List (Option Str):=[some "heap",some "out",some "thing",some "slot"]
noncomputable def jgY:Sts:=
 (.cons (.setAttr (.loc 0) 10 .dict0)
 (.cons (.for (.two 1 2) (.call 23 (.cons (.loc 0) .nil)) false
  (.cons (.expr (.call 21 (.cons (.loc 0) (.cons (.call 9 (.cons (.loc 1) (.cons (.loc 2) .nil))) .nil)))) .nil)) .nil))
noncomputable def jg8:List (Option Str):=[some "heap",some "thing",some "slot"]
noncomputable def jgT:Sts:=
 (.cons (.asgn 1 (.list .nil))
 (.cons (.for (.two 2 3) (.call 23 (.cons (.loc 0) .nil)) false
  (.cons (.ifs (.cmp .notin (.call 20 (.cons (.loc 0) (.cons (.call 9 (.cons (.loc 2) (.cons (.loc 3) .nil))) .nil))) (.attr (.loc 0) 10))
   (.cons (.expr (.append (.loc 1) (.tup (.cons (.attr (.loc 2) 0) (.cons (.loc 3) .nil))))) .nil) .nil) .nil))
 (.cons (.ret (.loc 1)) .nil)))
noncomputable def jg3:List (Option Str):=[some "heap",some "out",some "thing",some "slot"]
noncomputable def jh6:Sts:=
 (.cons (.asgn 4 (.get1 (.attr (.loc 0) 7) (.loc 1)))
 (.cons (.ret (.and (.cons (.cmp .isnot (.loc 4) .none) (.cons (.cmp .le (.attr (.loc 4) 3) (.loc 3)) (.cons (.cmp .notin (.loc 1) (.loc 2)) .nil))))) .nil))
noncomputable def jiB:List (Option Str):=[some "heap",some "addr",some "marks",some "gen",some "thing"]
noncomputable def jgX:Sts:=
 (.cons (.asgn 3 (.list .nil))
 (.cons (.asgn 4 (.list .nil))
 (.cons (.for (.one 5) (.attr (.loc 0) 14) false
  (.cons (.ifs (.call 27 (.cons (.loc 0) (.cons (.loc 5) (.cons (.loc 1) (.cons (.loc 2) .nil)))))
   (.cons (.expr (.append (.loc 4) (.loc 5)))
   (.cons (.expr (.append (.attr (.loc 0) 15) (.tup (.cons (.glob 1 4) (.cons (.loc 5) .nil))))) .nil))
   (.cons (.expr (.append (.loc 3) (.loc 5))) .nil)) .nil))
 (.cons (.setAttr (.loc 0) 14 (.loc 3))
 (.cons (.ret (.loc 4)) .nil)))))
noncomputable def jg7:List (Option Str):=[some "heap",some "marks",some "gen",some "kept",some "picked",some "addr"]
noncomputable def jlG:Sts:=
 (.cons (.expr (.append (.attr (.loc 0) 14) (.loc 1))) .nil)
noncomputable def jlP:List (Option Str):=[some "heap",some "addr"]
noncomputable def jf0:Sts:=
 (.cons (.asgn 2 (.glob 6 16))
 (.cons (.for (.one 3) (.attr (.loc 0) 6) false
  (.cons (.ifs (.and (.cons (.cmp .gt (.attr (.loc 3) 3) (.loc 1)) (.cons (.cmp .gt (.bin .add (.attr (.loc 3) 0) (.attr (.loc 3) 4)) (.loc 2)) .nil)))
   (.cons (.asgn 2 (.bin .add (.attr (.loc 3) 0) (.attr (.loc 3) 4))) .nil) .nil) .nil))
 (.cons (.ret (.loc 2)) .nil)))
noncomputable def jf6:List (Option Str):=[some "heap",some "gen",some "end",some "thing"]
noncomputable def jie:Sts:=
 (.cons (.asgn 3 .dict0)
 (.cons (.asgn 4 (.call 32 (.cons (.loc 0) (.cons (.loc 2) .nil))))
 (.cons (.for (.one 5) (.attr (.loc 0) 6) false
  (.cons (.ifs (.and (.cons (.cmp .le (.attr (.loc 5) 3) (.loc 2)) (.cons (.cmp .isin (.attr (.loc 5) 0) (.loc 1)) .nil)))
   (.cons (.setItem (.loc 3) (.attr (.loc 5) 0) (.loc 4))
   (.cons (.augLoc 4 .add (.attr (.loc 5) 4)) .nil)) .nil) .nil))
 (.cons (.ret (.loc 3)) .nil))))
noncomputable def jiJ:List (Option Str):=[some "heap",some "marks",some "gen",some "moves",some "goal",some "thing"]
noncomputable def jid:Sts:=
 (.cons (.asgn 3 (.call 8 (.cons (.loc 0) (.cons (.loc 2) .nil))))
 (.cons (.ifs (.or (.cons (.cmp .is (.loc 3) .none) (.cons (.cmp .notin (.attr (.loc 3) 0) (.loc 1)) .nil)))
  (.cons (.ret (.loc 2)) .nil) .nil)
 (.cons (.ret (.bin .add (.bin .sub (.loc 2) (.attr (.loc 3) 0)) (.item (.loc 1) (.attr (.loc 3) 0)))) .nil)))
noncomputable def jiI:List (Option Str):=[some "heap",some "moves",some "word",some "thing"]
noncomputable def jpr:Sts:=
 (.cons (.ret (.or (.cons (.cmp .gt (.attr (.loc 0) 3) (.loc 2)) (.cons (.cmp .isin (.attr (.loc 0) 0) (.loc 1)) .nil)))) .nil)
noncomputable def jpz:List (Option Str):=[some "thing",some "moves",some "gen"]
noncomputable def jf1:Sts:=
 (.cons (.asgn 3 (.list .nil))
 (.cons (.for (.one 4) (.loc 0) false
  (.cons (.expr (.append (.loc 3) (.call 1 (.cons (.loc 4) (.cons (.loc 1) (.cons (.loc 2) .nil)))))) .nil))
 (.cons (.ret (.loc 3)) .nil)))
noncomputable def jf7:List (Option Str):=[some "values",some "moves",some "words",some "out",some "value"]
noncomputable def jjU:Sts:=
 (.cons (.asgn 3 (.list .nil))
 (.cons (.for (.one 4) (.loc 0) false
  (.cons (.expr (.append (.loc 3) (.call 36 (.cons (.loc 4) (.cons (.loc 1) (.cons (.loc 2) .nil)))))) .nil))
 (.cons (.ret (.loc 3)) .nil)))
noncomputable def jkh:List (Option Str):=[some "lists",some "moves",some "words",some "out",some "values"]
noncomputable def jjX:Sts:=
 (.cons (.for (.one 2) (.len (.loc 0)) true
  (.cons (.asgn 3 (.item (.loc 0) (.loc 2)))
  (.cons (.for (.one 4) (.len (.loc 3)) true
   (.cons (.setItem (.loc 3) (.loc 4) (.item (.item (.loc 1) (.loc 2)) (.loc 4))) .nil)) .nil))) .nil)
noncomputable def jkk:List (Option Str):=[some "lists",some "fresh",some "place",some "values",some "i"]
noncomputable def jgW:Sts:=
 (.cons (.asgn 2 (.list .nil))
 (.cons (.for (.one 3) (.loc 0) false
  (.cons (.expr (.append (.loc 2) (.get2 (.loc 1) (.loc 3) (.loc 3)))) .nil))
 (.cons (.ret (.loc 2)) .nil)))
noncomputable def jg6:List (Option Str):=[some "addrs",some "moves",some "out",some "addr"]
noncomputable def jdl:Sts:=
 (.cons (.ifs (.cmp .gt (.attr (.loc 1) 3) (.loc 3))
  (.cons .retNone .nil) .nil)
 (.cons (.asgn 4 (.item (.loc 2) (.attr (.loc 1) 0)))
 (.cons (.ifs (.cmp .ne (.loc 4) (.attr (.loc 1) 0))
  (.cons (.augAttr (.loc 0) 16 .add (.int 1)) .nil) .nil)
 (.cons (.setAttr (.loc 1) 0 (.loc 4))
 (.cons (.ifs (.cmp .lt (.attr (.loc 1) 3) (.glob 9 2))
  (.cons (.augAttr (.loc 1) 3 .add (.int 1)) .nil) .nil) .nil)))))
noncomputable def jf8:List (Option Str):=[some "heap",some "thing",some "moves",some "gen",some "goal"]
noncomputable def je7:Sts:=
 (.cons (.asgn 3 (.list .nil))
 (.cons (.for (.one 4) (.attr (.loc 0) 6) false
  (.cons (.ifs (.call 35 (.cons (.loc 4) (.cons (.loc 1) (.cons (.loc 2) .nil))))
   (.cons (.expr (.append (.loc 3) (.loc 4))) .nil) .nil) .nil))
 (.cons (.setAttr (.loc 0) 6 (.loc 3))
 (.cons (.setAttr (.loc 0) 7 .dict0)
 (.cons (.setAttr (.loc 0) 8 (.glob 6 16))
 (.cons (.for (.one 4) (.loc 3) false
  (.cons (.expr (.call 40 (.cons (.loc 0) (.cons (.loc 4) (.cons (.loc 1) (.cons (.loc 2) .nil))))))
  (.cons (.setItem (.attr (.loc 0) 7) (.attr (.loc 4) 0) (.loc 4))
  (.cons (.setAttr (.loc 0) 8 (.bin .add (.attr (.loc 4) 0) (.attr (.loc 4) 4))) .nil)))) .nil))))))
noncomputable def jfc:List (Option Str):=[some "heap",some "moves",some "gen",some "living",some "thing"]
noncomputable def jgn:Sts:=
 (.cons (.asgn 4 (.new .words 81 (.cons (.loc 0) (.cons (.loc 2) .nil))))
 (.cons (.asgn 5 (.list .nil))
 (.cons (.for (.one 6) (.loc 1) false
  (.cons (.expr (.append (.loc 5) (.loc 6))) .nil))
 (.cons (.expr (.append (.loc 5) (.attr (.loc 0) 15)))
 (.cons (.for (.one 7) (.attr (.loc 0) 6) false
  (.cons (.ifs (.call 35 (.cons (.loc 7) (.cons (.loc 2) (.cons (.loc 3) .nil))))
   (.cons (.expr (.append (.loc 5) (.attr (.loc 7) 2))) .nil) .nil) .nil))
 (.cons (.expr (.call 38 (.cons (.loc 5) (.cons (.call 37 (.cons (.loc 5) (.cons (.loc 2) (.cons (.loc 4) .nil)))) .nil))))
 (.cons (.setAttr (.loc 0) 14 (.call 39 (.cons (.attr (.loc 0) 14) (.cons (.loc 2) .nil))))
 (.cons (.expr (.call 41 (.cons (.loc 0) (.cons (.loc 2) (.cons (.loc 3) .nil))))) .nil))))))))
noncomputable def jlN:List (Option Str):=[some "heap",some "lists",some "moves",some "gen",some "words",some "every",some "values",some "thing"]
noncomputable def jih:Sts:=
 (.cons (.asgn 3 (.list .nil))
 (.cons (.for (.one 4) (.loc 1) false
  (.cons (.expr (.append (.loc 3) (.loc 4))) .nil))
 (.cons (.expr (.append (.loc 3) (.attr (.loc 0) 15)))
 (.cons (.ifs (.cmp .isnot (.loc 2) .none)
  (.cons (.expr (.append (.loc 3) (.call 26 (.cons (.loc 2) .nil)))) .nil) .nil)
 (.cons (.ret (.loc 3)) .nil)))))
noncomputable def jiM:List (Option Str):=[some "heap",some "lists",some "handles",some "out",some "values"]
noncomputable def jgU:Sts:=
 (.cons (.asgn 4 (.call 18 (.cons (.loc 0) (.cons (.call 43 (.cons (.loc 0) (.cons (.loc 1) (.cons (.loc 2) .nil)))) (.cons (.loc 3) .nil)))))
 (.cons (.ifs (.cmp .isnot (.loc 2) .none)
  (.cons (.expr (.call 28 (.cons (.loc 2) (.cons (.glob 10 1) (.cons (.loc 4) (.cons (.loc 0) (.cons (.loc 3) .nil))))))) .nil) .nil)
 (.cons (.asgn 5 (.call 30 (.cons (.loc 0) (.cons (.loc 4) (.cons (.loc 3) .nil)))))
 (.cons (.expr (.call 19 (.cons (.loc 0) (.cons (.loc 4) (.cons (.loc 5) (.cons (.loc 3) .nil))))))
 (.cons (.ifs (.cmp .isnot (.loc 2) .none)
  (.cons (.expr (.call 28 (.cons (.loc 2) (.cons (.glob 11 2) (.cons (.loc 4) (.cons (.loc 0) (.cons (.loc 3) .nil))))))) .nil) .nil)
 (.cons (.ret (.loc 4)) .nil))))))
noncomputable def jg4:List (Option Str):=[some "heap",some "lists",some "handles",some "gen",some "marks",some "picked"]
noncomputable def jmN:Sts:=
 (.cons (.asgn 4 (.len (.attr (.loc 0) 6)))
 (.cons (.asgn 5 (.call 44 (.cons (.loc 0) (.cons (.loc 1) (.cons (.loc 2) (.cons (.loc 3) .nil))))))
 (.cons (.asgn 6 (.call 33 (.cons (.loc 0) (.cons (.loc 5) (.cons (.loc 3) .nil)))))
 (.cons (.expr (.call 42 (.cons (.loc 0) (.cons (.loc 1) (.cons (.loc 6) (.cons (.loc 3) .nil))))))
 (.cons (.ifs (.cmp .isnot (.loc 2) .none)
  (.cons (.expr (.call 29 (.cons (.loc 2) (.cons (.loc 6) .nil)))) .nil) .nil)
 (.cons (.expr (.call 24 (.cons (.loc 0) .nil)))
 (.cons (.expr (.call 7 (.cons (.loc 0) (.cons (.loc 3) .nil))))
 (.cons (.ret (.bin .sub (.loc 4) (.len (.attr (.loc 0) 6)))) .nil))))))))
noncomputable def jmU:List (Option Str):=[some "heap",some "lists",some "handles",some "gen",some "before",some "marks",some "moves"]
noncomputable def jfZ:Sts:=
 (.cons (.asgn 1 (.list .nil))
 (.cons (.asgn 2 (.glob 6 16))
 (.cons (.asgn 3 (.glob 9 2))
 (.cons (.for (.one 4) (.attr (.loc 0) 6) false
  (.cons (.ifs (.cmp .lt (.attr (.loc 4) 0) (.loc 2))
   (.cons (.expr (.append (.loc 1) (.bin .add (.str "overlap at ") (.strOf (.attr (.loc 4) 0))))) .nil) .nil)
  (.cons (.ifs (.cmp .gt (.attr (.loc 4) 3) (.loc 3))
   (.cons (.expr (.append (.loc 1) (.bin .add (.str "gen out of order at ") (.strOf (.attr (.loc 4) 0))))) .nil) .nil)
  (.cons (.ifs (.cmp .notin (.attr (.loc 4) 0) (.attr (.loc 0) 7))
   (.cons (.expr (.append (.loc 1) (.bin .add (.str "not in the index: ") (.strOf (.attr (.loc 4) 0))))) .nil) .nil)
  (.cons (.asgn 2 (.bin .add (.attr (.loc 4) 0) (.attr (.loc 4) 4)))
  (.cons (.asgn 3 (.attr (.loc 4) 3)) .nil))))))
 (.cons (.ifs (.cmp .gt (.loc 2) (.attr (.loc 0) 8))
  (.cons (.expr (.append (.loc 1) (.str "top is too low"))) .nil) .nil)
 (.cons (.ret (.loc 1)) .nil))))))
noncomputable def jf4:List (Option Str):=[some "heap",some "out",some "end",some "gen",some "thing"]
noncomputable def jfY:Sts:=
 (.cons (.asgn 1 (.list .nil))
 (.cons (.asgn 2 .dict0)
 (.cons (.for (.one 3) (.attr (.loc 0) 6) false
  (.cons (.ifs (.cmp .isin (.attr (.loc 3) 0) (.loc 2))
   (.cons (.expr (.append (.loc 1) (.bin .add (.str "twice: ") (.strOf (.attr (.loc 3) 0))))) .nil) .nil)
  (.cons (.setItem (.loc 2) (.attr (.loc 3) 0) (.int 1)) .nil)))
 (.cons (.for (.one 4) (.sorted (.attr (.loc 0) 7)) false
  (.cons (.ifs (.cmp .notin (.loc 4) (.loc 2))
   (.cons (.expr (.append (.loc 1) (.bin .add (.str "index of no thing: ") (.strOf (.loc 4))))) .nil) .nil) .nil))
 (.cons (.ret (.loc 1)) .nil)))))
noncomputable def jf3:List (Option Str):=[some "heap",some "out",some "seen",some "thing",some "addr"]
noncomputable def jcd:Sts:=
 (.cons (.asgn 3 (.list .nil))
 (.cons (.for (.one 4) (.call 13 (.cons (.loc 1) .nil)) false
  (.cons (.ifs (.cmp .eq (.item (.loc 1) (.int 0)) (.glob 3 6))
   (.cons (.asgn 5 (.cmp .isnot (.call 8 (.cons (.loc 0) (.cons (.loc 4) .nil))) .none)) .nil)
   (.cons (.asgn 5 (.or (.cons (.cmp .eq (.loc 4) (.int 0)) (.cons (.cmp .isin (.loc 4) (.attr (.loc 0) 7)) .nil)))) .nil))
  (.cons (.ifs (.not (.loc 5))
   (.cons (.expr (.append (.loc 3) (.bin .add (.bin .add (.loc 2) (.str " refers to ")) (.strOf (.loc 4))))) .nil) .nil) .nil)))
 (.cons (.ret (.loc 3)) .nil)))
noncomputable def jf5:List (Option Str):=[some "heap",some "value",some "where",some "out",some "word",some "found"]
noncomputable def jds:Sts:=
 (.cons (.asgn 2 (.list .nil))
 (.cons (.for (.one 3) (.loc 1) false
  (.cons (.for (.one 4) (.loc 3) false
   (.cons (.for (.one 5) (.call 48 (.cons (.loc 0) (.cons (.loc 4) (.cons (.str "a root") .nil)))) false
    (.cons (.expr (.append (.loc 2) (.loc 5))) .nil)) .nil)) .nil))
 (.cons (.for (.one 6) (.attr (.loc 0) 6) false
  (.cons (.for (.one 4) (.attr (.loc 6) 2) false
   (.cons (.for (.one 5) (.call 48 (.cons (.loc 0) (.cons (.loc 4) (.cons (.bin .add (.str "the thing at ") (.strOf (.attr (.loc 6) 0))) .nil)))) false
    (.cons (.expr (.append (.loc 2) (.loc 5))) .nil)) .nil)) .nil))
 (.cons (.ret (.loc 2)) .nil))))
noncomputable def jdt:List (Option Str):=[some "heap",some "lists",some "out",some "values",some "value",some "told",some "thing"]
noncomputable def je5:Sts:=
 (.cons (.asgn 1 (.list .nil))
 (.cons (.for (.one 2) (.attr (.loc 0) 14) false
  (.cons (.ifs (.cmp .notin (.loc 2) (.attr (.loc 0) 7))
   (.cons (.expr (.append (.loc 1) (.bin .add (.str "finals hold ") (.strOf (.loc 2))))) .nil) .nil) .nil))
 (.cons (.for (.one 3) (.attr (.loc 0) 15) false
  (.cons (.ifs (.cmp .notin (.item (.loc 3) (.int 1)) (.attr (.loc 0) 7))
   (.cons (.expr (.append (.loc 1) (.bin .add (.str "ready holds ") (.strOf (.item (.loc 3) (.int 1)))))) .nil) .nil) .nil))
 (.cons (.ret (.loc 1)) .nil))))
noncomputable def jfb:List (Option Str):=[some "heap",some "out",some "addr",some "value"]
noncomputable def jh8:Sts:=
 (.cons (.asgn 2 (.list .nil))
 (.cons (.for (.one 3) (.call 46 (.cons (.loc 0) .nil)) false
  (.cons (.expr (.append (.loc 2) (.loc 3))) .nil))
 (.cons (.for (.one 3) (.call 47 (.cons (.loc 0) .nil)) false
  (.cons (.expr (.append (.loc 2) (.loc 3))) .nil))
 (.cons (.for (.one 3) (.call 49 (.cons (.loc 0) (.cons (.loc 1) .nil))) false
  (.cons (.expr (.append (.loc 2) (.loc 3))) .nil))
 (.cons (.for (.one 3) (.call 50 (.cons (.loc 0) .nil)) false
  (.cons (.expr (.append (.loc 2) (.loc 3))) .nil))
 (.cons (.ret (.loc 2)) .nil))))))
noncomputable def jiD:List (Option Str):=[some "heap",some "lists",some "out",some "told"]
noncomputable def jlD:Sts:=
 (.cons (.ret (.tup (.cons (.glob 2 5) (.cons (.int 30) (.cons (.tup (.cons (.tup (.cons (.glob 0 1) (.cons (.int 7) .nil))) (.cons (.loc 0) .nil))) .nil))))) .nil)
noncomputable def jlK:List (Option Str):=[some "value"]
noncomputable def jlE:Sts:=
 (.cons (.ret (.tup (.cons (.glob 2 5) (.cons (.int 31) (.cons (.tup (.cons (.loc 0) (.cons (.call 52 (.cons (.loc 1) .nil)) .nil))) .nil))))) .nil)
noncomputable def jlM:List (Option Str):=[some "value",some "inner"]
noncomputable def jh2:Sts:=
 (.cons (.ret (.item (.attr (.loc 0) 6) (.bin .mod (.loc 1) (.len (.attr (.loc 0) 6))))) .nil)
noncomputable def jiw:List (Option Str):=[some "heap",some "z"]
noncomputable def jh4:Sts:=
 (.cons (.asgn 2 (.tup (.cons (.glob 1 4) (.cons (.attr (.call 54 (.cons (.loc 0) (.cons (.bin .div (.loc 1) (.int 6)) .nil))) 0) .nil))))
 (.cons (.asgn 3 (.tup (.cons (.glob 1 4) (.cons (.attr (.call 54 (.cons (.loc 0) (.cons (.bin .div (.loc 1) (.int 42)) .nil))) 0) .nil))))
 (.cons (.ret (.item (.tup (.cons (.tup (.cons (.glob 1 4) (.cons (.int 0) .nil))) (.cons (.loc 2) (.cons (.call 52 (.cons (.loc 2) .nil)) (.cons (.call 53 (.cons (.loc 3) (.cons (.loc 2) .nil))) (.cons (.tup (.cons (.glob 0 1) (.cons (.bin .add (.int 16) (.bin .mod (.loc 1) (.int 40))) .nil))) (.cons (.loc 2) .nil))))))) (.bin .mod (.loc 1) (.int 6)))) .nil)))
noncomputable def jiz:List (Option Str):=[some "heap",some "z",some "one",some "other"]
noncomputable def jjM:Sts:=
 (.cons (.asgn 3 (.item (.item (.loc 0) (.bin .div (.loc 1) (.int 2))) (.bin .mod (.loc 1) (.int 2))))
 (.cons (.setItem (.item (.loc 0) (.bin .div (.loc 1) (.int 2))) (.bin .mod (.loc 1) (.int 2)) (.loc 2))
 (.cons (.ret (.loc 3)) .nil)))
noncomputable def jj8:List (Option Str):=[some "lists",some "cell",some "value",some "was"]
noncomputable def jep:Sts:=
 (.cons (.asgn 3 (.call 5 (.cons (.loc 0) (.cons (.int 20) (.cons (.comp 4 (.tup (.cons (.glob 1 4) (.cons (.int 0) .nil))) (.bin .mod (.loc 2) (.int 4)) true .nil) .nil)))))
 (.cons (.ifs (.cmp .lt (.bin .mod (.bin .div (.loc 2) (.int 4)) (.int 5)) (.int 4))
  (.cons (.expr (.call 56 (.cons (.loc 1) (.cons (.bin .mod (.bin .div (.loc 2) (.int 4)) (.int 5)) (.cons (.tup (.cons (.glob 1 4) (.cons (.attr (.loc 3) 0) .nil))) .nil))))) .nil) .nil)
 (.cons (.ifs (.cmp .eq (.bin .mod (.bin .div (.loc 2) (.int 20)) (.int 3)) (.int 2))
  (.cons (.expr (.call 31 (.cons (.loc 0) (.cons (.attr (.loc 3) 0) .nil)))) .nil) .nil) .nil)))
noncomputable def jip:List (Option Str):=[some "heap",some "lists",some "y",some "thing",none]
noncomputable def jjL:Sts:=
 (.cons (.ifs (.cmp .lt (.loc 2) (.int 3))
  (.cons (.expr (.call 57 (.cons (.loc 0) (.cons (.loc 1) (.cons (.loc 3) .nil))))) .nil)
  (.cons (.ifs (.cmp .eq (.loc 2) (.int 6))
   (.cons (.expr (.call 45 (.cons (.loc 0) (.cons (.loc 1) (.cons .none (.cons (.bin .mod (.loc 3) (.int 3)) .nil)))))) .nil)
   (.cons (.expr (.call 59 (.cons (.loc 0) (.cons (.loc 1) (.cons (.loc 2) (.cons (.loc 3) .nil)))))) .nil)) .nil)) .nil)
noncomputable def jj6:List (Option Str):=[some "heap",some "lists",some "op",some "y"]
noncomputable def jh3:Sts:=
 (.cons (.asgn 4 (.call 54 (.cons (.loc 0) (.cons (.loc 3) .nil))))
 (.cons (.asgn 3 (.bin .div (.loc 3) (.len (.attr (.loc 0) 6))))
 (.cons (.ifs (.cmp .lt (.loc 2) (.int 5))
  (.cons (.ifs (.cmp .gt (.len (.attr (.loc 4) 2)) (.int 0))
   (.cons (.expr (.call 12 (.cons (.loc 0) (.cons (.loc 4) (.cons (.bin .mod (.loc 3) (.len (.attr (.loc 4) 2))) (.cons (.call 55 (.cons (.loc 0) (.cons (.bin .div (.loc 3) (.len (.attr (.loc 4) 2))) .nil))) .nil)))))) .nil) .nil) .nil)
  (.cons (.ifs (.cmp .eq (.loc 2) (.int 7))
   (.cons (.expr (.call 31 (.cons (.loc 0) (.cons (.attr (.loc 4) 0) .nil)))) .nil)
   (.cons (.ifs (.cmp .lt (.bin .mod (.bin .div (.loc 3) (.int 4)) (.int 3)) (.int 2))
    (.cons (.expr (.call 56 (.cons (.loc 1) (.cons (.bin .mod (.loc 3) (.int 4)) (.cons (.call 55 (.cons (.loc 0) (.cons (.bin .div (.loc 3) (.int 12)) .nil))) .nil))))) .nil)
    (.cons (.expr (.call 56 (.cons (.loc 1) (.cons (.bin .mod (.loc 3) (.int 4)) (.cons (.tup (.cons (.glob 3 6) (.cons (.tup (.cons (.glob 5 3) (.cons (.bin .add (.attr (.loc 4) 0) (.bin .mod (.bin .div (.loc 3) (.int 12)) (.attr (.loc 4) 4))) (.cons (.tup .nil) .nil)))) .nil))) .nil))))) .nil)) .nil)) .nil)) .nil)))
noncomputable def jix:List (Option Str):=[some "heap",some "lists",some "op",some "y",some "thing"]
noncomputable def jjP:Sts:=
 (.cons (.ifs (.cmp .eq (.item (.loc 0) (.int 0)) (.glob 1 4))
  (.cons (.ret (.list (.cons (.item (.loc 0) (.int 1)) .nil))) .nil) .nil)
 (.cons (.asgn 1 (.list .nil))
 (.cons (.ifs (.cmp .eq (.item (.loc 0) (.int 0)) (.glob 2 5))
  (.cons (.for (.one 2) (.item (.loc 0) (.int 2)) false
   (.cons (.asgn 1 (.bin .add (.loc 1) (.call 60 (.cons (.loc 2) .nil)))) .nil)) .nil) .nil)
 (.cons (.ret (.loc 1)) .nil))))
noncomputable def jkc:List (Option Str):=[some "value",some "out",some "part"]
noncomputable def jjN:Sts:=
 (.cons (.asgn 2 (.call 54 (.cons (.loc 0) (.cons (.bin .div (.loc 1) (.int 4)) .nil))))
 (.cons (.ret (.item (.tup (.cons (.bin .add (.attr (.loc 0) 8) (.bin .mod (.bin .div (.loc 1) (.int 4)) (.int 3))) (.cons (.int 15) (.cons (.bin .add (.attr (.loc 2) 0) (.int 1)) (.cons (.bin .add (.attr (.loc 2) 0) (.int 2)) .nil))))) (.bin .mod (.loc 1) (.int 4)))) .nil))
noncomputable def jka:List (Option Str):=[some "heap",some "z",some "thing"]
noncomputable def jgR:Sts:=
 (.cons (.asgn 2 (.list .nil))
 (.cons (.for (.one 3) (.bin .add (.item (.loc 0) (.int 0)) (.item (.loc 0) (.int 1))) false
  (.cons (.ifs (.and (.cons (.cmp .eq (.item (.loc 3) (.int 0)) (.glob 3 6)) (.cons (.cmp .eq (.sliceTo (.item (.loc 3) (.int 1)) (.int 2)) (.tup (.cons (.glob 5 3) (.cons (.loc 1) .nil)))) .nil)))
   (.cons (.expr (.append (.loc 2) (.bin .add (.str "a root refers to ") (.strOf (.loc 1))))) .nil) .nil) .nil))
 (.cons (.ret (.loc 2)) .nil)))
noncomputable def jg0:List (Option Str):=[some "lists",some "word",some "out",some "cell"]
noncomputable def jjO:Sts:=
 (.cons (.asgn 1 .dict0)
 (.cons (.for (.one 2) (.attr (.loc 0) 6) false
  (.cons (.setItem (.loc 1) (.attr (.loc 2) 0) (.attr (.loc 2) 3)) .nil))
 (.cons (.asgn 3 (.list .nil))
 (.cons (.for (.one 2) (.attr (.loc 0) 6) false
  (.cons (.for (.one 4) (.len (.attr (.loc 2) 2)) true
   (.cons (.asgn 5 (.comp 6 (.loc 6) (.call 60 (.cons (.item (.attr (.loc 2) 2) (.loc 4)) .nil)) false (.cons (.and (.cons (.cmp .ne (.loc 6) (.int 0)) (.cons (.cmp .lt (.item (.loc 1) (.loc 6)) (.attr (.loc 2) 3)) .nil))) .nil)))
   (.cons (.ifs (.and (.cons (.cmp .ne (.loc 5) (.list .nil)) (.cons (.cmp .notin (.bin .div (.bin .add (.bin .add (.attr (.loc 2) 0) (.int 2)) (.loc 4)) (.bin .pow (.int 2) (.attr (.loc 0) 11))) (.attr (.loc 0) 10)) .nil)))
    (.cons (.expr (.append (.loc 3) (.tup (.cons (.attr (.loc 2) 0) (.cons (.loc 4) .nil))))) .nil) .nil) .nil))) .nil))
 (.cons (.ret (.loc 3)) .nil)))))
noncomputable def jkb:List (Option Str):=[some "heap",some "gens",some "thing",some "out",some "k",some "younger",none]
noncomputable def jh1:Sts:=
 (.cons (.asgn 3 (.call 61 (.cons (.loc 0) (.cons (.bin .div (.loc 2) (.int 4)) .nil))))
 (.cons (.asgn 4 (.call 61 (.cons (.loc 0) (.cons (.bin .div (.loc 2) (.int 16)) .nil))))
 (.cons (.asgn 5 (.call 56 (.cons (.loc 1) (.cons (.bin .mod (.loc 2) (.int 2)) (.cons (.tup (.cons (.glob 1 4) (.cons (.loc 3) .nil))) .nil)))))
 (.cons (.asgn 6 (.call 56 (.cons (.loc 1) (.cons (.bin .add (.int 2) (.bin .mod (.bin .div (.loc 2) (.int 2)) (.int 2))) (.cons (.call 52 (.cons (.tup (.cons (.glob 1 4) (.cons (.loc 4) .nil))) .nil)) .nil)))))
 (.cons (.asgn 7 (.call 51 (.cons (.loc 0) (.cons (.loc 1) .nil))))
 (.cons (.expr (.call 56 (.cons (.loc 1) (.cons (.bin .mod (.loc 2) (.int 2)) (.cons (.loc 5) .nil)))))
 (.cons (.expr (.call 56 (.cons (.loc 1) (.cons (.bin .add (.int 2) (.bin .mod (.bin .div (.loc 2) (.int 2)) (.int 2))) (.cons (.loc 6) .nil)))))
 (.cons (.ret (.cmp .eq (.loc 7) (.list (.cons (.bin .add (.str "a root refers to ") (.strOf (.loc 3))) (.cons (.bin .add (.str "a root refers to ") (.strOf (.loc 4))) .nil))))) .nil))))))))
noncomputable def jiu:List (Option Str):=[some "heap",some "lists",some "y",some "first",some "second",some "one",some "two",some "told"]
noncomputable def jb9:Sts:=
 (.cons (.asgn 3 (.call 54 (.cons (.loc 0) (.cons (.bin .div (.loc 2) (.int 3)) .nil))))
 (.cons (.ifs (.cmp .eq (.len (.attr (.loc 3) 2)) (.int 0))
  (.cons (.asgn 3 (.item (.attr (.loc 0) 6) (.int 0))) .nil) .nil)
 (.cons (.asgn 4 (.bin .mod (.bin .div (.loc 2) (.int 3)) (.len (.attr (.loc 3) 2))))
 (.cons (.asgn 5 (.list (.cons (.call 61 (.cons (.loc 0) (.cons (.bin .div (.loc 2) (.int 9)) .nil))) (.cons (.call 61 (.cons (.loc 0) (.cons (.bin .div (.loc 2) (.int 13)) .nil))) .nil))))
 (.cons (.asgn 6 (.item (.attr (.loc 3) 2) (.loc 4)))
 (.cons (.ifs (.cmp .eq (.bin .mod (.loc 2) (.int 3)) (.int 0))
  (.cons (.setItem (.attr (.loc 3) 2) (.loc 4) (.call 53 (.cons (.tup (.cons (.glob 1 4) (.cons (.item (.loc 5) (.int 0)) .nil))) (.cons (.tup (.cons (.glob 1 4) (.cons (.item (.loc 5) (.int 1)) .nil))) .nil)))) .nil)
  (.cons (.ifs (.cmp .eq (.bin .mod (.loc 2) (.int 3)) (.int 1))
   (.cons (.asgn 5 (.sliceTo (.loc 5) (.int 1)))
   (.cons (.setItem (.attr (.loc 3) 2) (.loc 4) (.tup (.cons (.glob 1 4) (.cons (.item (.loc 5) (.int 0)) .nil)))) .nil))
   (.cons (.asgn 5 (.sliceTo (.loc 5) (.int 1)))
   (.cons (.setItem (.attr (.loc 3) 2) (.loc 4) (.call 53 (.cons (.tup (.cons (.glob 1 4) (.cons (.attr (.loc 3) 0) .nil))) (.cons (.tup (.cons (.glob 1 4) (.cons (.item (.loc 5) (.int 0)) .nil))) .nil)))) .nil))) .nil))
 (.cons (.asgn 7 (.call 51 (.cons (.loc 0) (.cons (.loc 1) .nil))))
 (.cons (.setItem (.attr (.loc 3) 2) (.loc 4) (.loc 6))
 (.cons (.ret (.cmp .eq (.loc 7) (.comp 8 (.bin .add (.bin .add (.bin .add (.str "the thing at ") (.strOf (.attr (.loc 3) 0))) (.str " refers to ")) (.strOf (.loc 8))) (.loc 5) false .nil))) .nil)))))))))
noncomputable def jiv:List (Option Str):=[some "heap",some "lists",some "y",some "thing",some "k",some "words",some "was",some "told",none]
noncomputable def jdI:Sts:=
 (.cons (.asgn 3 (.call 54 (.cons (.loc 0) (.cons (.bin .div (.loc 2) (.int 6)) .nil))))
 (.cons (.asgn 4 (.item (.tup (.cons (.bin .add (.attr (.loc 0) 8) (.bin .mod (.bin .div (.loc 2) (.int 6)) (.int 3))) (.cons (.int 15) (.cons (.int 0) .nil)))) (.bin .mod (.loc 2) (.int 3))))
 (.cons (.asgn 5 (.tup (.cons (.glob 3 6) (.cons (.tup (.cons (.glob 5 3) (.cons (.bin .sub (.bin .add (.attr (.loc 3) 0) (.attr (.loc 3) 4)) (.int 1)) (.cons (.tup (.cons (.int 0) .nil)) .nil)))) .nil))))
 (.cons (.ifs (.cmp .eq (.bin .mod (.loc 2) (.int 5)) (.int 4))
  (.cons (.asgn 5 (.tup (.cons (.glob 3 6) (.cons (.tup (.cons (.glob 4 1) (.cons (.int 3) (.cons (.int 0) (.cons (.tup .nil) .nil))))) .nil)))) .nil) .nil)
 (.cons (.asgn 6 (.call 56 (.cons (.loc 1) (.cons (.bin .mod (.bin .div (.loc 2) (.int 3)) (.int 2)) (.cons (.tup (.cons (.glob 3 6) (.cons (.tup (.cons (.glob 5 3) (.cons (.loc 4) (.cons (.tup (.cons (.int 0) .nil)) .nil)))) .nil))) .nil)))))
 (.cons (.asgn 7 (.call 56 (.cons (.loc 1) (.cons (.bin .add (.int 2) (.bin .mod (.bin .div (.loc 2) (.int 3)) (.int 2))) (.cons (.loc 5) .nil)))))
 (.cons (.asgn 8 (.call 51 (.cons (.loc 0) (.cons (.loc 1) .nil))))
 (.cons (.expr (.call 56 (.cons (.loc 1) (.cons (.bin .mod (.bin .div (.loc 2) (.int 3)) (.int 2)) (.cons (.loc 6) .nil)))))
 (.cons (.expr (.call 56 (.cons (.loc 1) (.cons (.bin .add (.int 2) (.bin .mod (.bin .div (.loc 2) (.int 3)) (.int 2))) (.cons (.loc 7) .nil)))))
 (.cons (.ret (.cmp .eq (.loc 8) (.list (.cons (.bin .add (.str "a root refers to ") (.strOf (.loc 4))) .nil)))) .nil))))))))))
noncomputable def jg1:List (Option Str):=[some "heap",some "lists",some "y",some "thing",some "word",some "good",some "one",some "two",some "told"]
noncomputable def jbB:Sts:=
 (.cons (.asgn 3 (.call 54 (.cons (.loc 0) (.cons (.loc 2) .nil))))
 (.cons (.asgn 4 (.attr (.loc 3) 0))
 (.cons (.asgn 5 (.list (.cons (.bin .add (.str "not in the index: ") (.strOf (.loc 4))) .nil)))
 (.cons (.for (.one 6) (.bin .add (.item (.loc 1) (.int 0)) (.item (.loc 1) (.int 1))) false
  (.cons (.asgn 5 (.bin .add (.loc 5) (.comp 12 (.bin .add (.str "a root refers to ") (.strOf (.loc 4))) (.call 60 (.cons (.loc 6) .nil)) false (.cons (.cmp .eq (.loc 12) (.loc 4)) .nil)))) .nil))
 (.cons (.for (.one 7) (.attr (.loc 0) 6) false
  (.cons (.for (.one 8) (.attr (.loc 7) 2) false
   (.cons (.asgn 5 (.bin .add (.loc 5) (.comp 13 (.bin .add (.bin .add (.bin .add (.str "the thing at ") (.strOf (.attr (.loc 7) 0))) (.str " refers to ")) (.strOf (.loc 4))) (.call 60 (.cons (.loc 8) .nil)) false (.cons (.cmp .eq (.loc 13) (.loc 4)) .nil)))) .nil)) .nil))
 (.cons (.asgn 5 (.bin .add (.loc 5) (.comp 14 (.bin .add (.str "finals hold ") (.strOf (.loc 4))) (.attr (.loc 0) 14) false (.cons (.cmp .eq (.loc 14) (.loc 4)) .nil))))
 (.cons (.asgn 5 (.bin .add (.loc 5) (.comp 15 (.bin .add (.str "ready holds ") (.strOf (.loc 4))) (.attr (.loc 0) 15) false (.cons (.cmp .eq (.item (.loc 15) (.int 1)) (.loc 4)) .nil))))
 (.cons (.asgn 9 (.attr (.loc 0) 7))
 (.cons (.setAttr (.loc 0) 7 .dict0)
 (.cons (.for (.one 10) (.attr (.loc 0) 6) false
  (.cons (.ifs (.cmp .ne (.attr (.loc 10) 0) (.loc 4))
   (.cons (.setItem (.attr (.loc 0) 7) (.attr (.loc 10) 0) (.loc 10)) .nil) .nil) .nil))
 (.cons (.asgn 11 (.call 51 (.cons (.loc 0) (.cons (.loc 1) .nil))))
 (.cons (.setAttr (.loc 0) 7 (.loc 9))
 (.cons (.ret (.cmp .eq (.loc 11) (.loc 5))) .nil)))))))))))))
noncomputable def jj9:List (Option Str):=[some "heap",some "lists",some "y",some "thing",some "a",some "rows",some "cell",some "holder",some "value",some "was",some "other",some "told",none,none,none,none]
noncomputable def jhZ:Sts:=
 (.cons (.asgn 3 (.call 61 (.cons (.loc 0) (.cons (.bin .div (.loc 2) (.int 3)) .nil))))
 (.cons (.asgn 4 (.attr (.loc 0) 7))
 (.cons (.setAttr (.loc 0) 7 (.dict1 (.loc 3) (.call 54 (.cons (.loc 0) (.cons (.loc 2) .nil)))))
 (.cons (.for (.one 5) (.attr (.loc 0) 6) false
  (.cons (.setItem (.attr (.loc 0) 7) (.attr (.loc 5) 0) (.loc 5)) .nil))
 (.cons (.asgn 6 (.call 51 (.cons (.loc 0) (.cons (.loc 1) .nil))))
 (.cons (.setAttr (.loc 0) 7 (.loc 4))
 (.cons (.ret (.cmp .eq (.loc 6) (.list (.cons (.bin .add (.str "index of no thing: ") (.strOf (.loc 3))) .nil)))) .nil)))))))
noncomputable def jis:List (Option Str):=[some "heap",some "lists",some "y",some "word",some "was",some "thing",some "told"]
noncomputable def jeq:Sts:=
 (.cons (.asgn 3 (.bin .mod (.loc 2) (.len (.attr (.loc 0) 6))))
 (.cons (.asgn 4 (.attr (.loc 0) 6))
 (.cons (.asgn 5 (.attr (.item (.loc 4) (.loc 3)) 0))
 (.cons (.setAttr (.loc 0) 6 (.bin .add (.sliceTo (.loc 4) (.bin .add (.loc 3) (.int 1))) (.sliceFrom (.loc 4) (.loc 3))))
 (.cons (.asgn 6 (.call 51 (.cons (.loc 0) (.cons (.loc 1) .nil))))
 (.cons (.setAttr (.loc 0) 6 (.loc 4))
 (.cons (.ret (.cmp .eq (.loc 6) (.list (.cons (.bin .add (.str "overlap at ") (.strOf (.loc 5))) (.cons (.bin .add (.str "twice: ") (.strOf (.loc 5))) .nil))))) .nil)))))))
noncomputable def jiy:List (Option Str):=[some "heap",some "lists",some "y",some "i",some "was",some "a",some "told"]
noncomputable def jdr:Sts:=
 (.cons (.asgn 3 (.bin .mod (.bin .div (.loc 2) (.int 4)) (.len (.attr (.loc 0) 6))))
 (.cons (.asgn 4 (.item (.attr (.loc 0) 6) (.loc 3)))
 (.cons (.asgn 5 (.attr (.loc 4) 3))
 (.cons (.asgn 6 (.bin .add (.list (.cons (.int 2) .nil)) (.comp 11 (.attr (.loc 11) 3) (.attr (.loc 0) 6) false .nil)))
 (.cons (.setAttr (.loc 4) 3 (.bin .mod (.loc 2) (.int 4)))
 (.cons (.asgn 7 (.list .nil))
 (.cons (.ifs (.cmp .gt (.attr (.loc 4) 3) (.item (.loc 6) (.loc 3)))
  (.cons (.expr (.append (.loc 7) (.bin .add (.str "gen out of order at ") (.strOf (.attr (.loc 4) 0))))) .nil) .nil)
 (.cons (.ifs (.and (.cons (.cmp .lt (.bin .add (.loc 3) (.int 1)) (.len (.attr (.loc 0) 6))) (.cons (.cmp .gt (.attr (.item (.attr (.loc 0) 6) (.bin .add (.loc 3) (.int 1))) 3) (.attr (.loc 4) 3)) .nil)))
  (.cons (.expr (.append (.loc 7) (.bin .add (.str "gen out of order at ") (.strOf (.attr (.item (.attr (.loc 0) 6) (.bin .add (.loc 3) (.int 1))) 0))))) .nil) .nil)
 (.cons (.asgn 8 (.call 51 (.cons (.loc 0) (.cons (.loc 1) .nil))))
 (.cons (.asgn 9 (.call 25 (.cons (.loc 0) .nil)))
 (.cons (.asgn 10 (.call 63 (.cons (.loc 0) .nil)))
 (.cons (.setAttr (.loc 4) 3 (.loc 5))
 (.cons (.ret (.and (.cons (.cmp .eq (.loc 8) (.loc 7)) (.cons (.cmp .eq (.loc 9) (.loc 10)) .nil)))) .nil)))))))))))))
noncomputable def jj7:List (Option Str):=[some "heap",some "lists",some "y",some "i",some "thing",some "was",some "before",some "rows",some "told",some "unguarded",some "want",none]
noncomputable def jgm:Sts:=
 (.cons (.asgn 3 (.attr (.loc 0) 8))
 (.cons (.setAttr (.loc 0) 8 (.bin .sub (.bin .sub (.loc 3) (.int 1)) (.bin .mod (.bin .div (.loc 2) (.int 2)) (.int 3))))
 (.cons (.asgn 4 (.list (.cons (.str "top is too low") .nil)))
 (.cons (.ifs (.cmp .eq (.bin .mod (.loc 2) (.int 2)) (.int 1))
  (.cons (.setAttr (.loc 0) 8 (.bin .add (.bin .add (.loc 3) (.int 1)) (.bin .mod (.bin .div (.loc 2) (.int 2)) (.int 3))))
  (.cons (.asgn 4 (.list .nil)) .nil)) .nil)
 (.cons (.asgn 5 (.call 51 (.cons (.loc 0) (.cons (.loc 1) .nil))))
 (.cons (.setAttr (.loc 0) 8 (.loc 3))
 (.cons (.ret (.cmp .eq (.loc 5) (.loc 4))) .nil)))))))
noncomputable def jlL:List (Option Str):=[some "heap",some "lists",some "y",some "was",some "rows",some "told"]
noncomputable def jdk:Sts:=
 (.cons (.asgn 3 (.call 61 (.cons (.loc 0) (.cons (.bin .div (.loc 2) (.int 2)) .nil))))
 (.cons (.asgn 4 (.call 61 (.cons (.loc 0) (.cons (.bin .div (.loc 2) (.int 8)) .nil))))
 (.cons (.ifs (.cmp .eq (.bin .mod (.loc 2) (.int 2)) (.int 0))
  (.cons (.asgn 4 (.int 0)) .nil) .nil)
 (.cons (.expr (.append (.attr (.loc 0) 14) (.loc 3)))
 (.cons (.expr (.append (.attr (.loc 0) 15) (.tup (.cons (.glob 1 4) (.cons (.loc 4) .nil)))))
 (.cons (.asgn 5 (.call 51 (.cons (.loc 0) (.cons (.loc 1) .nil))))
 (.cons (.expr (.pop (.attr (.loc 0) 14)))
 (.cons (.expr (.pop (.attr (.loc 0) 15)))
 (.cons (.ret (.cmp .eq (.loc 5) (.list (.cons (.bin .add (.str "finals hold ") (.strOf (.loc 3))) (.cons (.bin .add (.str "ready holds ") (.strOf (.loc 4))) .nil))))) .nil)))))))))
noncomputable def jf2:List (Option Str):=[some "heap",some "lists",some "y",some "word",some "other",some "told"]
noncomputable def jjQ:Sts:=
 (.cons (.asgn 3 (.bin .mod (.bin .div (.loc 2) (.int 4)) (.len (.attr (.loc 0) 6))))
 (.cons (.asgn 4 (.item (.attr (.loc 0) 6) (.loc 3)))
 (.cons (.asgn 5 (.bin .add (.attr (.loc 4) 0) (.attr (.loc 4) 4)))
 (.cons (.ifs (.cmp .eq (.bin .mod (.loc 2) (.int 2)) (.int 0))
  (.cons (.setAttr (.loc 4) 4 (.bin .add (.attr (.loc 4) 4) (.int 1)))
  (.cons (.asgn 6 (.list (.cons (.str "top is too low") .nil)))
  (.cons (.ifs (.cmp .lt (.bin .add (.loc 3) (.int 1)) (.len (.attr (.loc 0) 6)))
   (.cons (.asgn 6 (.list (.cons (.bin .add (.str "overlap at ") (.strOf (.loc 5))) .nil))) .nil) .nil)
  (.cons (.asgn 7 (.call 51 (.cons (.loc 0) (.cons (.loc 1) .nil))))
  (.cons (.setAttr (.loc 4) 4 (.bin .sub (.attr (.loc 4) 4) (.int 1)))
  (.cons (.ret (.cmp .eq (.loc 7) (.loc 6))) .nil)))))) .nil)
 (.cons (.asgn 8 (.call 56 (.cons (.loc 1) (.cons (.bin .mod (.bin .div (.loc 2) (.int 2)) (.int 2)) (.cons (.tup (.cons (.glob 3 6) (.cons (.tup (.cons (.glob 5 3) (.cons (.bin .sub (.loc 5) (.int 1)) (.cons (.tup .nil) .nil)))) .nil))) .nil)))))
 (.cons (.setAttr (.loc 4) 4 (.bin .sub (.attr (.loc 4) 4) (.int 1)))
 (.cons (.asgn 6 (.call 62 (.cons (.loc 1) (.cons (.bin .sub (.loc 5) (.int 1)) .nil))))
 (.cons (.asgn 7 (.call 51 (.cons (.loc 0) (.cons (.loc 1) .nil))))
 (.cons (.setAttr (.loc 4) 4 (.bin .add (.attr (.loc 4) 4) (.int 1)))
 (.cons (.expr (.call 56 (.cons (.loc 1) (.cons (.bin .mod (.bin .div (.loc 2) (.int 2)) (.int 2)) (.cons (.loc 8) .nil)))))
 (.cons (.ret (.cmp .eq (.loc 7) (.loc 6))) .nil)))))))))))
noncomputable def jkd:List (Option Str):=[some "heap",some "lists",some "y",some "i",some "thing",some "end",some "rows",some "told",some "was"]
noncomputable def jh0:Sts:=
 (.cons (.asgn 3 (.bin .mod (.bin .div (.loc 2) (.int 2)) (.len (.attr (.loc 0) 6))))
 (.cons (.asgn 4 (.item (.attr (.loc 0) 6) (.loc 3)))
 (.cons (.asgn 5 (.attr (.loc 4) 0))
 (.cons (.asgn 6 (.bin .add (.loc 5) (.attr (.loc 4) 4)))
 (.cons (.ifs (.cmp .eq (.bin .mod (.loc 2) (.int 2)) (.int 0))
  (.cons (.asgn 7 (.list (.cons (.bin .add (.str "not in the index: ") (.strOf (.bin .add (.loc 5) (.int 1)))) (.cons (.str "top is too low") (.cons (.bin .add (.str "index of no thing: ") (.strOf (.loc 5))) .nil)))))
  (.cons (.ifs (.cmp .lt (.bin .add (.loc 3) (.int 1)) (.len (.attr (.loc 0) 6)))
   (.cons (.setItem (.loc 7) (.int 1) (.bin .add (.str "overlap at ") (.strOf (.loc 6)))) .nil) .nil)
  (.cons (.setAttr (.loc 4) 0 (.bin .add (.loc 5) (.int 1))) .nil)))
  (.cons (.asgn 7 (.list (.cons (.bin .add (.str "overlap at ") (.strOf (.bin .sub (.loc 5) (.int 1)))) (.cons (.bin .add (.str "not in the index: ") (.strOf (.bin .sub (.loc 5) (.int 1)))) (.cons (.bin .add (.str "index of no thing: ") (.strOf (.loc 5))) .nil)))))
  (.cons (.asgn 7 (.bin .add (.loc 7) (.call 62 (.cons (.loc 1) (.cons (.bin .sub (.loc 6) (.int 1)) .nil)))))
  (.cons (.setAttr (.loc 4) 0 (.bin .sub (.loc 5) (.int 1))) .nil))))
 (.cons (.asgn 8 (.call 51 (.cons (.loc 0) (.cons (.loc 1) .nil))))
 (.cons (.setAttr (.loc 4) 0 (.loc 5))
 (.cons (.ret (.cmp .eq (.loc 8) (.loc 7))) .nil))))))))
noncomputable def jit:List (Option Str):=[some "heap",some "lists",some "y",some "i",some "thing",some "a",some "end",some "rows",some "told"]
noncomputable def jcL:Sts:=
 (.cons (.asgn 3 (.attr (.loc 0) 10))
 (.cons (.asgn 4 (.sliceFrom (.sorted (.loc 3)) (.bin .mod (.bin .div (.loc 2) (.int 2)) (.bin .add (.len (.loc 3)) (.int 1)))))
 (.cons (.ifs (.cmp .eq (.bin .mod (.loc 2) (.int 2)) (.int 0))
  (.cons (.asgn 4 (.sliceTo (.loc 4) (.int 1))) .nil) .nil)
 (.cons (.setAttr (.loc 0) 10 .dict0)
 (.cons (.for (.one 5) (.sorted (.loc 3)) false
  (.cons (.ifs (.cmp .notin (.loc 5) (.loc 4))
   (.cons (.setItem (.attr (.loc 0) 10) (.loc 5) (.int 1)) .nil) .nil) .nil))
 (.cons (.asgn 6 (.call 51 (.cons (.loc 0) (.cons (.loc 1) .nil))))
 (.cons (.asgn 7 (.call 25 (.cons (.loc 0) .nil)))
 (.cons (.asgn 8 (.call 63 (.cons (.loc 0) .nil)))
 (.cons (.setAttr (.loc 0) 10 (.loc 3))
 (.cons (.ret (.and (.cons (.cmp .eq (.loc 6) (.list .nil)) (.cons (.cmp .eq (.loc 7) (.loc 8)) .nil)))) .nil))))))))))
noncomputable def jir:List (Option Str):=[some "heap",some "lists",some "y",some "was",some "gone",some "card",some "told",some "unguarded",some "want"]
noncomputable def jgQ:Sts:=
 (.cons (.ifs (.cmp .eq (.loc 2) (.int 0))
  (.cons (.ret (.call 64 (.cons (.loc 0) (.cons (.loc 1) (.cons (.loc 3) .nil))))) .nil) .nil)
 (.cons (.ifs (.cmp .eq (.loc 2) (.int 1))
  (.cons (.ret (.call 65 (.cons (.loc 0) (.cons (.loc 1) (.cons (.loc 3) .nil))))) .nil) .nil)
 (.cons (.ifs (.cmp .eq (.loc 2) (.int 2))
  (.cons (.ret (.call 66 (.cons (.loc 0) (.cons (.loc 1) (.cons (.loc 3) .nil))))) .nil) .nil)
 (.cons (.ifs (.cmp .eq (.loc 2) (.int 3))
  (.cons (.ret (.call 67 (.cons (.loc 0) (.cons (.loc 1) (.cons (.loc 3) .nil))))) .nil) .nil)
 (.cons (.ifs (.cmp .eq (.loc 2) (.int 4))
  (.cons (.ret (.call 68 (.cons (.loc 0) (.cons (.loc 1) (.cons (.loc 3) .nil))))) .nil) .nil)
 (.cons (.ifs (.cmp .eq (.loc 2) (.int 5))
  (.cons (.ret (.call 69 (.cons (.loc 0) (.cons (.loc 1) (.cons (.loc 3) .nil))))) .nil) .nil)
 (.cons (.ifs (.cmp .eq (.loc 2) (.int 6))
  (.cons (.ret (.call 70 (.cons (.loc 0) (.cons (.loc 1) (.cons (.loc 3) .nil))))) .nil) .nil)
 (.cons (.ifs (.cmp .eq (.loc 2) (.int 7))
  (.cons (.ret (.call 71 (.cons (.loc 0) (.cons (.loc 1) (.cons (.loc 3) .nil))))) .nil) .nil)
 (.cons (.ifs (.cmp .eq (.loc 2) (.int 8))
  (.cons (.ret (.call 72 (.cons (.loc 0) (.cons (.loc 1) (.cons (.loc 3) .nil))))) .nil) .nil)
 (.cons (.ifs (.cmp .eq (.loc 2) (.int 9))
  (.cons (.ret (.call 73 (.cons (.loc 0) (.cons (.loc 1) (.cons (.loc 3) .nil))))) .nil) .nil)
 (.cons (.ifs (.cmp .eq (.loc 2) (.int 10))
  (.cons (.ret (.call 74 (.cons (.loc 0) (.cons (.loc 1) (.cons (.loc 3) .nil))))) .nil) .nil)
 (.cons (.ret (.call 75 (.cons (.loc 0) (.cons (.loc 1) (.cons (.loc 3) .nil))))) .nil))))))))))))
noncomputable def jgZ:List (Option Str):=[some "heap",some "lists",some "sort",some "y"]
noncomputable def jhY:Sts:=
 (.cons (.asgn 2 (.call 5 (.cons (.loc 0) (.cons (.int 20) (.cons (.list (.cons (.tup (.cons (.glob 1 4) (.cons (.int 0) .nil))) (.cons (.tup (.cons (.glob 1 4) (.cons (.int 0) .nil))) .nil))) .nil)))))
 (.cons (.setItem (.item (.loc 1) (.int 1)) (.int 2) (.tup (.cons (.glob 1 4) (.cons (.attr (.loc 2) 0) .nil))))
 (.cons (.asgn 3 (.call 5 (.cons (.loc 0) (.cons (.int 21) (.cons (.list (.cons (.tup (.cons (.glob 1 4) (.cons (.int 0) .nil))) .nil)) .nil)))))
 (.cons (.expr (.call 12 (.cons (.loc 0) (.cons (.loc 2) (.cons (.int 0) (.cons (.tup (.cons (.glob 1 4) (.cons (.attr (.loc 3) 0) .nil))) .nil))))))
 (.cons (.expr (.call 31 (.cons (.loc 0) (.cons (.attr (.loc 3) 0) .nil))))
 (.cons (.expr (.call 45 (.cons (.loc 0) (.cons (.loc 1) (.cons .none (.cons (.int 0) .nil))))))
 (.cons (.expr (.call 45 (.cons (.loc 0) (.cons (.loc 1) (.cons .none (.cons (.int 1) .nil))))))
 (.cons (.asgn 4 (.call 5 (.cons (.loc 0) (.cons (.int 20) (.cons (.list .nil) .nil)))))
 (.cons (.expr (.call 12 (.cons (.loc 0) (.cons (.loc 2) (.cons (.int 1) (.cons (.call 53 (.cons (.tup (.cons (.glob 1 4) (.cons (.int 0) .nil))) (.cons (.tup (.cons (.glob 1 4) (.cons (.attr (.loc 4) 0) .nil))) .nil))) .nil))))))
 (.cons (.asgn 5 (.call 5 (.cons (.loc 0) (.cons (.int 21) (.cons (.list (.cons (.tup (.cons (.glob 1 4) (.cons (.int 0) .nil))) .nil)) .nil)))))
 (.cons (.setItem (.item (.loc 1) (.int 0)) (.int 0) (.tup (.cons (.glob 1 4) (.cons (.attr (.loc 5) 0) .nil))))
 (.cons (.expr (.call 45 (.cons (.loc 0) (.cons (.loc 1) (.cons .none (.cons (.int 0) .nil))))))
 (.cons (.asgn 6 (.call 5 (.cons (.loc 0) (.cons (.int 20) (.cons (.list (.cons (.tup (.cons (.glob 1 4) (.cons (.int 0) .nil))) (.cons (.tup (.cons (.glob 1 4) (.cons (.int 0) .nil))) (.cons (.tup (.cons (.glob 1 4) (.cons (.int 0) .nil))) .nil)))) .nil)))))
 (.cons (.expr (.call 31 (.cons (.loc 0) (.cons (.attr (.loc 6) 0) .nil))))
 (.cons (.expr (.call 12 (.cons (.loc 0) (.cons (.loc 5) (.cons (.int 0) (.cons (.tup (.cons (.glob 1 4) (.cons (.attr (.loc 6) 0) .nil))) .nil)))))) .nil)))))))))))))))
noncomputable def jiq:List (Option Str):=[some "heap",some "lists",some "a",some "b",some "c",some "d",some "e"]
noncomputable def b_law:Sts:=
 (.cons (.asgn 1 (.comp 7 (.bin .mod (.loc 7) (.int 1000003)) (.sliceTo (.loc 0) (.int 8)) false .nil))
 (.cons (.asgn 2 (.new .heap 80 (.cons (.int 1000) (.cons (.bin .mod (.item (.bin .add (.loc 1) (.list (.cons (.int 2) .nil))) (.int 0)) (.int 4)) .nil))))
 (.cons (.asgn 3 (.list (.cons (.list (.cons (.tup (.cons (.glob 1 4) (.cons (.int 0) .nil))) (.cons (.tup (.cons (.glob 1 4) (.cons (.int 0) .nil))) .nil))) (.cons (.list (.cons (.tup (.cons (.glob 1 4) (.cons (.int 0) .nil))) (.cons (.tup (.cons (.glob 1 4) (.cons (.int 0) .nil))) (.cons (.tup (.cons (.glob 1 4) (.cons (.int 0) .nil))) .nil)))) .nil))))
 (.cons (.expr (.call 77 (.cons (.loc 2) (.cons (.loc 3) .nil))))
 (.cons (.for (.two 4 5) (.tup (.cons (.tup (.cons (.int 1) (.cons (.int 0) .nil))) (.cons (.tup (.cons (.int 3) (.cons (.int 4) .nil))) (.cons (.tup (.cons (.int 5) (.cons (.int 2) .nil))) (.cons (.tup (.cons (.int 6) (.cons (.int 11) .nil))) (.cons (.tup (.cons (.int 9) (.cons (.int 7) .nil))) (.cons (.tup (.cons (.int 11) (.cons (.int 0) .nil))) .nil))))))) false
  (.cons (.ifs (.not (.call 76 (.cons (.loc 2) (.cons (.loc 3) (.cons (.loc 4) (.cons (.loc 5) .nil))))))
   (.cons (.ret (.bool false)) .nil) .nil) .nil))
 (.cons (.for (.one 6) (.loc 1) false
  (.cons (.expr (.call 58 (.cons (.loc 2) (.cons (.loc 3) (.cons (.bin .mod (.loc 6) (.int 8)) (.cons (.bin .div (.loc 6) (.int 8)) .nil))))))
  (.cons (.ifs (.not (.call 76 (.cons (.loc 2) (.cons (.loc 3) (.cons (.bin .mod (.bin .div (.loc 6) (.int 7)) (.int 12)) (.cons (.bin .div (.loc 6) (.int 84)) .nil))))))
   (.cons (.ret (.bool false)) .nil) .nil) .nil)))
 (.cons (.ret (.and (.cons (.cmp .eq (.call 51 (.cons (.loc 2) (.cons (.loc 3) .nil))) (.list .nil)) (.cons (.cmp .eq (.call 25 (.cons (.loc 2) .nil)) (.list .nil)) .nil)))) .nil)))))))
noncomputable def jkf:List (Option Str):=[some "script",some "nums",some "heap",some "lists",some "sort",some "y",some "n",none]
noncomputable def jh9:Sts:=
 (.cons (.setAttr (.loc 0) 0 (.loc 1))
 (.cons (.setAttr (.loc 0) 1 (.loc 2))
 (.cons (.setAttr (.loc 0) 2 (.loc 3))
 (.cons (.setAttr (.loc 0) 3 (.int 0))
 (.cons (.setAttr (.loc 0) 4 (.call 4 (.cons (.len (.loc 3)) .nil)))
 (.cons (.setAttr (.loc 0) 5 (.int 0)) .nil))))))
noncomputable def jiE:List (Option Str):=[some "self",some "addr",some "kind",some "slots"]
noncomputable def jjS:Sts:=
 (.cons (.setAttr (.loc 0) 6 (.list .nil))
 (.cons (.setAttr (.loc 0) 7 .dict0)
 (.cons (.setAttr (.loc 0) 8 (.glob 6 16))
 (.cons (.setAttr (.loc 0) 9 (.loc 1))
 (.cons (.setAttr (.loc 0) 10 .dict0)
 (.cons (.setAttr (.loc 0) 11 (.loc 2))
 (.cons (.setAttr (.loc 0) 12 (.int 0))
 (.cons (.setAttr (.loc 0) 13 (.bin .add (.bin .div (.loc 1) (.int 4)) (.int 1)))
 (.cons (.setAttr (.loc 0) 14 (.list .nil))
 (.cons (.setAttr (.loc 0) 15 (.list .nil))
 (.cons (.setAttr (.loc 0) 16 (.int 0))
 (.cons (.setAttr (.loc 0) 17 (.int 0)) .nil))))))))))))
noncomputable def jke:List (Option Str):=[some "self",some "limit",some "card_bits"]
noncomputable def jia:Sts:=
 (.cons (.setAttr (.loc 0) 18 (.loc 1))
 (.cons (.setAttr (.loc 0) 19 (.loc 2)) .nil))
noncomputable def jiF:List (Option Str):=[some "self",some "heap",some "moves"]
noncomputable def jlF:Sts:=
 (.cons (.ret (.call 34 (.cons (.attr (.loc 0) 18) (.cons (.attr (.loc 0) 19) (.cons (.loc 1) .nil))))) .nil)
noncomputable def jlO:List (Option Str):=[some "self",some "word"]
noncomputable def P:Array (Option Fn):= #[some ⟨1,4,je6⟩,some ⟨3,0,jic⟩,some ⟨3,1,jib⟩,some ⟨3,5,jgV⟩,some ⟨1,0,jj0⟩,some ⟨3,1,jh7⟩,some ⟨1,0,jik⟩,some ⟨2,0,jeG⟩,some ⟨2,5,jh5⟩,some ⟨2,0,jjZ⟩,some ⟨1,1,jd2⟩,some ⟨2,0,jgS⟩,some ⟨4,0,jij⟩,some ⟨1,1,jlH⟩,some ⟨5,1,jjW⟩,some ⟨5,1,jif⟩,some ⟨4,2,jpl⟩,some ⟨2,3,jjV⟩,some ⟨3,6,jq7⟩,some ⟨4,2,jig⟩,some ⟨2,0,jmM⟩,some ⟨2,0,jjT⟩,some ⟨3,2,jeH⟩,some ⟨1,3,je8⟩,some ⟨1,2,jgY⟩,some ⟨1,3,jgT⟩,none,some ⟨4,1,jh6⟩,none,none,some ⟨3,3,jgX⟩,some ⟨2,0,jlG⟩,some ⟨2,2,jf0⟩,some ⟨3,3,jie⟩,some ⟨3,1,jid⟩,some ⟨3,0,jpr⟩,some ⟨3,2,jf1⟩,some ⟨3,2,jjU⟩,some ⟨2,3,jjX⟩,some ⟨2,2,jgW⟩,some ⟨4,1,jdl⟩,some ⟨3,2,je7⟩,some ⟨4,4,jgn⟩,some ⟨3,2,jih⟩,some ⟨4,2,jgU⟩,some ⟨4,3,jmN⟩,some ⟨1,4,jfZ⟩,some ⟨1,4,jfY⟩,some ⟨3,3,jcd⟩,some ⟨2,5,jds⟩,some ⟨1,3,je5⟩,some ⟨2,2,jh8⟩,some ⟨1,0,jlD⟩,some ⟨2,0,jlE⟩,some ⟨2,0,jh2⟩,some ⟨2,2,jh4⟩,some ⟨3,1,jjM⟩,some ⟨3,2,jep⟩,some ⟨4,0,jjL⟩,some ⟨4,1,jh3⟩,some ⟨1,2,jjP⟩,some ⟨2,1,jjN⟩,some ⟨2,2,jgR⟩,some ⟨1,6,jjO⟩,some ⟨3,5,jh1⟩,some ⟨3,6,jb9⟩,some ⟨3,6,jdI⟩,some ⟨3,13,jbB⟩,some ⟨3,4,jhZ⟩,some ⟨3,4,jeq⟩,some ⟨3,9,jdr⟩,some ⟨3,3,jgm⟩,some ⟨3,3,jdk⟩,some ⟨3,6,jjQ⟩,some ⟨3,6,jh0⟩,some ⟨3,6,jcL⟩,some ⟨4,0,jgQ⟩,some ⟨2,5,jhY⟩,some ⟨1,7,b_law⟩,some ⟨4,0,jh9⟩,some ⟨3,0,jjS⟩,some ⟨3,0,jia⟩,some ⟨2,0,jlF⟩]
noncomputable def ctxs:Array (List (Option Str)):= #[jmV,jiH,jiG,jg5,jkm,jiC,jiO,jeI,jiA,jkl,jd6,jg2,jiN,jlQ,jkj,jiK,jpy,jki,jra,jiL,jmT,jkg,jeJ,jfd,jg8,jg3,[],jiB,[],[],jg7,jlP,jf6,jiJ,jiI,jpz,jf7,jkh,jkk,jg6,jf8,jfc,jlN,jiM,jg4,jmU,jf4,jf3,jf5,jdt,jfb,jiD,jlK,jlM,jiw,jiz,jj8,jip,jj6,jix,jkc,jka,jg0,jkb,jiu,jiv,jg1,jj9,jis,jiy,jj7,jlL,jf2,jkd,jit,jir,jgZ,jiq,jkf,jiE,jke,jiF,jlO]
noncomputable def jpB:Cls->Str
 | .thing=>"Thing"
 | .heap=>"Heap"
 | .words=>"Words"
noncomputable def Tt:Tb:=⟨[("V_I4",1),("V_REF",4),("V_STRUCT",5),("V_PLACE",6),("PL_LOCAL",1),("PL_HEAP",3),("FIRST_ADDRESS",16),("HEAD_WORDS",2),("LEAST_SIZE",3),("TOP_GEN",2),("H_SHORT",1),("H_LONG",2),("H_STRONG",3),("ROW_SORT",0),("ROW_ADDR",1),("ROW_ALIVE",2)],(["refs_in","move_value","move_plain","move_struct","words_for","heap_alloc","used_words","note_collected","find_thing","slot_word","holds_reference","card_number","store_slot","words_of","push_word","push_value","drain","old_slots","mark","reach_more","card_of","mark_card","refers_younger","younger_slots","renew_cards","check_cards","strong_values","found_dead","clear_handles","move_handles","pick_finals","register","end_of_older","plan_moves","moved_word","stays","moved_values","new_lists","put_lists","moved_addrs","settle_thing","settle_things","move_all","root_lists","find_living","collect","broken_order","broken_index","broken_value","broken_references","broken_finals","heap_check","_law_one","_law_two","_law_thing","_law_value","_law_hold","_law_alloc","_law_deed","_law_touch","_law_refs","_law_none","_law_byrefs","_law_open","_law_roots","_law_slots","_law_places","_law_lost","_law_extra","_law_twice","_law_gens","_law_top","_law_waiting","_law_size","_law_moved","_law_cards","_law_breach","_law_begin","law","__init__Thing","__init__Heap","__init__Words","new_word"]:List String).map Str.ofString,79,(["addr","kind","slots","gen","size","serial","things","at","top","limit","cards","card_bits","fresh","young_limit","finals","ready","moved","made","heap","moves"]:List String).map Str.ofString,jpB⟩
noncomputable def faL:List Addr:=[21,28,35,42,49,98,105,112,119,126,133,140,147,154,161,168,175,182,189,196,203,210,217,224,231,238,245,252,259,266,273,280,287,294,329,336,343,350,357,364,371,378,385,392,399,406,413,420,427,434,441,448,455,462,469,476,483,488,495,502,509,516,523,528,535,540,547,552,559,566,571,578,585,592,599,606,613,620,625,63,84,308,315]
noncomputable def fat(f:Nat):Addr:=faL.getD f 0
noncomputable def clt:Cls->Addr
 | .thing=>66
 | .heap=>87
 | .words=>318
noncomputable def jsm(K:Frag)(f:Nat):Bool:=match P[f]? with
 | some (some fn)=>((ctxs.getD f []).length==fn.n+fn.k)&&joq Tt K (fat f) fn.n (ctxs.getD f []) fn.body
 | _=>true
noncomputable def jsn(K:Frag):Bool:=(List.range 42).all (jsm K)
noncomputable def jta(K:Frag):Bool:=(List.range 41).all fun f=>jsm K (f+42)
noncomputable def jkp(K:Frag):Bool:=Tt.gints.all fun y=>match nsIn K mainGlobals y.1 with
 | some (some (.int k _))=>k==y.2
 | _=>false
noncomputable def jo2(K:Frag):Bool:=(List.range 83).all fun f=>match Tt.fns[f]? with
 | some x=>(!(blt f Tt.nGlob)||(nsIn K mainGlobals x==some (some (.ref (fat f)))))&&keepIn K (.ref (fat f))
 | none=>true
noncomputable def jpu(K:Frag):Bool:=(["len","str","range","sorted","tuple"]:List Str).all fun x=>nsIn K mainGlobals x==some none
noncomputable def allCls:List Cls:=[.thing,.heap,.words]
noncomputable def jkZ(K:Frag):Bool:=allCls.all fun c=>(nsIn K mainGlobals (Tt.clsn c)==some (some (.ref (clt c))))&&keepIn K (.ref (clt c))&&
 plainGet K (clt c) ⟨#[]⟩&&hasDictIn K (clt c)&&(findIn K (.ref (clt c)) "__setattr__"==some (some (.builtin "object.__setattr__")))&&plainOver K (clt c)&&makesIn K (clt c)&&
 ((List.range c.num).all fun i=>findIn K (.ref (clt c)) (Tt.fld (c.off+i))==some none)
noncomputable def jkq(K:Frag):Bool:=allCls.all fun c=>(List.range 83).all fun f=> !(Tt.fns[f]? ==some ("__init__"++Tt.clsn c:Str))||
 ((findIn K (.ref (clt c)) "__init__"==some (some (.ref (fat f))))&&(typeIn K (.ref (fat f))==some (.type "function")))
noncomputable def jrq(K:Frag):Bool:=(List.range 83).all fun f=> !(Tt.fns[f]? ==some ("new_word":Str))||
 ((findIn K (.ref (clt .words)) "new_word"==some (some (.ref (fat f))))&&(typeIn K (.ref (fat f))==some (.type "function")))
noncomputable def jnF(K:Frag):Bool:=jta K&&(jkp K&&(jo2 K&&(jpu K&&(jkZ K&&(jkq K&&jrq K)))))
noncomputable def jdG(K:Frag):Bool:=jsn K&&jnF K
noncomputable def asL:List Addr:=3::(faL.take 5++([63,66,84,87]++((faL.drop 5).take 29++([308,315,318]++(faL.drop 34).take 45)))).flatMap fun a=>[a-1,a]
noncomputable def gT(T:BT)(n a:Nat):Option Obj:=bif blt a n then(T.get a).bind alive else none
noncomputable def jm6(T:BT)(n:Nat):Frag:=asL.filterMap fun a=>(gT T n a).map fun o=>(a,o)
theorem e1A(w:World)(os:OsState):((jp8 w os).map fun s=>jsn (jm6 s.tree s.n))=some true:=by
 rw[jsV]
 kernel_rfl
theorem e1B(w:World)(os:OsState):((jp8 w os).map fun s=>jnF (jm6 s.tree s.n))=some true:=by
 rw[jsV]
 kernel_rfl
end
noncomputable section
abbrev K2:=PV->AHeap->Prop
abbrev KS:=Fl->jao->AHeap->Prop
inductive R (Y:AHeap) (l:Nat) (f:PObj->Prop):Prop
 | mk {x:PObj} (h:Y.get l=some x) (q:f x):R Y l f
inductive Sl (p:Prop):Prop
 | mk (q:p):Sl p
inductive C (m:Nat) (f:Nat) (vs:List PV) (Y:AHeap) (Q:K2):Prop
 | mk (q:Ok P m f vs Y Q):C m f vs Y Q
def gd(b:Bool)(X:Prop):Prop:=Bool.rec (motive:=fun _=>Prop) False X b
def cn(b:Bool)(T F:Prop):Prop:=Bool.rec (motive:=fun _=>Prop) F T b
def oO{ah:Type}(o:Option ah)(f:ah->Prop):Prop:=Option.rec (motive:=fun _=>Prop) False f o
def ifV(v:PV)(T F:Prop):Prop:=PV.casesOn (motive_1:=fun _=>Prop) v False (fun b=>cn b T F) (fun _=>False) (fun _=>False) (fun _=>False) fun _=>False
def nth{ah:Type}(xs:List ah):Nat->Option ah:=List.rec (motive:=fun _=>Nat->Option ah) (fun _=>none) (fun x _ ih n=>Nat.rec (motive:=fun _=>Option ah) (some x) (fun m _=>ih m) n) xs
def up(Z:jao):Nat->Option PV->jao:=List.rec (motive:=fun _=>Nat->Option PV->jao) (fun _ _=>[]) (fun x r ih n v=>Nat.rec (motive:=fun _=>jao) (v::r) (fun m _=>x::ih m v) n) Z
def ln{ah:Type}(xs:List ah):Nat:=List.rec (motive:=fun _=>Nat) 0 (fun _ _ n=>Nat.succ n) xs
def lc(Z:jao)(i:Nat)(K:PV->Prop):Prop:=Option.rec (motive:=fun _=>Prop) False (fun o=>Option.rec (motive:=fun _=>Prop) False K o) (nth Z i)
def atK(Q:K2)(Y:AHeap)(x:PV):Prop:=Q x Y
def ifL(o:PObj)(f:List PV->Prop):Prop:=PObj.casesOn (motive:=fun _=>Prop) o f (fun _=>False) (fun _ _=>False) fun _=>False
def ifD(o:PObj)(f:List (Int×PV)->Prop):Prop:=PObj.casesOn (motive:=fun _=>Prop) o (fun _=>False) f (fun _ _=>False) fun _=>False
def ifN(o:PObj)(f:Cls->List (Option PV)->Prop):Prop:=PObj.casesOn (motive:=fun _=>Prop) o (fun _=>False) (fun _=>False) f fun _=>False
def jri(o:PObj)(f:List PV->Prop)(g:List (Int×PV)->Prop):Prop:=PObj.casesOn (motive:=fun _=>Prop) o f g (fun _ _=>False) fun _=>False
def jts(o:PObj)(f:List PV->Prop):Prop:=PObj.casesOn (motive:=fun _=>Prop) o f (fun _=>False) (fun _ _=>False) f
def jsG(k:Nat)(Q:K2)(Y:AHeap)(o:PObj):Prop:=ifN o fun c fs=>gd (ble c.off k) (lc fs (k-c.off) (atK Q Y))
def joV(k:Nat)(Q:K2)(v:PV)(Y:AHeap):Prop:=v.onR fun l=>R Y l (jsG k Q Y)
def jeS(k:Nat)(K:AHeap->Prop)(x:PV)(l:Nat)(Y:AHeap)(o:PObj):Prop:=ifN o fun c fs=>gd (ble c.off k) (gd (blt (k-c.off) (ln fs)) (K (Y.set l (.inst c (up fs (k-c.off) (some x))))))
def jeZ(k:Nat)(K:AHeap->Prop)(x v:PV)(Y:AHeap):Prop:=v.onR fun l=>R Y l (jeS k K x l Y)
def jsJ(k:Int)(Q:K2)(Y:AHeap)(o:PObj):Prop:=jri o (fun xs=>gd (decide (0<=k)) (oO xs[k.toNat]? (atK Q Y))) fun es=>oO (jbu es k) (atK Q Y)
def jqG(Q:K2)(v i:PV)(Y:AHeap):Prop:=i.onI fun k=>v.onRT (fun l=>R Y l (jsJ k Q Y)) fun xs=>gd (decide (0<=k)) (gd (blt k.toNat 1000) (oO (nth xs k.toNat) (atK Q Y)))
def jon(K:AHeap->Prop)(x:PV)(k:Int)(l:Nat)(Y:AHeap)(o:PObj):Prop:=jri o (fun xs=>gd (decide (0<=k)) (gd (decide (k<xs.length)) (K (Y.set l (.list (xs.set k.toNat x)))))) fun es=>gd (decide (es.length<sizeLine)) (K (Y.set l (.dict (jhO es k x))))
def jhL(K:AHeap->Prop)(x v i:PV)(Y:AHeap):Prop:=i.onI fun k=>v.onR fun l=>R Y l (jon K x k l Y)
def joo(k:Int)(Q:K2)(Y:AHeap)(o:PObj):Prop:=jts o fun xs=>gd (decide (0<=k)) (gd (blt k.toNat 1000000) (gd (decide (xs.length<=sizeLine)) (Q (.ref Y.sz) (Y.alloc (.list (xs.take k.toNat))))))
def jhM(Q:K2)(v i:PV)(Y:AHeap):Prop:=i.onI fun k=>v.onRT (fun l=>R Y l (joo k Q Y))
 fun xs=>gd (decide (0<=k)) (gd (decide (k.toNat<xs.length)) (gd (decide (xs.length<=sizeLine)) (Q (.tup (xs.take k.toNat)) Y)))
def jlV(k:Int)(Q:K2)(Y:AHeap)(o:PObj):Prop:=ifL o fun xs=>gd (decide (0<=k)) (gd (blt k.toNat 1000000) (gd (decide (xs.length<=sizeLine)) (Q (.ref Y.sz) (Y.alloc (.list (xs.drop k.toNat))))))
def jen(Q:K2)(v i:PV)(Y:AHeap):Prop:=i.onI fun k=>v.onR fun l=>R Y l (jlV k Q Y)
def jsH(xs:List PV)(Q:K2)(Y:AHeap)(o:PObj):Prop:=ifL o fun ys=>gd (decide (xs.length+ys.length<=sizeLine)) (Q (.ref Y.sz) (Y.alloc (.list (xs++ys))))
def juQ(r:Nat)(Q:K2)(Y:AHeap)(o:PObj):Prop:=ifL o fun xs=>R Y r (jsH xs Q Y)
def juG(Q:K2)(a b:PV)(Y:AHeap):Prop:=PV.casesOn (motive_1:=fun _=>Prop) a False (fun _=>False) (fun x=>b.onI fun y=>Q (.int (x+y)) Y) (fun x=>b.onS fun y=>gd (decide (x.length+y.length<=sizeLine)) (Q (.str (x++y)) Y))
 (fun _=>False) fun l=>b.onR fun r=>R Y l (juQ r Q Y)
def jtd(op:Bop)(Q:K2)(a b:PV)(Y:AHeap):Prop:=Bop.casesOn (motive:=fun _=>Prop) op (juG Q a b Y) (jeM a b fun x y=>Q (.int (x-y)) Y)
 (jeM a b fun x y=>gd (decide (0<=x)) (gd (blt x.toNat 1000000) (Q (.int (x*y)) Y))) (jeM a b fun x y=>gd (decide (0<y)) (gd (blt y.toNat 1000000) (Q (.int (x/y)) Y))) (jeM a b fun x y=>gd (decide (0<y)) (Q (.int (x%y)) Y))
 (jeM a b fun x y=>gd (decide (0<=x)) (gd (decide (0<=y)) (gd (decide (y<4)) (Q (.int (x/2 ^ y.toNat)) Y)))) (jeM a b fun x y=>gd (decide (x=2)) (gd (decide (0<=y)) (gd (decide (y<4)) (Q (.int (2 ^ y.toNat)) Y))))
def tB(Q:K2)(Y:AHeap)(e:Bool):Prop:=Q (.bool e) Y
def tN(Q:K2)(Y:AHeap)(e:Bool):Prop:=Q (.bool !e) Y
def xEq(Q:K2)(a b:PV)(Y:AHeap):Prop:=PV.casesOn (motive_1:=fun _=>Prop) a (Sl (jl6 a b Y (tB Q Y))) (fun _=>Sl (jl6 a b Y (tB Q Y)))
 (fun x=>b.onI fun y=>Q (.bool (decide (x=y))) Y) (fun x=>b.onS fun y=>Q (.bool (decide (x=y))) Y) (fun xs=>oO ((PV.tup xs).flatEq b) (tB Q Y)) (fun _=>Sl (jl6 a b Y (tB Q Y)))
def xNe(Q:K2)(a b:PV)(Y:AHeap):Prop:=PV.casesOn (motive_1:=fun _=>Prop) a (Sl (jmx a b Y (tB Q Y))) (fun _=>Sl (jmx a b Y (tB Q Y)))
 (fun x=>b.onI fun y=>Q (.bool !(decide (x=y))) Y) (fun x=>b.onS fun y=>Q (.bool !(decide (x=y))) Y) (fun _=>Sl (jmx a b Y (tB Q Y))) (fun _=>Sl (jmx a b Y (tB Q Y)))
inductive InR (es:List (Int×PV)) (k:Int) (K:Bool->Prop):Prop
 | mk {b:Bool} (h:(jbu es k).isSome=b) (q:K b):InR es k K
inductive GetR (es:List (Int×PV)) (k:Int) (d:PV) (K:PV->Prop):Prop
 | mk {v:PV} (h:(jbu es k).getD d=v) (q:K v):GetR es k d K
def fIn(k:Int)(K:Bool->Prop)(o:PObj):Prop:=jri o (fun xs=>oO (jcR xs) fun is=>K (is.contains k)) fun es=>InR es k K
def xIn(K:Bool->Prop)(a b:PV)(Y:AHeap):Prop:=a.onI fun k=>b.onR fun l=>R Y l (fIn k K)
noncomputable def jrj(v:PV):Bool:=PV.casesOn (motive_1:=fun _=>Bool) v true (fun _=>false) (fun _=>false) (fun _=>false) (fun _=>false) fun _=>false
def jte(op:Cop)(Q:K2)(a b:PV)(Y:AHeap):Prop:=Cop.casesOn (motive:=fun _=>Prop) op (xEq Q a b Y) (xNe Q a b Y)
 (jeM a b fun x y=>Q (.bool (decide (x<y))) Y) (jeM a b fun x y=>Q (.bool (decide (x<=y))) Y) (jeM a b fun x y=>Q (.bool (decide (x>y))) Y) (jeM a b fun x y=>Q (.bool (decide (x>=y))) Y)
 (xIn (tB Q Y) a b Y) (xIn (tN Q Y) a b Y) (ji7 b (Q (.bool (jrj a)) Y)) (ji7 b (Q (.bool !(jrj a)) Y))
def juS(Q:K2)(Y:AHeap)(o:PObj):Prop:=jri o (fun xs=>gd (decide (xs.length<=sizeLine)) (Q (.int xs.length) Y)) fun es=>Q (.int es.length) Y
def jtg(Q:K2)(v:PV)(Y:AHeap):Prop:=v.onRT (fun l=>R Y l (juS Q Y)) fun xs=>gd (ble (ln xs) sizeLine) (Q (.int (ln xs)) Y)
def jpH(Q:K2)(Y:AHeap)(o:PObj):Prop:=ifD o fun es=>gd (decide (es.length<64)) (Q (.ref Y.sz) (Y.alloc (.list ((jba (es.map (·.1))).map .int))))
def jkS(Q:K2)(v:PV)(Y:AHeap):Prop:=v.onR fun l=>R Y l (jpH Q Y)
def jtj(Q:K2)(v:PV)(Y:AHeap):Prop:=v.onI fun i=>gd (decide (-1000000000<i)) (gd (decide (i<1000000000)) (Q (.str (Str.ofString (toString i))) Y))
def jrd(Q:K2)(Y:AHeap)(o:PObj):Prop:=ifL o fun xs=>gd (decide (xs.length<=sizeLine)) (Q (.tup xs) Y)
def jn4(Q:K2)(v:PV)(Y:AHeap):Prop:=v.onR fun l=>R Y l (jrd Q Y)
def jpG(K:AHeap->Prop)(x:PV)(l:Nat)(Y:AHeap)(o:PObj):Prop:=ifL o fun xs=>gd (decide (xs.length<sizeLine)) (K (Y.set l (.list (xs++ [x]))))
def jn3(K:AHeap->Prop)(v x:PV)(Y:AHeap):Prop:=v.onR fun l=>R Y l (jpG K x l Y)
inductive PopR (xs:List PV) (l:Nat) (Y:AHeap) (Q:K2):Prop
 | mk {ys:List PV} {x:PV} (h:xs=ys++ [x]) (q:Q x (Y.set l (.list ys))):PopR xs l Y Q
def juT(Q:K2)(l:Nat)(Y:AHeap)(o:PObj):Prop:=ifL o fun xs=>PopR xs l Y Q
def jti(Q:K2)(v:PV)(Y:AHeap):Prop:=v.onR fun l=>R Y l (juT Q l Y)
def juR(k:Int)(d:PV)(Q:K2)(Y:AHeap)(o:PObj):Prop:=ifD o fun es=>GetR es k d (atK Q Y)
def jtf(Q:K2)(v k d:PV)(Y:AHeap):Prop:=v.onR fun l=>k.onI fun k=>R Y l (juR k d Q Y)
def jm0(c:Cls)(X:Prop)(o:PObj):Prop:=ifN o fun c' _=>gd (decide (c'=c)) X
def jtr(X:Prop)(o:PObj):Prop:=ifL o fun _=>X
def jsI(X:Prop)(o:PObj):Prop:=ifD o fun _=>X
def bT2(i j:Nat)(Z:jao)(K:jao->Prop)(xs:List PV):Prop:=oO (nth xs 0) fun a=>oO (nth xs 1) fun b=>gd (Nat.beq (ln xs) 2) (gd (blt i (ln Z)) (gd (blt j (ln Z)) (K (up (up Z i (some a)) j (some b)))))
def bT(t:Tgt)(x:PV)(Z:jao)(K:jao->Prop):Prop:=Tgt.casesOn (motive:=fun _=>Prop) t (fun i=>gd (blt i (ln Z)) (K (up Z i (some x)))) fun i j=>PV.casesOn (motive_1:=fun _=>Prop) x False (fun _=>False) (fun _=>False) (fun _=>False) (bT2 i j Z K) fun _=>False
abbrev V:=Nat->jao->AHeap->K2->Prop
abbrev VL:=Nat->jao->AHeap->(List PV->AHeap->Prop)->Prop
abbrev VS:=Nat->jao->AHeap->KS->Prop
def fk'(N:jao->AHeap->Prop)(R:KS)(fl:Fl)(Z:jao)(Y:AHeap):Prop:=Fl.rec (motive:=fun _=>Prop) (N Z Y) (fun r=>R (.ret r) Z Y) fl
def sFb(b:VS)(m:Nat)(Y:AHeap)(J:jao->AHeap->Prop)(Q:KS)(Z:jao):Prop:=b m Z Y (fk' J Q)
def unR(t:Tgt)(b:VS)(m:Nat)(Q:KS)(xs:List PV):jao->AHeap->Prop:=List.rec (motive:=fun _=>jao->AHeap->Prop) (Q .next) (fun x _ ih Z Y=>bT t x Z (sFb b m Y ih Q)) xs
inductive ForR (m:Nat) (t:Tgt) (rng:Bool) (b:VS) (v:PV) (Z:jao) (af:AHeap) (Q:KS):Prop
 | mk (xs:List PV) (J:Nat->jao->AHeap->Prop) (h0:J 0 Z af) (hx: ∀i Z' Y',J i Z' Y'->jam rng v Y'=some xs)
  (hs: ∀i x Z' Y',xs[i]? =some x->J i Z' Y'->bT t x Z' (sFb b m Y' (J (i+1)) Q))
  (fin: ∀Z' Y',J xs.length Z' Y'->Q .next Z' Y'):ForR m t rng b v Z af Q
 | un (xs:List PV) (hx: ∀Y',jam rng v Y'=some xs) (q:unR t b m Q xs Z af):ForR m t rng b v Z af Q
 | dy (J:Nat->jao->AHeap->Prop) (n:Nat) (h0:J 0 Z af) (hs: ∀i Z' Y',J i Z' Y'->i<=n/\∃xs,jam rng v Y'=some xs/\(Option.rec (motive:=fun _=>Prop) (Q .next Z' Y') (fun x=>bT t x Z' (sFb b m Y' (J (i+1)) Q)) xs[i]? :Prop)):ForR m t rng b v Z af Q
def sWh(b:VS)(m:Nat)(Z:jao)(N:jao->AHeap->Prop)(Q:KS)(v:PV)(Y:AHeap):Prop:=ifV v (b m Z Y (fk' N Q)) (Q .next Z Y)
def tnR(m:Nat)(c:V)(b:VS)(Q:KS)(n:Nat):jao->AHeap->Prop:=Nat.rec (motive:=fun _=>jao->AHeap->Prop) (fun _ _=>False) (fun _ ih Z Y=>c m Z Y (sWh b m Z ih Q)) n
inductive WhR (m:Nat) (c:V) (b:VS) (Z:jao) (Y:AHeap) (Q:KS):Prop
 | mk (I:Nat->jao->AHeap->Prop) (aY:Nat) (h0:I aY Z Y) (hs: ∀n Z' Y',I n Z' Y'->c m Z' Y' (sWh b m Z' (fun aJ ai=>∃m,m<n/\I m aJ ai) Q)):WhR m c b Z Y Q
 | tn (n:Nat) (h:tnR m c b Q n Z Y):WhR m c b Z Y Q
def cEl(l:Nat)(ys:List PV)(J:List PV->AHeap->Prop)(y:PV)(Y:AHeap):Prop:=Y.get l=some (.list ys)/\ys.length<sizeLine/\J (ys++ [y]) (Y.set l (.list (ys++ [y])))
def cCo(elt:V)(m:Nat)(Z:jao)(l:Nat)(ys:List PV)(J:List PV->AHeap->Prop)(v:PV)(Y:AHeap):Prop:=ifV v (elt m Z Y (cEl l ys J)) (Y.get l=some (.list ys)/\J ys Y)
inductive CmR (m:Nat) (slot:Nat) (elt:V) (rng:Bool) (cond:V) (v:PV) (Z:jao) (Y:AHeap) (Q:K2):Prop
 | mk (xs:List PV) (J:Nat->List PV->AHeap->Prop) (h0:J 0 [] (Y.alloc (.list []))) (hx: ∀i ys Y',J i ys Y'->jam rng v Y'=some xs)
  (hs: ∀i x ys Y',xs[i]? =some x->Y'.get Y.sz=some (.list ys)->J i ys Y'->cond m (up Z slot (some x)) Y' (cCo elt m (up Z slot (some x)) Y.sz ys (J (i+1))))
  (fin: ∀ys Y',Y'.get Y.sz=some (.list ys)->J xs.length ys Y'->Q (.ref Y.sz) Y'):CmR m slot elt rng cond v Z Y Q
def k2(b:V)(m:Nat)(Z:jao)(f:PV->K2)(v:PV)(Y:AHeap):Prop:=b m Z Y (f v)
def k3(a b:V)(m:Nat)(Z:jao)(f:PV->PV->K2)(v:PV)(Y:AHeap):Prop:=a m Z Y (k2 b m Z (f v))
def juI(Q:K2)(v:PV)(Y:AHeap):Prop:=ifV v (Q (.bool false) Y) (Q (.bool true) Y)
def jqH(Q:K2)(vs:List PV)(Y:AHeap):Prop:=gd (ble (ln vs) sizeLine) (Q (.ref Y.sz) (Y.alloc (.list vs)))
def jtk(Q:K2)(vs:List PV)(Y:AHeap):Prop:=gd (ble (ln vs) sizeLine) (Q (.tup vs) Y)
def jpd(Q:K2)(k v:PV)(Y:AHeap):Prop:=k.onI fun k=>Q (.ref Y.sz) (Y.alloc (.dict [(k,v)]))
def jr9(m:Nat)(slot:Nat)(elt:V)(rng:Bool)(cond:V)(Z:jao)(Q:K2)(v:PV)(Y:AHeap):Prop:=CmR m slot elt rng cond v Z Y Q
def jr8(m f:Nat)(Q:K2)(vs:List PV)(Y:AHeap):Prop:=C m f vs Y Q
def jth(l:Nat)(Q:K2)(r:PV)(Y:AHeap):Prop:=r= .none/\Q (.ref l) Y
def juH(m:Nat)(c:Cls)(f:Nat)(Q:K2)(vs:List PV)(Y:AHeap):Prop:=C m f (.ref Y.sz::vs) (Y.alloc (.inst c (replicate c.num Option.none))) (jth Y.sz Q)
def jsL(Q:K2)(Y:AHeap):Prop:=Q .none Y
def jr7(b:V)(m:Nat)(Z:jao)(Q:K2)(v:PV)(Y:AHeap):Prop:=v.onR fun l=>R Y l (jtr (b m Z Y (jn3 (jsL Q) v)))
def jsa(b:V)(m:Nat)(Z:jao)(Q:K2)(v:PV)(Y:AHeap):Prop:=v.onR fun l=>R Y l (jsI (b m Z Y fun k=>jtf Q v k .none))
def jsb(a b:V)(m:Nat)(Z:jao)(Q:K2)(v:PV)(Y:AHeap):Prop:=v.onR fun l=>R Y l (jsI (a m Z Y (k2 b m Z (jtf Q v))))
def xMe(m f:Nat)(v:PV)(Q:K2)(y:PV)(Y:AHeap):Prop:=C m f [v,y] Y Q
def jsc(f:Nat)(b:V)(m:Nat)(Z:jao)(Q:K2)(v:PV)(Y:AHeap):Prop:=v.onR fun l=>R Y l (jm0 .words (b m Z Y (xMe m f v Q)))
def kE2(v:PV)(Q:List PV->AHeap->Prop)(vs:List PV)(Y:AHeap):Prop:=Q (v::vs) Y
def kE(b:VL)(m:Nat)(Z:jao)(Q:List PV->AHeap->Prop)(v:PV)(Y:AHeap):Prop:=b m Z Y (kE2 v Q)
def jtt(b:V)(m:Nat)(Z:jao)(Q:K2)(v:PV)(Y:AHeap):Prop:=ifV v (b m Z Y Q) (Q (.bool false) Y)
def kOr(b:V)(m:Nat)(Z:jao)(Q:K2)(v:PV)(Y:AHeap):Prop:=ifV v (Q (.bool true) Y) (b m Z Y Q)
def Ex.r(e:Ex):V:=Ex.rec (motive_1:=fun _=>V) (motive_2:=fun _=>VL×V×V)
 (fun _ _ Y Q=>Q .none Y)
 (fun b=>fun _ _ Y Q=>Q (.bool b) Y)
 (fun i=>fun _ _ Y Q=>Q (.int i) Y)
 (fun s=>fun _ _ Y Q=>Q (.str (Str.ofString s)) Y)
 (fun i=>fun _ Z Y Q=>lc Z i (atK Q Y))
 (fun _ i=>fun _ _ Y Q=>Q (.int i) Y)
 (fun _ k a=>fun m Z Y Q=>a m Z Y (joV k Q))
 (fun _ _ a b=>fun m Z Y Q=>a m Z Y (k2 b m Z (jqG Q)))
 (fun _ _ a b=>fun m Z Y Q=>a m Z Y (k2 b m Z (jhM Q)))
 (fun _ _ a b=>fun m Z Y Q=>a m Z Y (k2 b m Z (jen Q)))
 (fun op _ _ a b=>fun m Z Y Q=>a m Z Y (k2 b m Z (jtd op Q)))
 (fun op _ _ a b=>fun m Z Y Q=>a m Z Y (k2 b m Z (jte op Q)))
 (fun _ a=>fun m Z Y Q=>a.2.1 m Z Y Q)
 (fun _ a=>fun m Z Y Q=>a.2.2 m Z Y Q)
 (fun _ a=>fun m Z Y Q=>a m Z Y (juI Q))
 (fun _ a=>fun m Z Y Q=>a.1 m Z Y (jqH Q))
 (fun _ a=>fun m Z Y Q=>a.1 m Z Y (jtk Q))
 (fun _ _ Y Q=>Q (.ref Y.sz) (Y.alloc (.dict [])))
 (fun _ _ a b=>fun m Z Y Q=>a m Z Y (k2 b m Z (jpd Q)))
 (fun slot _ _ rng _ elt it cond=>fun m Z Y Q=>it m Z Y (jr9 m slot elt rng cond.2.1 Z Q))
 (fun f _ a=>fun m Z Y Q=>a.1 m Z Y (jr8 m f Q))
 (fun c f _ a=>fun m Z Y Q=>a.1 m Z Y (juH m c f Q))
 (fun _ a=>fun m Z Y Q=>a m Z Y (jtg Q))
 (fun _ a=>fun m Z Y Q=>a m Z Y (jkS Q))
 (fun _ a=>fun m Z Y Q=>a m Z Y (jtj Q))
 (fun _ a=>fun m Z Y Q=>a m Z Y (jn4 Q))
 (fun _ _ a b=>fun m Z Y Q=>a m Z Y (jr7 b m Z Q))
 (fun _ a=>fun m Z Y Q=>a m Z Y (jti Q))
 (fun _ _ a b=>fun m Z Y Q=>a m Z Y (jsa b m Z Q))
 (fun _ _ _ a b c=>fun m Z Y Q=>a m Z Y (jsb b c m Z Q))
 (fun f _ _ a b=>fun m Z Y Q=>a m Z Y (jsc f b m Z Q))
 ⟨fun _ _ Y Q=>Q [] Y,fun _ _ Y Q=>Q (.bool true) Y,fun _ _ Y Q=>Q (.bool false) Y⟩
 (fun _ _ a b=>⟨fun m Z Y Q=>a m Z Y (kE b.1 m Z Q),fun m Z Y Q=>a m Z Y (jtt b.2.1 m Z Q),fun m Z Y Q=>a m Z Y (kOr b.2.2 m Z Q)⟩) e
def kN(Q:KS)(Y:AHeap)(Z:jao):Prop:=Q .next Z Y
def kS(Q:KS)(Z:jao)(Y:AHeap):Prop:=Q .next Z Y
def jp9(i:Nat)(Z:jao)(Q:KS)(v:PV)(Y:AHeap):Prop:=gd (blt i (ln Z)) (Q .next (up Z i (some v)) Y)
def juD(i j:Nat)(Z:jao)(Q:KS)(v:PV)(Y:AHeap):Prop:=bT (.two i j) v Z (kN Q Y)
def jBi(i:Nat)(Z:jao)(Q:KS)(Y:AHeap)(r:PV):Prop:=Q .next (up Z i (some r)) Y
def jBh(op:Bop)(i:Nat)(old:PV)(Z:jao)(Q:KS)(v:PV)(Y:AHeap):Prop:=jhk op old v (jBi i Z Q Y)
def juA(op:Bop)(i:Nat)(e:V)(m:Nat)(Z:jao)(Y:AHeap)(Q:KS)(old:PV):Prop:=e m Z Y (jBh op i old Z Q)
def jBg(k:Nat)(ov:PV)(Y:AHeap)(Z:jao)(Q:KS)(r:PV):Prop:=jeZ k (kS Q Z) r ov Y
def jBf(k:Nat)(op:Bop)(ov old:PV)(Z:jao)(Q:KS)(v:PV)(Y:AHeap):Prop:=jhk op old v (jBg k ov Y Z Q)
def jBe(k:Nat)(op:Bop)(e:V)(m:Nat)(Z:jao)(Q:KS)(ov old:PV)(Y:AHeap):Prop:=e m Z Y (jBf k op ov old Z Q)
def juz(k:Nat)(op:Bop)(e:V)(m:Nat)(Z:jao)(Q:KS)(ov:PV)(Y:AHeap):Prop:=joV k (jBe k op e m Z Q ov) ov Y
def sIf(a b:VS)(m:Nat)(Z:jao)(Q:KS)(v:PV)(Y:AHeap):Prop:=ifV v (a m Z Y Q) (b m Z Y Q)
def juB(m:Nat)(t:Tgt)(rng:Bool)(b:VS)(Z:jao)(Q:KS)(v:PV)(Y:AHeap):Prop:=ForR m t rng b v Z Y Q
def juC(Z:jao)(Q:KS)(v:PV)(Y:AHeap):Prop:=Q (.ret v) Z Y
def sEx(Z:jao)(Q:KS)(_:PV)(Y:AHeap):Prop:=Q .next Z Y
def sq1(b:VS)(m:Nat)(Q:KS)(Z:jao)(Y:AHeap):Prop:=b m Z Y Q
def sq(b:VS)(m:Nat)(Q:KS):KS:=fk' (sq1 b m Q) Q
def Sts.r(b:Sts):VS:=Sts.rec (motive_1:=fun _=>VS) (motive_2:=fun _=>VS)
 (fun i e=>fun m Z Y Q=>e.r m Z Y (jp9 i Z Q))
 (fun i j e=>fun m Z Y Q=>e.r m Z Y (juD i j Z Q))
 (fun o k e=>fun m Z Y Q=>e.r m Z Y (k2 o.r m Z (jeZ k (kS Q Z))))
 (fun o i e=>fun m Z Y Q=>e.r m Z Y (k3 o.r i.r m Z (jhL (kS Q Z))))
 (fun i op e=>fun m Z Y Q=>lc Z i (juA op i e.r m Z Y Q))
 (fun o k op e=>fun m Z Y Q=>o.r m Z Y (juz k op e.r m Z Q))
 (fun c _ _ a b=>fun m Z Y Q=>c.r m Z Y (sIf a b m Z Q))
 (fun c _ b=>fun m Z Y Q=>WhR m c.r b Z Y Q)
 (fun t it rng _ b=>fun m Z Y Q=>it.r m Z Y (juB m t rng b Z Q))
 (fun e=>fun m Z Y Q=>e.r m Z Y (juC Z Q))
 (fun _ Z Y Q=>Q (.ret .none) Z Y)
 (fun e=>fun m Z Y Q=>e.r m Z Y (sEx Z Q))
 (fun _ Z Y Q=>Q .next Z Y)
 (fun _ _ a b=>fun m Z Y Q=>a m Z Y (sq b m Q)) b
def cl(Q:K2)(fl:Fl)(_:jao)(Y:AHeap):Prop:=Fl.rec (motive:=fun _=>Prop) (Q .none Y) (fun r=>Q r Y) fl
def jsl(b:Sts):Nat->St:=Sts.rec (motive_1:=fun _=>Unit) (motive_2:=fun _=>Nat->St) (fun _ _=>()) (fun _ _ _=>()) (fun _ _ _=>()) (fun _ _ _=>()) (fun _ _ _=>()) (fun _ _ _ _=>()) (fun _ _ _ _ _=>()) (fun _ _ _=>()) (fun _ _ _ _ _=>()) (fun _=>()) () (fun _=>()) (fun _=>.retNone) (fun s ss _ ih n=>Nat.rec (motive:=fun _=>St) s (fun m _=>ih m) n) b
noncomputable def whC:St->Ex
 | .while c _=>c
 | _=>.none
noncomputable def whB:St->Sts
 | .while _ b=>b
 | _=>.nil
def jfO(b:Sts):Nat->Sts:=Sts.rec (motive_1:=fun _=>Unit) (motive_2:=fun _=>Nat->Sts) (fun _ _=>()) (fun _ _ _=>()) (fun _ _ _=>()) (fun _ _ _=>()) (fun _ _ _=>()) (fun _ _ _ _=>()) (fun _ _ _ _ _=>()) (fun _ _ _=>()) (fun _ _ _ _ _=>()) (fun _=>()) () (fun _=>()) (fun _=>.nil) (fun s ss _ ih n=>Nat.rec (motive:=fun _=>Sts) (.cons s ss) (fun m _=>ih m) n) b
noncomputable def foB:St->Sts
 | .for _ _ _ b=>b
 | _=>.nil
section
variable{m:Nat}{Z:jao}{Y:AHeap}
theorem jmt{b:Bool}{X:Prop}(q:gd b X):b=true/\X:=by cases b<;>first | exact⟨rfl,q⟩ | exact q.elim
theorem jbH{p:Prop}[Decidable p]{X:Prop}(q:gd (decide p) X):p/\X:=⟨of_decide_eq_true (jmt q).1,(jmt q).2⟩
theorem jpL{a b:Nat}{X:Prop}(q:gd (ble a b) X):a<=b/\X:=⟨le_of_ble_eq_true (jmt q).1,(jmt q).2⟩
theorem jor{k:Int}{n:Nat}{X:Prop}(q:gd (blt k.toNat n) X):k<n/\X:=⟨by have:=le_of_ble_eq_true (jmt q).1;omega,(jmt q).2⟩
theorem jku{ah:Type}: ∀{xs:List ah} {i:Nat},nth xs i=xs[i]?
 | [],_=>rfl
 | x::r,0=>rfl
 | x::r,i+1=>jku (xs:=r)
theorem jeE: ∀{Z:jao} {i:Nat} {v:Option PV},up Z i v=Z.set i v
 | [],_,_=>rfl
 | x::r,0,_=>rfl
 | x::r,i+1,_=>congrArg (x:: ·) (jeE (Z:=r))
theorem jeu{ah:Type}: ∀{xs:List ah},ln xs=xs.length
 | []=>rfl
 | x::r=>congrArg Nat.succ (jeu (xs:=r))
theorem jpo{ah:Type}{o:Option ah}{f g:ah->Prop}(h: ∀x,f x->g x)(q:oO o f):oS o g:=by cases o<;>first | exact h _ q | exact q.elim
theorem jsx{i:Nat}{K:PV->Prop}(q:lc Z i K):jee Z i K:=by
 unfold lc at q
 rw[jku]at q
 exact q
theorem jjR{v:PV}{T F T' F':Prop}(h:T->T')(h':F->F')(q:ifV v T F):ifB v T' F':=by
 cases v<;>try exact q.elim
 rename_i b
 cases b
 ·exact⟨fun e=>(by cases e),fun _=>h' q⟩
 ·exact⟨fun _=>h q,fun e=>(by cases e)⟩
theorem rL{l:Nat}{f:PObj->Prop}{g h:List PV->Prop}(q:R Y l f)(e: ∀o,f o=ifL o g)(k: ∀xs,g xs->h xs):oL (Y.get l) h:=by
 obtain⟨a,q⟩:=q
 rw[e]at q
 rw[a]
 rename_i o
 cases o<;>first | exact k _ q | exact q.elim
theorem rD{l:Nat}{f:PObj->Prop}{g h:List (Int×PV)->Prop}(q:R Y l f)(e: ∀o,f o=ifD o g)(k: ∀xs,g xs->h xs):oD (Y.get l) h:=by
 obtain⟨a,q⟩:=q
 rw[e]at q
 rw[a]
 rename_i o
 cases o<;>first | exact k _ q | exact q.elim
theorem rN{l:Nat}{f:PObj->Prop}{g h:Cls->List (Option PV)->Prop}(q:R Y l f)(e: ∀o,f o=ifN o g)(k: ∀c xs,g c xs->h c xs):oN (Y.get l) h:=by
 obtain⟨a,q⟩:=q
 rw[e]at q
 rw[a]
 rename_i o
 cases o<;>first | exact k _ _ q | exact q.elim
theorem rLD{l:Nat}{f:PObj->Prop}{g h:List PV->Prop}{g' h':List (Int×PV)->Prop}(q:R Y l f)(e: ∀o,f o=jri o g g')(k: ∀xs,g xs->h xs)(k': ∀xs,g' xs->h' xs):oLD (Y.get l) h h':=by
 obtain⟨a,q⟩:=q
 rw[e]at q
 rw[a]
 rename_i o
 cases o<;>first | exact k _ q | exact k' _ q | exact q.elim
theorem rLF{l:Nat}{f:PObj->Prop}{g h:List PV->Prop}(q:R Y l f)(e: ∀o,f o=jts o g)(k: ∀xs,g xs->h xs):oLF (Y.get l) h:=by
 obtain⟨a,q⟩:=q
 rw[e]at q
 rw[a]
 rename_i o
 cases o<;>first | exact k _ q | exact q.elim
variable{Q:PV->AHeap->Prop}{K:AHeap->Prop}{a b c v:PV}
theorem joZ{k:Nat}(q:joV k Q v Y):jey k v Y fun x=>Q x Y:=
 jb5 q fun l q=>rN q (fun _=>rfl) fun c fs q=>⟨(jpL q).1,jsx (jpL q).2⟩
theorem jii{k:Nat}(q:jeZ k K a v Y):jbO k v a Y K:=
 jb5 q fun l q=>rN q (fun _=>rfl) fun c fs q=>⟨(jpL q).1,by
  have:=(jmt (jpL q).2)
  rw[jeu,jeE]at this
  exact⟨le_of_ble_eq_true this.1,this.2⟩⟩
theorem jq4(q:jqG Q a b Y):jgD a b Y fun x=>Q x Y:=
 jcF q fun k q=>jgA q (fun l q=>rLD q (fun _=>rfl) (fun xs q=>⟨(jbH q).1,jpo (fun _=>id) (jbH q).2⟩) fun es q=>jpo (fun _=>id) q) fun xs q=>
  ⟨(jbH q).1,(jor (jbH q).2).1,by have:=(jor (jbH q).2).2;rw[jku]at this;exact jpo (fun _=>id) this⟩
theorem jmO(q:jhL K c a b Y):jck a b c Y K:=
 jcF q fun k q=>jb5 q fun l q=>rLD q (fun _=>rfl) (fun xs q=>⟨(jbH q).1,(jbH (jbH q).2).1,(jbH (jbH q).2).2⟩) fun es q=>jbH q
theorem jmP(q:jhM Q a b Y):jcl a b Y Q:=
 jcF q fun k q=>jgA q (fun l q=>rLF q (fun _=>rfl) fun xs q=>⟨(jbH q).1,(jor (jbH q).2).1,jbH (jor (jbH q).2).2⟩) fun xs q=>⟨(jbH q).1,(jbH (jbH q).2).1,jbH (jbH (jbH q).2).2⟩
theorem jjY(q:jen Q a b Y):jbD a b Y Q:=
 jcF q fun k q=>jb5 q fun l q=>rL q (fun _=>rfl) fun xs q=>⟨(jbH q).1,(jor (jbH q).2).1,jbH (jor (jbH q).2).2⟩
theorem jst(q:juG Q a b Y):jru a b Y Q:=by
 cases a with
 | int x=>exact q
 | str x=>exact jrt q fun y q=>jbH q
 | ref l=>exact jb5 q fun r q=>rL q (fun _=>rfl) fun xs q=>rL q (fun _=>rfl) fun ys q=>jbH q
 | _=>exact q.elim
theorem jsu{op:Bop}(q:jtd op Q a b Y):jl2 op a b Y Q:=by
 cases op with
 | add=>exact jst q
 | sub=>exact q
 | mul=>exact jbT q fun x y q=>⟨⟨(jbH q).1,(jor (jbH q).2).1⟩,(jor (jbH q).2).2⟩
 | div=>exact jbT q fun x y q=>⟨(jbH q).1,jor (jbH q).2⟩
 | mod=>exact jbT q fun x y q=>jbH q
 | shr=>exact jbT q fun x y q=>⟨(jbH q).1,(jbH (jbH q).2).1,jbH (jbH (jbH q).2).2⟩
 | pow=>exact jbT q fun x y q=>⟨(jbH q).1,(jbH (jbH q).2).1,jbH (jbH (jbH q).2).2⟩
theorem juM(q:xEq Q a b Y):jl6 a b Y fun e=>Q (.bool e) Y:=by
 cases a with
 | none=>exact q.1
 | bool _=>exact q.1
 | ref _=>exact q.1
 | int x=>obtain⟨y,rfl,q⟩:=jeL q;exact q
 | str x=>obtain⟨y,rfl,q⟩:=jpZ q;exact q
 | tup xs=>
  obtain⟨e,h,q⟩:=jkv (jpo (fun _=>id) q)
  unfold jl6
  dsimp only
  rw[h]
  exact q
theorem juN(q:xNe Q a b Y):jmx a b Y fun e=>Q (.bool e) Y:=by
 cases a with
 | none=>exact q.1
 | bool _=>exact q.1
 | ref _=>exact q.1
 | tup _=>exact q.1
 | int x=>obtain⟨y,rfl,q⟩:=jeL q;exact q
 | str x=>obtain⟨y,rfl,q⟩:=jpZ q;exact q
theorem jtq{K:Bool->Prop}(q:xIn K a b Y):jqQ a b Y K:=
 jcF q fun k q=>jb5 q fun l q=>rLD q (fun _=>rfl) (fun xs q=>jpo (fun _=>id) q) fun es ⟨h,q⟩=>h▸q
theorem jro:jrj a=a.isNone:=by cases a<;>rfl
theorem jsv{op:Cop}(q:jte op Q a b Y):jl4 op a b Y fun r=>Q r Y:=by
 cases op with
 | eq=>exact juM q
 | ne=>exact juN q
 | isin=>exact jtq q
 | notin=>exact jtq q
 | is=>obtain⟨rfl,q2⟩:=jc4 q;rw[jro]at q2;exact q2
 | isnot=>obtain⟨rfl,q2⟩:=jc4 q;rw[jro]at q2;exact q2
 | _=>exact q
theorem jq5{vs:List PV}(q:jqH Q vs Y):vs.length<=sizeLine/\Q (.ref Y.sz) (Y.alloc (.list vs)):=by have:=jpL q;rw[jeu]at this;exact this
theorem jsC{vs:List PV}(q:jtk Q vs Y):vs.length<=sizeLine/\Q (.tup vs) Y:=by have:=jpL q;rw[jeu]at this;exact this
theorem jsy(q:jtg Q v Y):jl8 v Y fun x=>Q x Y:=
 jgA q (fun l q=>rLD q (fun _=>rfl) (fun xs q=>jbH q) fun es q=>q) fun xs q=>by have:=jpL q;rw[jeu]at this;exact this
theorem joj(q:jkS Q v Y):jc6 v Y Q:=jb5 q fun l q=>rD q (fun _=>rfl) fun es q=>jbH q
theorem jsA(q:jtj Q v Y):jmc v fun x=>Q x Y:=jcF q fun i q=>⟨(jbH q).1,jbH (jbH q).2⟩
theorem jps(q:jn4 Q v Y):jeg v Y fun x=>Q x Y:=jb5 q fun l q=>rL q (fun _=>rfl) fun xs q=>jbH q
theorem jog(q:jn3 K v a Y):jbv v a Y K:=jb5 q fun l q=>rL q (fun _=>rfl) fun xs q=>jbH q
theorem jsz(q:jti Q v Y):jdy v Y/\jma v Y Q:=
 ⟨jb5 q fun l q=>rL q (fun _=>rfl) fun _ _=>trivial,jb5 q fun l q=>rL q (fun _=>rfl) fun xs ⟨h,q⟩=>by
  subst h
  rw[List.getLast?_concat,List.dropLast_concat]
  exact q⟩
theorem jq1(q:jtf Q v a b Y):jjb v a b Y fun x=>Q x Y:=jb5 q fun l q=>jcF q fun k q=>rD q (fun _=>rfl) fun es ⟨h,q⟩=>h▸q
theorem jq3{X:Prop}(q:v.onR fun l=>R Y l (jtr X)):jdy v Y/\X:=by
 obtain⟨l,rfl,q⟩:=jcG q
 exact⟨rL q (fun _=>rfl) fun _ _=>trivial,(jo9 (rL q (fun _=>rfl) fun _=>id)).elim fun _ h=>h.2⟩
theorem joh{X:Prop}(q:v.onR fun l=>R Y l (jsI X)):jdx v Y/\X:=by
 obtain⟨l,rfl,q⟩:=jcG q
 exact⟨rD q (fun _=>rfl) fun _ _=>trivial,(jrs (rD q (fun _=>rfl) fun _=>id)).elim fun _ h=>h.2⟩
theorem jq2{c:Cls}{X:Prop}(q:v.onR fun l=>R Y l (jm0 c X)):jnc c v Y/\X:=by
 obtain⟨l,rfl,q⟩:=jcG q
 exact⟨rN q (fun _=>rfl) fun _ _ q=>(jbH q).1,(jsj (rN q (fun _=>rfl) fun _ _=>id)).elim fun _ h=>h.elim fun _ h=>(jbH h.2).2⟩
theorem jsg{t:Tgt}{x:PV}{K:jao->Prop}(q:bT t x Z K):jd4 t x Z K:=by
 cases t with
 | one i=>have:=jmt (show gd (blt i (ln Z)) (K (up Z i (some x))) from q);rw[jeu,jeE]at this;exact⟨le_of_ble_eq_true this.1,this.2⟩
 | two i j=>
  cases x with
  | tup xs=>
   obtain⟨a,ha,q1⟩:=jkv (jpo (fun _=>id) (show oO (nth xs 0) _ from q))
   obtain⟨b,hb,q2⟩:=jkv (jpo (fun _=>id) q1)
   obtain⟨h2,q3⟩:=jmt q2
   obtain⟨h3,q4⟩:=jmt q3
   obtain⟨h4,q5⟩:=jmt q4
   rw[jeu]at h2 h3 h4
   rw[jeE,jeE]at q5
   match xs,ha,hb,h2 with
   | [_,_],ha,hb,_=>
    cases ha;cases hb
    exact⟨le_of_ble_eq_true h3,le_of_ble_eq_true h4,q5⟩
  | _=>exact q.elim
end
def Exs.r3(e:Exs):VL×V×V:=Exs.rec (motive_1:=fun _=>V) (motive_2:=fun _=>VL×V×V)
 (fun _ _ Y Q=>Q .none Y)
 (fun b=>fun _ _ Y Q=>Q (.bool b) Y)
 (fun i=>fun _ _ Y Q=>Q (.int i) Y)
 (fun s=>fun _ _ Y Q=>Q (.str (Str.ofString s)) Y)
 (fun i=>fun _ Z Y Q=>lc Z i (atK Q Y))
 (fun _ i=>fun _ _ Y Q=>Q (.int i) Y)
 (fun _ k a=>fun m Z Y Q=>a m Z Y (joV k Q))
 (fun _ _ a b=>fun m Z Y Q=>a m Z Y (k2 b m Z (jqG Q)))
 (fun _ _ a b=>fun m Z Y Q=>a m Z Y (k2 b m Z (jhM Q)))
 (fun _ _ a b=>fun m Z Y Q=>a m Z Y (k2 b m Z (jen Q)))
 (fun op _ _ a b=>fun m Z Y Q=>a m Z Y (k2 b m Z (jtd op Q)))
 (fun op _ _ a b=>fun m Z Y Q=>a m Z Y (k2 b m Z (jte op Q)))
 (fun _ a=>fun m Z Y Q=>a.2.1 m Z Y Q)
 (fun _ a=>fun m Z Y Q=>a.2.2 m Z Y Q)
 (fun _ a=>fun m Z Y Q=>a m Z Y (juI Q))
 (fun _ a=>fun m Z Y Q=>a.1 m Z Y (jqH Q))
 (fun _ a=>fun m Z Y Q=>a.1 m Z Y (jtk Q))
 (fun _ _ Y Q=>Q (.ref Y.sz) (Y.alloc (.dict [])))
 (fun _ _ a b=>fun m Z Y Q=>a m Z Y (k2 b m Z (jpd Q)))
 (fun slot _ _ rng _ elt it cond=>fun m Z Y Q=>it m Z Y (jr9 m slot elt rng cond.2.1 Z Q))
 (fun f _ a=>fun m Z Y Q=>a.1 m Z Y (jr8 m f Q))
 (fun c f _ a=>fun m Z Y Q=>a.1 m Z Y (juH m c f Q))
 (fun _ a=>fun m Z Y Q=>a m Z Y (jtg Q))
 (fun _ a=>fun m Z Y Q=>a m Z Y (jkS Q))
 (fun _ a=>fun m Z Y Q=>a m Z Y (jtj Q))
 (fun _ a=>fun m Z Y Q=>a m Z Y (jn4 Q))
 (fun _ _ a b=>fun m Z Y Q=>a m Z Y (jr7 b m Z Q))
 (fun _ a=>fun m Z Y Q=>a m Z Y (jti Q))
 (fun _ _ a b=>fun m Z Y Q=>a m Z Y (jsa b m Z Q))
 (fun _ _ _ a b c=>fun m Z Y Q=>a m Z Y (jsb b c m Z Q))
 (fun f _ _ a b=>fun m Z Y Q=>a m Z Y (jsc f b m Z Q))
 ⟨fun _ _ Y Q=>Q [] Y,fun _ _ Y Q=>Q (.bool true) Y,fun _ _ Y Q=>Q (.bool false) Y⟩
 (fun _ _ a b=>⟨fun m Z Y Q=>a m Z Y (kE b.1 m Z Q),fun m Z Y Q=>a m Z Y (jtt b.2.1 m Z Q),fun m Z Y Q=>a m Z Y (kOr b.2.2 m Z Q)⟩) e
theorem juU{Y:AHeap}{l:Nat}{o:PObj}(h:Y.get l=some o):l<Y.sz:=(List.getElem?_eq_some_iff.mp h).1
theorem jrg{Y:AHeap}{l:Nat}{o:PObj}(h:l<Y.sz):(Y.set l o).get l=some o:=List.getElem?_set_self h
section
variable{m:Nat}{Z:jao}{Y:AHeap}
theorem jlW{N N':jao->AHeap->Prop}{Q:KS}(h: ∀Z Y,N Z Y->N' Z Y)(fl:Fl)(Z:jao)(Y:AHeap):fk' N Q fl Z Y->(match fl with | .next=>N' Z Y | .ret r=>Q (.ret r) Z Y):=by
 intro q
 cases fl with
 | next=>exact h _ _ q
 | ret r=>exact q
theorem jsw{t:Tgt}{rng:Bool}{b:Sts}{v:PV}{Q:KS}(hb: ∀Z Y Q,b.r m Z Y Q->b.wp (Ok P m) Z Y Q)(q:ForR m t rng b.r v Z Y Q):
  ∃(I:Nat->jao->AHeap->Prop) (N:Nat),I 0 Z Y/\∀i Z' Y',I i Z' Y'->i<=N/\∃xs,jam rng v Y'=some xs/\
    (match xs[i]? with
     | Option.none=>Q .next Z' Y'
     | some x=>jd4 t x Z' fun aV=>b.wp (Ok P m) aV Y' fun fl aJ ai=>match fl with
      | .next=>I (i+1) aJ ai
      | .ret r=>Q (.ret r) aJ ai):=by
 cases q with
 | mk xs J h0 hx hs fin=>
  refine⟨fun i Z Y=>i<=xs.length/\J i Z Y,xs.length,⟨zero_le _,h0⟩,fun i Z' Y' ⟨hi,hJ⟩=>⟨hi,xs,hx i Z' Y' hJ,?_⟩⟩
  cases hxi:xs[i]? with
  | none=>exact fin _ _ (Nat.le_antisymm hi (List.getElem?_eq_none_iff.mp hxi)▸hJ)
  | some x=>exact jch (fun aV h=>jaR (jaw P m) b (jlW fun _ _ h=>⟨(List.getElem?_eq_some_iff.mp hxi).1,h⟩) (hb _ _ _ h)) (jsg (hs i x Z' Y' hxi hJ))
 | un xs hx q=>
  refine⟨fun i Z Y=>i<=xs.length/\unR t b.r m Q (xs.drop i) Z Y,xs.length,⟨zero_le _,q⟩,fun i Z' Y' ⟨hi,hJ⟩=>⟨hi,xs,hx Y',?_⟩⟩
  cases hxi:xs[i]? with
  | none=>
   rw[List.drop_eq_nil_of_le (List.getElem?_eq_none_iff.mp hxi)]at hJ
   exact hJ
  | some x=>
   have hl:=(List.getElem?_eq_some_iff.mp hxi).1
   rw[List.drop_eq_getElem_cons hl,(List.getElem?_eq_some_iff.mp hxi).2]at hJ
   exact jch (fun aV h=>jaR (jaw P m) b (jlW fun _ _ h=>⟨hl,h⟩) (hb _ _ _ h)) (jsg hJ)
 | dy J n h0 hs=>
  refine⟨J,n,h0,fun i Z' Y' hJ=>?_⟩
  obtain⟨hi,xs,hx,q⟩:=hs i Z' Y' hJ
  refine⟨hi,xs,hx,?_⟩
  cases hxi:xs[i]? with
  | none=>rw[hxi]at q;exact q
  | some x=>rw[hxi]at q;exact jch (fun aV h=>jaR (jaw P m) b (jlW fun _ _=>id) (hb _ _ _ h)) (jsg q)
theorem juO{c:Ex}{b:Sts}{Q:KS}(hc: ∀Z Y Q,c.r m Z Y Q->c.wp (Ok P m) Z Y Q)(hb: ∀Z Y Q,b.r m Z Y Q->b.wp (Ok P m) Z Y Q)(q:WhR m c.r b.r Z Y Q):
  ∃(I:Nat->jao->AHeap->Prop) (aY:Nat),I aY Z Y/\∀n Z' Y',I n Z' Y'->
   c.wp (Ok P m) Z' Y' fun v af=>ifB v
    (b.wp (Ok P m) Z' af fun fl aJ ai=>match fl with
     | .next=>∃m,m<n/\I m aJ ai
     | .ret r=>Q (.ret r) aJ ai)
    (Q .next Z' af):=by
 cases q with
 | mk I aY h0 hs=>exact⟨I,aY,h0,fun n Z' Y' h=>jab (jaw P m) c (fun v Y q=>jjR (fun q=>jaR (jaw P m) b (jlW fun _ _=>id) (hb _ _ _ q)) id q) (hc _ _ _ (hs n Z' Y' h))⟩
 | tn n h=>
  refine⟨fun n Z Y=>tnR m c.r b.r Q n Z Y,n,h,fun n Z' Y' h=>?_⟩
  cases n with
  | zero=>exact h.elim
  | succ n=>exact jab (jaw P m) c (fun v Y q=>jjR (fun q=>jaR (jaw P m) b (jlW fun _ _ q=>⟨n,lt_succ_self n,q⟩) (hb _ _ _ q)) id q) (hc _ _ _ h)
theorem jqZ{slot:Nat}{elt:Ex}{rng:Bool}{cond:Exs}{v:PV}{Q:K2}(he: ∀Z Y Q,elt.r m Z Y Q->elt.wp (Ok P m) Z Y Q)(hc: ∀Z Y Q,cond.r3.2.1 m Z Y Q->cond.wpAnd (Ok P m) Z Y Q)(q:CmR m slot elt.r rng cond.r3.2.1 v Z Y Q):
  ∃(I:Nat->AHeap->Prop) (N:Nat),I 0 (Y.alloc (.list []))/\∀i Y',I i Y'->i<=N/\∃xs,jam rng v Y'=some xs/\
    (match xs[i]? with
     | Option.none=>Q (.ref Y.sz) Y'
     | some x=>cond.wpAnd (Ok P m) (Z.set slot (some x)) Y' fun b ai=>
      ifB b (elt.wp (Ok P m) (Z.set slot (some x)) ai fun y aI=>jbv (.ref Y.sz) y aI fun aZ=>I (i+1) aZ) (I (i+1) ai)):=by
 obtain⟨xs,J,h0,hx,hs,fin⟩:=q
 refine⟨fun i Y'=>i<=xs.length/\∃ys,Y'.get Y.sz=some (.list ys)/\J i ys Y',xs.length,⟨zero_le _,[],List.getElem?_concat_length,h0⟩,fun i Y' ⟨hi,ys,hy,hJ⟩=>⟨hi,xs,hx i ys Y' hJ,?_⟩⟩
 cases hxi:xs[i]? with
 | none=>exact fin ys _ hy (Nat.le_antisymm hi (List.getElem?_eq_none_iff.mp hxi)▸hJ)
 | some x=>
  have hl:=(List.getElem?_eq_some_iff.mp hxi).1
  have q:=hs i x ys Y' hxi hy hJ
  rw[jeE]at q
  refine jdf (jaw P m) cond (fun v ai q=>jjR (fun q=>jab (jaw P m) elt (fun y aI q=>?_) (he _ _ _ q)) (fun q=>⟨hl,ys,q⟩) q) (hc _ _ _ q)
  show oL _ _
  rw[q.1]
  exact⟨q.2.1,hl,ys++ [y],jrg (juU q.1),q.2.2⟩
theorem b_E(e:Ex): ∀Z Y Q,e.r m Z Y Q->e.wp (Ok P m) Z Y Q:=Ex.rec (motive_1:=fun e=>∀Z Y Q,e.r m Z Y Q->e.wp (Ok P m) Z Y Q)
 (motive_2:=fun es=>(∀ Z Y Q,es.r3.1 m Z Y Q->es.wp (Ok P m) Z Y Q)/\(∀ Z Y Q,es.r3.2.1 m Z Y Q->es.wpAnd (Ok P m) Z Y Q)/\∀Z Y Q,es.r3.2.2 m Z Y Q->es.wpOr (Ok P m) Z Y Q)
 (fun _ _ _ q=>q)
 (fun _ _ _ _ q=>q)
 (fun _ _ _ _ q=>q)
 (fun _ _ _ _ q=>q)
 (fun _ _ _ _ q=>jsx q)
 (fun _ _ _ _ _ q=>q)
 (fun a k ha _ _ _ q=>jab (jaw P m) a (fun _ _=>joZ) (ha _ _ _ q))
 (fun a b ha hb _ _ _ q=>jab (jaw P m) a (fun _ _ q=>jab (jaw P m) b (fun _ _=>jq4) (hb _ _ _ q)) (ha _ _ _ q))
 (fun a b ha hb _ _ _ q=>jab (jaw P m) a (fun _ _ q=>jab (jaw P m) b (fun _ _=>jmP) (hb _ _ _ q)) (ha _ _ _ q))
 (fun a b ha hb _ _ _ q=>jab (jaw P m) a (fun _ _ q=>jab (jaw P m) b (fun _ _=>jjY) (hb _ _ _ q)) (ha _ _ _ q))
 (fun op a b ha hb _ _ _ q=>jab (jaw P m) a (fun _ _ q=>jab (jaw P m) b (fun _ _=>jsu) (hb _ _ _ q)) (ha _ _ _ q))
 (fun op a b ha hb _ _ _ q=>jab (jaw P m) a (fun _ _ q=>jab (jaw P m) b (fun _ _=>jsv) (hb _ _ _ q)) (ha _ _ _ q))
 (fun es hs _ _ _ q=>hs.2.1 _ _ _ q)
 (fun es hs _ _ _ q=>hs.2.2 _ _ _ q)
 (fun a ha _ _ _ q=>jab (jaw P m) a (fun _ _=>jjR id id) (ha _ _ _ q))
 (fun es hs _ _ _ q=>jbf (jaw P m) es (fun _ _=>jq5) (hs.1 _ _ _ q))
 (fun es hs _ _ _ q=>jbf (jaw P m) es (fun _ _=>jsC) (hs.1 _ _ _ q))
 (fun _ _ _ q=>q)
 (fun a b ha hb _ _ _ q=>jab (jaw P m) a (fun _ _ q=>jab (jaw P m) b (fun _ _ q=>q) (hb _ _ _ q)) (ha _ _ _ q))
 (fun slot elt it rng cond he hi hc _ _ _ q=>jab (jaw P m) it (fun _ _=>jqZ he hc.2.1) (hi _ _ _ q))
 (fun f es hs _ _ _ q=>jbf (jaw P m) es (fun _ _ ⟨q⟩=>q) (hs.1 _ _ _ q))
 (fun c f es hs _ _ _ q=>jbf (jaw P m) es (fun _ _ ⟨q⟩=>q) (hs.1 _ _ _ q))
 (fun a ha _ _ _ q=>jab (jaw P m) a (fun _ _=>jsy) (ha _ _ _ q))
 (fun a ha _ _ _ q=>jab (jaw P m) a (fun _ _=>joj) (ha _ _ _ q))
 (fun a ha _ _ _ q=>jab (jaw P m) a (fun _ _=>jsA) (ha _ _ _ q))
 (fun a ha _ _ _ q=>jab (jaw P m) a (fun _ _=>jps) (ha _ _ _ q))
 (fun a b ha hb _ _ _ q=>jab (jaw P m) a (fun _ _ q=>⟨(jq3 q).1,jab (jaw P m) b (fun _ _=>jog) (hb _ _ _ (jq3 q).2)⟩) (ha _ _ _ q))
 (fun a ha _ _ _ q=>jab (jaw P m) a (fun _ _=>jsz) (ha _ _ _ q))
 (fun a b ha hb _ _ _ q=>jab (jaw P m) a (fun _ _ q=>⟨(joh q).1,jab (jaw P m) b (fun _ _=>jq1) (hb _ _ _ (joh q).2)⟩) (ha _ _ _ q))
 (fun a b c ha hb hc _ _ _ q=>jab (jaw P m) a (fun _ _ q=>⟨(joh q).1,jab (jaw P m) b (fun _ _ q=>jab (jaw P m) c (fun _ _=>jq1) (hc _ _ _ q)) (hb _ _ _ (joh q).2)⟩) (ha _ _ _ q))
 (fun f a b ha hb _ _ _ q=>jab (jaw P m) a (fun _ _ q=>⟨(jq2 q).1,jab (jaw P m) b (fun _ _ ⟨q⟩=>q) (hb _ _ _ (jq2 q).2)⟩) (ha _ _ _ q))
 ⟨fun _ _ _ q=>q,fun _ _ _ q=>q,fun _ _ _ q=>q⟩
 (fun a es ha hs=>⟨fun _ _ _ q=>jab (jaw P m) a (fun _ _ q=>jbf (jaw P m) es (fun _ _ q=>q) (hs.1 _ _ _ q)) (ha _ _ _ q),fun _ _ _ q=>jab (jaw P m) a (fun _ _=>jjR (hs.2.1 _ _ _) id) (ha _ _ _ q),fun _ _ _ q=>jab (jaw P m) a (fun _ _=>jjR id (hs.2.2 _ _ _)) (ha _ _ _ q)⟩) e
def St.r(b:St):VS:=St.rec (motive_1:=fun _=>VS) (motive_2:=fun _=>VS)
 (fun i e=>fun m Z Y Q=>e.r m Z Y (jp9 i Z Q))
 (fun i j e=>fun m Z Y Q=>e.r m Z Y (juD i j Z Q))
 (fun o k e=>fun m Z Y Q=>e.r m Z Y (k2 o.r m Z (jeZ k (kS Q Z))))
 (fun o i e=>fun m Z Y Q=>e.r m Z Y (k3 o.r i.r m Z (jhL (kS Q Z))))
 (fun i op e=>fun m Z Y Q=>lc Z i (juA op i e.r m Z Y Q))
 (fun o k op e=>fun m Z Y Q=>o.r m Z Y (juz k op e.r m Z Q))
 (fun c _ _ a b=>fun m Z Y Q=>c.r m Z Y (sIf a b m Z Q))
 (fun c _ b=>fun m Z Y Q=>WhR m c.r b Z Y Q)
 (fun t it rng _ b=>fun m Z Y Q=>it.r m Z Y (juB m t rng b Z Q))
 (fun e=>fun m Z Y Q=>e.r m Z Y (juC Z Q))
 (fun _ Z Y Q=>Q (.ret .none) Z Y)
 (fun e=>fun m Z Y Q=>e.r m Z Y (sEx Z Q))
 (fun _ Z Y Q=>Q .next Z Y)
 (fun _ _ a b=>fun m Z Y Q=>a m Z Y (sq b m Q)) b
theorem jo0{b:Sts}{Z:jao}{Y:AHeap}{Q:Fl->jao->AHeap->Prop}(q:b.r m Z Y Q):b.wp (Ok P m) Z Y Q:=Sts.rec (motive_1:=fun s=>∀Z Y Q,s.r m Z Y Q->s.wp (Ok P m) Z Y Q) (motive_2:=fun b=>∀Z Y Q,b.r m Z Y Q->b.wp (Ok P m) Z Y Q)
 (fun i e _ _ _ q=>jab (jaw P m) e (fun _ _ q=>by have:=jmt (show gd _ _ from q);rw[jeu,jeE]at this;exact⟨le_of_ble_eq_true this.1,this.2⟩) (b_E e _ _ _ q))
 (fun i j e _ _ _ q=>jab (jaw P m) e (fun _ _=>jsg) (b_E e _ _ _ q))
 (fun o k e _ _ _ q=>jab (jaw P m) e (fun _ _ q=>jab (jaw P m) o (fun _ _=>jii) (b_E o _ _ _ q)) (b_E e _ _ _ q))
 (fun o i e _ _ _ q=>jab (jaw P m) e (fun _ _ q=>jab (jaw P m) o (fun _ _ q=>jab (jaw P m) i (fun _ _=>jmO) (b_E i _ _ _ q)) (b_E o _ _ _ q)) (b_E e _ _ _ q))
 (fun i op e _ _ _ q=>by
  obtain⟨v,h,q⟩:=jhm (jsx q)
  refine(show jee _ _ _ from ?_)
  unfold jee
  rw[h]
  exact jab (jaw P m) e (fun _ _=>jc5 fun _ q=>by rw[<- jeE];exact q) (b_E e _ _ _ q))
 (fun o k op e _ _ _ q=>jab (jaw P m) o (fun _ _ q=>jdA (fun _ q=>jab (jaw P m) e (fun _ _=>jc5 fun _=>jii) (b_E e _ _ _ q)) (joZ q)) (b_E o _ _ _ q))
 (fun c a b ha hb _ _ _ q=>jab (jaw P m) c (fun _ _=>jjR (ha _ _ _) (hb _ _ _)) (b_E c _ _ _ q))
 (fun c b hb _ _ _ q=>juO (b_E c) hb q)
 (fun t it rng b hb _ _ _ q=>jab (jaw P m) it (fun _ _=>jsw hb) (b_E it _ _ _ q))
 (fun e _ _ _ q=>jab (jaw P m) e (fun _ _ q=>q) (b_E e _ _ _ q))
 (fun _ _ _ q=>q)
 (fun e _ _ _ q=>jab (jaw P m) e (fun _ _ q=>q) (b_E e _ _ _ q))
 (fun _ _ _ q=>q)
 (fun s ss hs hss _ _ _ q=>jlC (jaw P m) s (jlW fun _ _=>hss _ _ _) (hs _ _ _ q)) b Z Y Q q
end
theorem jap{m f:Nat}{args:List PV}{Y:AHeap}{Q:PV->AHeap->Prop}{fn:Fn}(h:P[f]? =some (some fn))(hl:args.length=fn.n)(q:fn.body.r m (args.map some++replicate fn.k none) Y (cl Q)):
  C (m+1) f args Y Q:=by
 refine .mk ?_
 unfold Ok
 rw[h]
 exact⟨hl,jo0 (by have e:(fun fl (_:jao) Y'=>Q fl.val Y')=cl Q:=(by funext fl Z Y;cases fl<;>rfl);rw[e];exact q)⟩
section
variable{p:Prop}{d:Decidable p}{X T F:Prop}{ah:Type}{o:Option ah}{x:ah}{f:ah->Prop}{b:Bool}
theorem rd{Y:AHeap}{l:Nat}{x:PObj}{f:PObj->Prop}(h:Y.get l=some x)(q:f x):R Y l f:=.mk h q
theorem gI(h:p)(q:X):gd (decide p) X:=by unfold gd;rw[decide_eq_true h];exact q
theorem gL6{k:Int}(h:k<1000000)(q:X):gd (blt k.toNat 1000000) X:=by
 have h:k.toNat<1000000:=by omega
 unfold gd;rw[blt_eq.mpr h];exact q
theorem gL3{k:Int}(h:k<1000)(q:X):gd (blt k.toNat 1000) X:=by
 have h:k.toNat<1000:=by omega
 unfold gd;rw[blt_eq.mpr h];exact q
theorem gB(h:b=true)(q:X):gd b X:=by subst h;exact q
theorem oI(h:o=some x)(q:f x):oO o f:=by subst h;exact q
theorem cD(t:p->T)(f: ¬p->F):cn (decide p) T F:=by
 unfold cn
 by_cases h:p
 ·rw[decide_eq_true h];exact t h
 ·rw[decide_eq_false h];exact f h
theorem cN(t: ¬p->T)(f:p->F):cn (!(decide p)) T F:=by
 unfold cn
 by_cases h:p
 ·rw[decide_eq_true h];exact f h
 ·rw[decide_eq_false h];exact t h
theorem cB(t:b=true->T)(f:b=false->F):cn b T F:=by
 cases b
 ·exact f rfl
 ·exact t rfl
theorem cNB(t:b=false->T)(f:b=true->F):cn (!b) T F:=by
 cases b
 ·exact t rfl
 ·exact f rfl
end
section
variable{m:Nat}{t:Tgt}{b:VS}{Z:jao}{Y:AHeap}{Q:Fl->jao->AHeap->Prop}{ah:Type}{f:ah->PV}{lx:Nat}
theorem jfB{l:List ah}{i:Nat}{x:PV}(h:(l.map f)[i]? =some x): ∃t,l[i]? =some t/\x=f t:=by
 rw[getElem?_map,Option.map_eq_some_iff]at h
 let ⟨t,a,b⟩:=h
 exact⟨t,a,b.symm⟩
theorem jhy{l:Nat}{xs:List PV}{Y:AHeap}(h:Y.get l=some (.list xs)):jam false (.ref l) Y=some xs:=by
 unfold jam jbt
 dsimp only
 rw[h]
theorem jcr(xs:List ah)(J:Nat->jao->AHeap->Prop)(hx: ∀i Z' Y',J i Z' Y'->Y'.get lx=some (.list (xs.map f)))(h0:J 0 Z Y)
  (hs: ∀i x Z' Y',xs[i]? =some x->J i Z' Y'->bT t (f x) Z' (sFb b m Y' (J (i+1)) Q))
  (fin: ∀Z' Y',J xs.length Z' Y'->Q .next Z' Y'):ForR m t false b (.ref lx) Z Y Q:=
 .mk (xs.map f) J h0 (fun i Z' Y' h=>jhy (hx i Z' Y' h)) (fun i x Z' Y' h j=>by
  let ⟨y,e,e'⟩:=jfB h
  rw[e'];exact hs i y Z' Y' e j) (by rw[length_map];exact fin)
theorem jjm{n:Nat}{Y:AHeap}(h:n<1000000):jam true (.int n) Y=some ((List.range n).map fun(k:Nat)=>PV.int (k:Int)):=by
 unfold jam
 dsimp only
 rw[if_pos ⟨natCast_nonneg n,Int.ofNat_le.mpr (le_of_lt h)⟩,Int.toNat_natCast]
theorem jm5{n:Nat}{v:PV}(e:v= .int n)(hn:n<1000000)(J:Nat->jao->AHeap->Prop)(h0:J 0 Z Y)
  (hs: ∀i Z' Y',i<n->J i Z' Y'->bT t (.int i) Z' (sFb b m Y' (J (i+1)) Q))
  (fin: ∀Z' Y',J n Z' Y'->Q .next Z' Y'):ForR m t true b v Z Y Q:=
 .mk ((List.range n).map fun(k:Nat)=>PV.int (k:Int)) J h0 (fun i Z' Y' h=>e▸jjm hn) (fun i x Z' Y' h j=>by
  let ⟨y,a,e'⟩:=jfB h
  have hi:=(List.getElem?_eq_some_iff.mp a).1
  have e1:=(List.getElem?_eq_some_iff.mp a).2
  rw[length_range]at hi
  have hy:y=i:=by simpa using e1.symm
  rw[e',hy];exact hs i Z' Y' hi j) (by rw[length_map,length_range];exact fin)
theorem cmL{slot:Nat}{elt cond:V}{Q:K2}(xs:List ah)(J:Nat->List PV->AHeap->Prop)(hx: ∀i ys Y',J i ys Y'->Y'.get lx=some (.list (xs.map f)))(h0:J 0 [] (Y.alloc (.list [])))
  (hs: ∀i x ys Y',xs[i]? =some x->Y'.get Y.sz=some (.list ys)->J i ys Y'->cond m (up Z slot (some (f x))) Y' (cCo elt m (up Z slot (some (f x))) Y.sz ys (J (i+1))))
  (fin: ∀ys Y',Y'.get Y.sz=some (.list ys)->J xs.length ys Y'->Q (.ref Y.sz) Y'):CmR m slot elt false cond (.ref lx) Z Y Q:=
 .mk (xs.map f) J h0 (fun i ys Y' h=>jhy (hx i ys Y' h)) (fun i x ys Y' h g j=>by
  let ⟨y,e,e'⟩:=jfB h
  rw[e'];exact hs i y ys Y' e g j) (by rw[length_map];exact fin)
theorem juP{slot:Nat}{elt cond:V}{Q:K2}{n:Nat}{v:PV}(e:v= .int n)(hn:n<1000000)(J:Nat->List PV->AHeap->Prop)(h0:J 0 [] (Y.alloc (.list [])))
  (hs: ∀i ys Y',i<n->Y'.get Y.sz=some (.list ys)->J i ys Y'->cond m (up Z slot (some (.int i))) Y' (cCo elt m (up Z slot (some (.int i))) Y.sz ys (J (i+1))))
  (fin: ∀ys Y',Y'.get Y.sz=some (.list ys)->J n ys Y'->Q (.ref Y.sz) Y'):CmR m slot elt true cond v Z Y Q:=
 .mk ((List.range n).map fun(k:Nat)=>PV.int (k:Int)) J h0 (fun i ys Y' h=>e▸jjm hn) (fun i x ys Y' h g j=>by
  let ⟨y,a,e'⟩:=jfB h
  have hi:=(List.getElem?_eq_some_iff.mp a).1
  have e1:=(List.getElem?_eq_some_iff.mp a).2
  rw[length_range]at hi
  have hy:y=i:=by simpa using e1.symm
  rw[e',hy];exact hs i ys Y' hi g j) (by rw[length_map,length_range];exact fin)
theorem jo8{o:Option PV}: ∀{Z:jao} {i j:Nat},i≠j->nth (up Z i o) j=nth Z j
 | [],_,_,_=>rfl
 | x::r,0,0,h=>absurd rfl h
 | x::r,0,j+1,_=>rfl
 | x::r,i+1,0,_=>rfl
 | x::r,i+1,j+1,h=>jo8 (Z:=r) fun e=>h (congrArg (· +1) e)
theorem jo7{o:Option PV}: ∀{Z:jao} {i:Nat},i<ln Z->nth (up Z i o) i=some o
 | [],_,h=>absurd h (Nat.not_lt_zero _)
 | x::r,0,_=>rfl
 | x::r,i+1,h=>jo7 (Z:=r) (Nat.lt_of_succ_lt_succ h)
theorem jrl{o:Option PV}: ∀{Z:jao} {i:Nat},ln (up Z i o)=ln Z
 | [],_=>rfl
 | x::r,0=>rfl
 | x::r,i+1=>congrArg Nat.succ (jrl (Z:=r))
theorem jqz{o o':Option PV}: ∀{Z:jao} {i:Nat},up (up Z i o) i o'=up Z i o'
 | [],_=>rfl
 | x::r,0=>rfl
 | x::r,i+1=>congrArg (x:: ·) (jqz (Z:=r))
theorem jnX: ∀{Z:jao} {i:Nat},i<ln Z->∃x,up Z i x=Z
 | [],_,h=>absurd h (Nat.not_lt_zero _)
 | x::r,0,_=>⟨x,rfl⟩
 | x::r,i+1,h=>let ⟨y,e⟩:=jnX (Z:=r) (Nat.lt_of_succ_lt_succ h);⟨y,congrArg (x:: ·) e⟩
end
end
theorem jmz{A0 A1 A2 A3 A4 A5:Prop}{G:Prop}(h:A0/\A1/\A2/\A3/\A4/\A5)(f:A0->A1->A2->A3->A4->A5->G):G:=f h.1 h.2.1 h.2.2.1 h.2.2.2.1 h.2.2.2.2.1 h.2.2.2.2.2
theorem jsd{A0 A1 A2 A3 A4 A5 A6:Prop}{G:Prop}(h:A0/\A1/\A2/\A3/\A4/\A5/\A6)(f:A0->A1->A2->A3->A4->A5->A6->G):G:=f h.1 h.2.1 h.2.2.1 h.2.2.2.1 h.2.2.2.2.1 h.2.2.2.2.2.1 h.2.2.2.2.2.2
theorem jmB{aA:Sort _}{aH:Sort _}{aK:Sort _}{A0 A1 A2 A3 A4:aA->aH->aK->Prop}{G:Prop}(h: ∃x0 x1 x2,A0 x0 x1 x2/\A1 x0 x1 x2/\A2 x0 x1 x2/\A3 x0 x1 x2/\A4 x0 x1 x2)(f: ∀x0 x1 x2,A0 x0 x1 x2->A1 x0 x1 x2->A2 x0 x1 x2->A3 x0 x1 x2->A4 x0 x1 x2->G):G:=h.elim fun _ h=>h.elim fun _ h=>h.elim fun _ h=>f _ _ _ h.1 h.2.1 h.2.2.1 h.2.2.2.1 h.2.2.2.2
theorem juJ{aA:Sort _}{aH:Sort _}{aK:Sort _}{A0 A1 A2 A3 A4 A5:aA->aH->aK->Prop}{G:Prop}(h: ∃x0 x1 x2,A0 x0 x1 x2/\A1 x0 x1 x2/\A2 x0 x1 x2/\A3 x0 x1 x2/\A4 x0 x1 x2/\A5 x0 x1 x2)(f: ∀x0 x1 x2,A0 x0 x1 x2->A1 x0 x1 x2->A2 x0 x1 x2->A3 x0 x1 x2->A4 x0 x1 x2->A5 x0 x1 x2->G):G:=h.elim fun _ h=>h.elim fun _ h=>h.elim fun _ h=>f _ _ _ h.1 h.2.1 h.2.2.1 h.2.2.2.1 h.2.2.2.2.1 h.2.2.2.2.2
theorem jqT{aA:Sort _}{aH:Sort _}{aK:Sort _}{aP:Sort _}{A0 A1:aA->aH->aK->aP->Prop}{G:Prop}(h: ∃x0 x1 x2 x3,A0 x0 x1 x2 x3/\A1 x0 x1 x2 x3)(f: ∀x0 x1 x2 x3,A0 x0 x1 x2 x3->A1 x0 x1 x2 x3->G):G:=h.elim fun _ h=>h.elim fun _ h=>h.elim fun _ h=>h.elim fun _ h=>f _ _ _ _ h.1 h.2
theorem jso{aA:Sort _}{aH:Sort _}{aK:Sort _}{aP:Sort _}{A0 A1 A2:aA->aH->aK->aP->Prop}{G:Prop}(h: ∃x0 x1 x2 x3,A0 x0 x1 x2 x3/\A1 x0 x1 x2 x3/\A2 x0 x1 x2 x3)(f: ∀x0 x1 x2 x3,A0 x0 x1 x2 x3->A1 x0 x1 x2 x3->A2 x0 x1 x2 x3->G):G:=h.elim fun _ h=>h.elim fun _ h=>h.elim fun _ h=>h.elim fun _ h=>f _ _ _ _ h.1 h.2.1 h.2.2
theorem juK{aA:Sort _}{aH:Sort _}{aK:Sort _}{aP:Sort _}{A0 A1 A2 A3:aA->aH->aK->aP->Prop}{G:Prop}(h: ∃x0 x1 x2 x3,A0 x0 x1 x2 x3/\A1 x0 x1 x2 x3/\A2 x0 x1 x2 x3/\A3 x0 x1 x2 x3)(f: ∀x0 x1 x2 x3,A0 x0 x1 x2 x3->A1 x0 x1 x2 x3->A2 x0 x1 x2 x3->A3 x0 x1 x2 x3->G):G:=h.elim fun _ h=>h.elim fun _ h=>h.elim fun _ h=>h.elim fun _ h=>f _ _ _ _ h.1 h.2.1 h.2.2.1 h.2.2.2
theorem jBm{aA:Sort _}{aH:Sort _}{aK:Sort _}{aP:Sort _}{A0 A1 A2 A3 A4 A5 A6:aA->aH->aK->aP->Prop}{G:Prop}(h: ∃x0 x1 x2 x3,A0 x0 x1 x2 x3/\A1 x0 x1 x2 x3/\A2 x0 x1 x2 x3/\A3 x0 x1 x2 x3/\A4 x0 x1 x2 x3/\A5 x0 x1 x2 x3/\A6 x0 x1 x2 x3)(f: ∀x0 x1 x2 x3,A0 x0 x1 x2 x3->A1 x0 x1 x2 x3->A2 x0 x1 x2 x3->A3 x0 x1 x2 x3->A4 x0 x1 x2 x3->A5 x0 x1 x2 x3->A6 x0 x1 x2 x3->G):G:=h.elim fun _ h=>h.elim fun _ h=>h.elim fun _ h=>h.elim fun _ h=>f _ _ _ _ h.1 h.2.1 h.2.2.1 h.2.2.2.1 h.2.2.2.2.1 h.2.2.2.2.2.1 h.2.2.2.2.2.2
theorem joW{aA:Sort _}{aH:Sort _}{aK:Sort _}{aP:Sort _}{bD:Sort _}{bE:Sort _}{A0:aA->aH->aK->aP->bD->bE->Prop}{G:Prop}(h: ∃x0 x1 x2 x3 x4 x5,A0 x0 x1 x2 x3 x4 x5)(f: ∀x0 x1 x2 x3 x4 x5,A0 x0 x1 x2 x3 x4 x5->G):G:=h.elim fun _ h=>h.elim fun _ h=>h.elim fun _ h=>h.elim fun _ h=>h.elim fun _ h=>h.elim fun _ h=>f _ _ _ _ _ _ h
theorem jtl{aA:Sort _}{aH:Sort _}{aK:Sort _}{aP:Sort _}{bD:Sort _}{bE:Sort _}{bU:Sort _}{bV:Sort _}{bW:Sort _}{bX:Sort _}{bY:Sort _}{A0:aA->aH->aK->aP->bD->bE->bU->bV->bW->bX->bY->Prop}{G:Prop}(h: ∃x0 x1 x2 x3 x4 x5 x6 x7 x8 x9 x10,A0 x0 x1 x2 x3 x4 x5 x6 x7 x8 x9 x10)(f: ∀x0 x1 x2 x3 x4 x5 x6 x7 x8 x9 x10,A0 x0 x1 x2 x3 x4 x5 x6 x7 x8 x9 x10->G):G:=h.elim fun _ h=>h.elim fun _ h=>h.elim fun _ h=>h.elim fun _ h=>h.elim fun _ h=>h.elim fun _ h=>h.elim fun _ h=>h.elim fun _ h=>h.elim fun _ h=>h.elim fun _ h=>h.elim fun _ h=>f _ _ _ _ _ _ _ _ _ _ _ h
local macro_rules | `(tactic| walk_at "o") => `(tactic| first | lia | omega)
noncomputable section
section
variable{Y Y' Y'':AHeap}{l m:Nat}{o:PObj}
theorem jac(h:Y.get l=some o):l<Y.sz:=by
 unfold AHeap.get at h
 exact(List.getElem?_eq_some_iff.mp h).1
theorem jae(h:l<Y.sz):(Y.alloc o).get l=Y.get l:=by
 unfold AHeap.get AHeap.alloc
 exact List.getElem?_append_left h
theorem get_alloc_new:(Y.alloc o).get Y.sz=some o:=by
 unfold AHeap.get AHeap.alloc AHeap.sz
 simp
theorem jai:(Y.alloc o).sz=Y.sz+1:=by unfold AHeap.sz AHeap.alloc;simp
theorem jan:(Y.set l o).sz=Y.sz:=by unfold AHeap.sz AHeap.set;simp
theorem jad(h:l<Y.sz):(Y.set l o).get l=some o:=by
 unfold AHeap.get AHeap.set
 unfold AHeap.sz at h
 simp[h]
theorem jaa(h:l≠m):(Y.set l o).get m=Y.get m:=by
 unfold AHeap.get AHeap.set
 simp[getElem?_set_ne h]
theorem set_set{o':PObj}:(Y.set l o).set l o'=Y.set l o':=by unfold AHeap.set;simp
noncomputable def Chg(S:List Nat)(Y Y':AHeap):Prop:=Y.sz<=Y'.sz/\∀l,l<Y.sz->l∉S->Y'.get l=Y.get l
theorem Chg.refl(S:List Nat)(Y:AHeap):Chg S Y Y:=⟨le_refl _,fun _ _ _=>rfl⟩
theorem Chg.trans{S S' S'':List Nat}(a:Chg S Y Y')(b:Chg S' Y' Y'')(h1: ∀l,l∈S->l∈S'')(h2: ∀l,l∈S'->l∈S''\/Y.sz<=l):Chg S'' Y Y'':=by
 refine⟨le_trans a.1 b.1,fun l hl hn=>?_⟩
 rw[b.2 l (lt_of_lt_of_le hl a.1) (fun x=>by
  rcases h2 l x with y | y
  ·exact hn y
  ·exact o46 hl y),a.2 l hl fun x=>hn (h1 l x)]
theorem Chg.to{S:List Nat}(a:Chg S Y Y')(b:Chg S Y' Y''):Chg S Y Y'':=a.trans b (fun _ h=>h) fun _ h=>.inl h
theorem Chg.nil{S:List Nat}(a:Chg [] Y Y')(b:Chg S Y' Y''):Chg S Y Y'':=a.trans b (fun _ h=>by cases h) fun _ h=>.inl h
theorem Chg.thenNil{S:List Nat}(a:Chg S Y Y')(b:Chg [] Y' Y''):Chg S Y Y'':=a.trans b (fun _ h=>h) fun _ h=>by cases h
theorem Chg.alloc(S:List Nat)(o:PObj):Chg S Y (Y.alloc o):=⟨by rw[jai];exact o0,fun l h _=>jae h⟩
theorem Chg.set{S:List Nat}(h:m∈S):Chg S Y (Y.set m o):=⟨by rw[jan];exact le_refl _,fun l _ hn=>jaa fun e=>hn (e▸h)⟩
theorem Chg.setNew{S:List Nat}(a:Chg S Y Y')(h:Y.sz<=m):Chg S Y (Y'.set m o):=by
 refine⟨by rw[jan];exact a.1,fun l hl hn=>?_⟩
 rw[jaa (o11 h hl)]
 exact a.2 l hl hn
theorem Chg.get{S:List Nat}(a:Chg S Y Y')(h:Y.get l=some o)(hn:l∉S):Y'.get l=some o:=(a.2 l (jac h) hn).trans h
theorem Chg.get0(a:Chg [] Y Y')(h:Y.get l=some o):Y'.get l=some o:=a.get h (by simp)
end
inductive Val where
 | ref (a:Int)
 | i4 (n:Int)
 | one (a:Int)
 | two (a b:Int)
 | pl (w:Int) (z:Bool)
 | lc
noncomputable abbrev jkz (a:Int):PV:=.tup [.int 4,.int a]
noncomputable abbrev jnA (v:PV):PV:=.tup [.int 5,.int 30,.tup [.tup [.int 1,.int 7],v]]
noncomputable abbrev jrB:Bool->PV
 | true=>.tup [.int 0]
 | false=>.tup []
noncomputable def Val.pv:Val->PV
 | .ref a=>jkz a
 | .i4 n=>.tup [.int 1,.int n]
 | .one a=>jnA (jkz a)
 | .two a b=>.tup [.int 5,.int 31,.tup [jkz a,jnA (jkz b)]]
 | .pl w z=>.tup [.int 6,.tup [.int 3,.int w,jrB z]]
 | .lc=>.tup [.int 6,.tup [.int 1,.int 3,.int 0,.tup []]]
noncomputable def sOf(a:Int):Str:=Str.ofString (toString a)
noncomputable def jal:Val->List Int
 | .ref a=>if a=0 then []else [a]
 | .one a=>if a=0 then []else [a]
 | .two a b=>(if a=0 then []else [a])++(if b=0 then []else [b])
 | _=>[]
noncomputable def jat:Val->Nat
 | .one _=>3
 | .two _ _=>5
 | _=>1
noncomputable def jn9:Val->Bool
 | .one _=>true
 | .two _ _=>true
 | _=>false
theorem jas{n:Nat}(h:n<1000):n<sizeLine:=lt_trans h (by decide)
theorem ja4{n:Nat}(h:n<1000):n<=sizeLine:=le_of_lt (jas h)
theorem jkO{m:Nat}{n:Int}{Y:AHeap}{Q:PV->AHeap->Prop}(k:Q (.int (if 2+n<3 then 3 else 2+n)) Y):C (m+1) 4 [.int n] Y Q:=by
 refine jap rfl rfl ?_
 refine cD (fun h=>?_) fun h=>?_
 ·rw[if_pos h]at k;exact k
 ·rw[if_neg h]at k;exact k
noncomputable def RI(v:Val)(Y:AHeap)(n:Nat)(Z':jao)(Y':AHeap):Prop:=
 ∃(st:List Val) (fo:List Int) (x y:Option PV),n=(st.map jat).sum/\Z'= [some v.pv,some (.ref Y.sz),some (.ref (Y.sz+1)),x,y]/\Chg [] Y Y'/\Y.sz+1<Y'.sz/\
   Y'.get Y.sz=some (.list (fo.map .int))/\Y'.get (Y.sz+1)=some (.list (st.map Val.pv))/\fo++st.reverse.flatMap jal=jal v/\fo.length+(st.map jat).sum<100
theorem jnB{a}:(Val.ref a).pv=jkz a:=rfl
theorem jsT{a}:(Val.i4 a).pv= .tup [.int 1,.int a]:=rfl
theorem jrC{a}:(Val.one a).pv=jnA (jkz a):=rfl
theorem jgN{v:Val}{Y Y':AHeap}{st:List Val}{fo:List Int}{top:Val}{x y:Option PV}{W:Nat}(extra:List Val)(found:List Int)(hc:Chg [] Y Y')(hz:Y.sz+1<Y'.sz)(hf:Y'.get Y.sz=some (.list ((fo++found).map .int)))(hs:Y'.get (Y.sz+1)=some (.list ((st++extra).map Val.pv)))
  (hr:fo++(st++ [top]).reverse.flatMap jal=jal v) (hb:fo.length+((st++ [top]).map jat).sum<100) (he:found++extra.reverse.flatMap jal=jal top) (hw:found.length+(extra.map jat).sum<=jat top) (hw':(extra.map jat).sum<jat top)
  (hW:W=(st.map jat).sum+jat top):
  ∃m,m<W/\RI v Y m [some v.pv,some (.ref Y.sz),some (.ref (Y.sz+1)),x,y] Y':=by
 refine⟨((st++extra).map jat).sum,?_,st++extra,fo++found,x,y,rfl,rfl,hc,hz,hf,hs,?_,?_⟩
 ·subst hW;simp;exact o21 hw'
 ·rw[<- hr]
  simp[<- he]
 ·simp at hb ⊢
  exact jv2 hw hb
theorem jji{m:Nat}{v:Val}{Y:AHeap}{Q:Fl->jao->AHeap->Prop}(hv:jn9 v=true)(k: ∀Y' x y,Chg [] Y Y'->Y'.get Y.sz=some (.list ((jal v).map .int))->Q .next [some v.pv,some (.ref Y.sz),some (.ref (Y.sz+1)),x,y] Y'):
  WhR m (whC (jsl je6 4)).r (whB (jsl je6 4)).r [some v.pv,some (.ref Y.sz),some (.ref (Y.alloc (.list [])).sz),none,none] ((Y.alloc (.list [])).alloc (.list [v.pv])) Q:=by
 refine WhR.mk (RI v Y) (jat v) ?_ fun n Z' Y' zu=>?_
 ·refine⟨[v],[],none,none,by simp,by rw[jai],(Chg.alloc _ _).to (.alloc _ _),by simp only[jai];exact o47,?_,?_,by simp,?_⟩
  ·rw[jae (by rw[jai];exact o2),get_alloc_new];rfl
  ·rw[<- jai (Y:=Y) (o:=.list []),get_alloc_new];rfl
  ·cases v<;>simp[jat]
 refine juL zu fun st fo x y zq2 zq3 hc hz hf hs hr hb=>?_;clear zu;subst zq2;subst zq3
 have hl:st.length<=(st.map jat).sum:=by
  clear hb hr hs
  induction st with
  | nil=>simp
  | cons a r ih=>
  simp only[length_cons,map_cons,List.sum_cons];have:1<=jat a:=by cases a<;>simp[jat]
  exact jv3 ih this
 have hT:Y.sz+1≠Y.sz:=o48
 have hT':Y.sz≠Y.sz+1:=o26
 have hz0:Y.sz<Y'.sz:=o19 hz
 rcases List.eq_nil_or_concat st with rfl | ⟨st,top,rfl⟩
 ·refine rd hs (k _ _ _ hc ?_)
  rw[hf,<-hr];simp
 ·rw[List.concat_eq_append]at hs hr hb hl ⊢
  rw[map_append]at hs
  have hl':st.length+1<100:=by simp at hl hb;exact jv4 hl hb
  have hln:st.length<100:=Nat.lt_of_succ_lt hl'
  have hlf:fo.length<100:=by simp at hb;exact jv5 hb
  refine rd hs (gI (by simp;exact ja4 (o63 hl')) (cD (fun _=>?_) fun h=>absurd h (by simp)))
  have hc1: ∀{x},Chg [] Y (Y'.set (Y.sz+1) x):=hc.setNew o0
  have hc': ∀{x y},Chg [] Y ((Y'.set (Y.sz+1) x).set Y.sz y):=hc1.setNew o22
  have hff: ∀{x},(Y'.set (Y.sz+1) x).get Y.sz=some (.list (fo.map .int)):=by intro x;rw[jaa hT];exact hf
  have hf': ∀{x},(Y'.set (Y.sz+1) x).get Y.sz=some (.list ((fo++ []).map .int)):=by intro x;rw[hff];simp
  have hg: ∀{x},(Y'.set (Y.sz+1) x).get (Y.sz+1)=some x:=jad hz
  have hg2: ∀{x y},((Y'.set (Y.sz+1) x).set (Y.sz+1) y).get (Y.sz+1)=some y:=jad (by rw[jan];exact hz)
  have hsum: ∀t:Val,(map jat st++ [jat t]).sum=(st.map jat).sum+jat t:=fun t=>by simp
  have ends:jal top= []->∀y,∃m,m<((st++ [top]).map jat).sum/\RI v Y m [some v.pv,some (.ref Y.sz),some (.ref (Y.sz+1)),some top.pv,y] (Y'.set (Y.sz+1) (.list (map Val.pv st))):=fun e y=>
   jgN [] [] hc1 (by rw[jan];exact hz) hf' (by rw[hg];simp) hr hb (by rw[e];rfl) (by simp) (by cases top<;>simp[jat]) (by simp)
  refine rd hs (PopR.mk rfl ?_)
  cases top with
  | i4 n=>exact ends rfl y
  | lc=>exact ends rfl y
  | pl w z=>exact ends rfl y
  | ref a=>
   refine cN (fun ha=>rd hff (rd hff (gI (by simp;exact jas (o3 hlf)) ?_))) fun ha=>ends (by simp[jal];exact ha) y
   exact jgN [] [a] hc' (by rw[jan,jan];exact hz) (by rw[jad (by rw[jan];exact hz0)];simp) (by rw[jaa hT',hg];simp) hr hb (by simp[jal,ha]) (by simp[jat]) (by simp[jat]) (by simp)
  | one a=>
   refine WhR.tn 3 ?_
   refine rd hg (rd hg (gI (by simp;exact jas (o3 hln)) (rd hg2 (rd hg2 (gI (by simp;exact jas (o63 hl')) ?_)))))
   simp only[set_set]
   exact jgN [.ref a,.i4 7] [] hc1 (by rw[jan];exact hz) hf' (by rw[jad hz];simp[jnB,jsT]) hr hb (by simp[jal]) (by simp[jat]) (by simp[jat]) (by simp)
  | two a b=>
   refine WhR.tn 3 ?_
   refine rd hg (rd hg (gI (by simp;exact jas (o3 hln)) (rd hg2 (rd hg2 (gI (by simp;exact jas (o63 hl')) ?_)))))
   simp only[set_set]
   exact jgN [.one b,.ref a] [] hc1 (by rw[jan];exact hz) hf' (by rw[jad hz];simp[jnB,jrC]) hr hb (by simp[jal]) (by simp[jat]) (by simp[jat]) (by simp)
theorem jcX{m:Nat}{v:Val}{Y:AHeap}{Q:PV->AHeap->Prop}(k: ∀l Y',Chg [] Y Y'->Y.sz<=l->Y'.get l=some (.list ((jal v).map .int))->Q (.ref l) Y'):C (m+1) 0 [v.pv] Y Q:=by
 refine jap rfl rfl ?_
 have kn: ∀xs:List PV,(jal v).map .int=xs->Q (.ref Y.sz) (Y.alloc (.list xs)):=fun xs h=>k _ _ (.alloc _ _) (le_refl _) (by rw[h];exact get_alloc_new)
 cases v with
 | ref a=>exact cD (fun h=>kn _ (by simp[jal,h])) fun h=>kn _ (by simp[jal,h])
 | i4 n=>exact kn _ rfl
 | lc=>exact kn _ rfl
 | pl w z=>exact kn _ rfl
 | one a=>refine jji (v:=.one a) rfl fun Y' x y c g=>?_;exact k _ _ c (le_refl _) g
 | two a b=>refine jji (v:=.two a b) rfl fun Y' x y c g=>?_;exact k _ _ c (le_refl _) g
structure Th where
 loc:Nat
 sl:Nat
 addr:Int
 kind:Int
 gen:Int
 size:Int
 serial:Int
 slots:List Val
structure Hp where
 h:Nat
 tl:Nat
 al:Nat
 cl:Nat
 fl:Nat
 rl:Nat
 th:List Th
 at_:List (Int×Nat)
 top:Int
 limit:Int
 bits:Int
 fresh:Int
 yl:Int
 moved:Int
 made:Int
 cards:List Int
 fin:List Int
 rdy:List Int
noncomputable def Hp.locs(H:Hp):List Nat:=[H.h,H.tl,H.al,H.cl,H.fl,H.rl]++H.th.flatMap fun t=>[t.loc,t.sl]
theorem nd6{a b c d e f:Nat}: [a,b,c,d,e,f].Nodup<->(¬a=b/\¬a=c/\¬a=d/\¬a=e/\¬a=f)/\(¬b=c/\¬b=d/\¬b=e/\¬b=f)/\(¬c=d/\¬c=e/\¬c=f)/\(¬d=e/\¬d=f)/\(¬e=f):=by
 simp only[nodup_cons,mem_cons,not_mem_nil,or_false,not_or,List.nodup_nil,and_true,not_false_eq_true]
theorem lh(H:Hp):H.h∈H.locs:=mem_append_left _ (.head _)
theorem lhE{H:Hp}{l:Nat}(e:l=H.h):l∈H.locs:=e▸lh H
theorem ltl(H:Hp):H.tl∈H.locs:=mem_append_left _ (.tail _ (.head _))
theorem jty{H:Hp}{l:Nat}(e:l=H.tl):l∈H.locs:=e▸ltl H
theorem lal(H:Hp):H.al∈H.locs:=mem_append_left _ (.tail _ (.tail _ (.head _)))
theorem jtu{H:Hp}{l:Nat}(e:l=H.al):l∈H.locs:=e▸lal H
theorem lcl(H:Hp):H.cl∈H.locs:=mem_append_left _ (.tail _ (.tail _ (.tail _ (.head _))))
theorem jtv{H:Hp}{l:Nat}(e:l=H.cl):l∈H.locs:=e▸lcl H
theorem lfl(H:Hp):H.fl∈H.locs:=mem_append_left _ (.tail _ (.tail _ (.tail _ (.tail _ (.head _)))))
theorem jtw{H:Hp}{l:Nat}(e:l=H.fl):l∈H.locs:=e▸lfl H
theorem lrl(H:Hp):H.rl∈H.locs:=mem_append_left _ (.tail _ (.tail _ (.tail _ (.tail _ (.tail _ (.head _))))))
theorem jtx{H:Hp}{l:Nat}(e:l=H.rl):l∈H.locs:=e▸lrl H
noncomputable def atE(l:List (Int×Nat)):List (Int×PV):=l.map fun p=>(p.1,.ref p.2)
noncomputable def jaG(l:List Int):List (Int×PV):=l.map fun c=>(c,.int 1)
noncomputable abbrev ja0 (H:Hp):PObj:=.inst .heap [some (.ref H.tl),some (.ref H.al),some (.int H.top),some (.int H.limit),some (.ref H.cl),some (.int H.bits),some (.int H.fresh),some (.int H.yl),some (.ref H.fl),some (.ref H.rl),some (.int H.moved),some (.int H.made)]
noncomputable abbrev jbR (t:Th):PObj:=.inst .thing [some (.int t.addr),some (.int t.kind),some (.ref t.sl),some (.int t.gen),some (.int t.size),some (.int t.serial)]
structure Hv (Y:AHeap) (H:Hp):Prop where
 h:Y.get H.h=some (ja0 H)
 tl:Y.get H.tl=some (.list (H.th.map fun t=>.ref t.loc))
 al:Y.get H.al=some (.dict (atE H.at_))
 cl:Y.get H.cl=some (.dict (jaG H.cards))
 fl:Y.get H.fl=some (.list (H.fin.map .int))
 rl:Y.get H.rl=some (.list (H.rdy.map fun a=>(Val.ref a).pv))
 th: ∀t∈H.th,Y.get t.loc=some (jbR t)/\Y.get t.sl=some (.list (t.slots.map Val.pv))
 small:H.th.length<100/\∀t∈H.th,t.slots.length<100
theorem Hv.keep{S:List Nat}{Y Y':AHeap}{H:Hp}(x:Hv Y H)(c:Chg S Y Y')(d: ∀l∈H.locs,l∉S):Hv Y' H:=by
 have m: ∀l∈ [H.h,H.tl,H.al,H.cl,H.fl,H.rl],l∉S:=fun l hl=>d l (mem_append_left _ hl)
 have mt: ∀t∈H.th,∀l∈ [t.loc,t.sl],l∉S:=fun t ht l hl=>d l (mem_append_right _ (mem_flatMap.mpr ⟨t,ht,hl⟩))
 exact⟨c.get x.h (m _ (by simp)),c.get x.tl (m _ (by simp)),c.get x.al (m _ (by simp)),c.get x.cl (m _ (by simp)),c.get x.fl (m _ (by simp)),c.get x.rl (m _ (by simp)),
  fun t ht=>⟨c.get (x.th t ht).1 (mt t ht _ (by simp)),c.get (x.th t ht).2 (mt t ht _ (by simp))⟩,x.small⟩
theorem Hv.ext{Y Y':AHeap}{H:Hp}(x:Hv Y H)(c:Chg [] Y Y'):Hv Y' H:=x.keep c fun _ _ h=>by cases h
theorem Hv.lt{Y:AHeap}{H:Hp}(x:Hv Y H): ∀l∈H.locs,l<Y.sz:=fun l hl=>by
 rcases mem_append.mp hl with h | h
 ·simp only[mem_cons,not_mem_nil,or_false]at h
  rcases h with rfl | rfl | rfl | rfl | rfl | rfl
  ·exact jac x.h
  ·exact jac x.tl
  ·exact jac x.al
  ·exact jac x.cl
  ·exact jac x.fl
  ·exact jac x.rl
 ·refine jaj (mem_flatMap.mp h) fun t ht hl=>?_
  simp only[mem_cons,not_mem_nil,or_false]at hl
  rcases hl with rfl | rfl
  ·exact jac (x.th t ht).1
  ·exact jac (x.th t ht).2
theorem jkr(w:Int): ∀l:List (Int×Nat),jbu (atE l) w=(l.lookup w).map .ref
 | []=>rfl
 | (a,n)::r=>by
  have ih:=jkr w r
  unfold jbu atE at ih ⊢
  rw[map_cons,find?_cons,lookup_cons]
  by_cases h:a=w
  ·subst h;simp
  ·have:(w==a)=false:=by simp[Ne.symm h]
   simp only[h,decide_false,this]
   exact ih
theorem ji2(w:Int): ∀l:List Int,(jbu (jaG l) w).isSome=l.contains w
 | []=>rfl
 | a::r=>by
  have ih:=ji2 w r
  unfold jbu jaG at ih ⊢
  rw[map_cons,find?_cons,List.contains_cons]
  by_cases h:a=w
  ·subst h;simp
  ·have:(w==a)=false:=by simp[Ne.symm h]
   simp only[h,decide_false,this,Bool.false_or]
   exact ih
noncomputable def pvO:Option Nat->PV
 | none=>.none
 | some l=>.ref l
noncomputable def jj2(H:Hp)(w:Int):List Th:=H.th.takeWhile fun t=>decide (t.addr<=w)
noncomputable def ja8(H:Hp)(w:Int):Option Nat:=match H.at_.lookup w with
 | some l=>some l
 | none=>match (jj2 H w).getLast? with
  | none=>none
  | some t=>if w<t.addr+t.size then some t.loc else none
noncomputable def Srt(H:Hp):Prop:=H.th.Pairwise fun a b=>a.addr<=b.addr
theorem jeD{ah:Type}{p:ah->Bool}: ∀{l:List ah} {n:Nat},n<=l.length->(∀ i x,i<n->l[i]? =some x->p x=true)->(∀ x,l[n]? =some x->p x=false)->l.takeWhile p=l.take n
 | [],n,hn,_,_=>by simp
 | a::r,0,_,_,h=>by rw[List.takeWhile_cons,h a rfl];rfl
 | a::r,n+1,hn,h1,h2=>by
  rw[List.takeWhile_cons,h1 0 a (Nat.succ_pos _) rfl]
  simp only[if_true,List.take_succ_cons]
  rw[jeD (by simpa using hn) (fun i x hi hx=>h1 (i+1) x (jv6 hi) (by simpa using hx)) fun x hx=>h2 x (by simpa using hx)]
theorem jjy{ah:Type}{l:List ah}{n:Nat}(hn:n<l.length):(l.take (n+1)).getLast? =l[n]? :=by
 rw[List.getLast?_take]
 simp[getElem?_eq_getElem hn]
noncomputable def FI(H:Hp)(w:Int)(Y:AHeap)(n:Nat)(Z':jao)(Y':AHeap):Prop:=
 ∃(lo hi:Nat) (x y:Option PV),n=hi-lo/\lo<=hi/\hi<=H.th.length/\Z'= [some (.ref H.h),some (.int w),some .none,some (.int lo),some (.int hi),x,y]/\Y'=Y/\
  (∀ (i:Nat) (t:Th),i<lo->H.th[i]? =some t->t.addr<=w)/\(∀ (i:Nat) (t:Th),hi<=i->H.th[i]? =some t->w<t.addr)
end
local macro_rules | `(tactic| walk_at "l") => `(tactic| first | exact lh _ | exact ltl _ | exact lal _ | exact lcl _ | exact lfl _ | exact lrl _ | exact lhE (by assumption) | exact jty (by assumption) | exact jtu (by assumption) | exact jtv (by assumption) | exact jtw (by assumption) | exact jtx (by assumption) | exact lhE (Eq.symm (by assumption)) | exact jty (Eq.symm (by assumption)) | exact jtu (Eq.symm (by assumption)) | exact jtv (Eq.symm (by assumption)) | exact jtw (Eq.symm (by assumption)) | exact jtx (Eq.symm (by assumption)))
noncomputable section
theorem joY{l:List (Int×Nat)}{w:Int}:(jbu (atE l) w).getD .none=pvO (l.lookup w):=by rw[jkr];cases l.lookup w<;>rfl
theorem jof{l:List (Int×Nat)}{w:Int}:(jbu (atE l) w).isSome=(l.lookup w).isSome:=by rw[jkr,Option.isSome_map]
theorem jrW{H:Hp}{i:Nat}{t:Th}(h:H.th[i]? =some t):(H.th.map fun t=>PV.ref t.loc)[i]? =some (.ref t.loc):=by rw[getElem?_map,h];rfl
theorem nn{k:Int}{i:Nat}(e:k=(i:Int)):0<=k:=e▸natCast_nonneg i
theorem it{ah:Type}{xs:List ah}{f:ah->PV}{k:Int}{i:Nat}{x:ah}(h:xs[i]? =some x)(e:k=(i:Int)):(xs.map f)[k.toNat]? =some (f x):=by rw[e,Int.toNat_natCast,getElem?_map,h];rfl
theorem jcV{m:Nat}{H:Hp}{w:Int}{Y:AHeap}{Q:PV->AHeap->Prop}(V:Hv Y H)(hs:Srt H)(k:Q (pvO (ja8 H w)) Y):C (m+1) 8 [.ref H.h,.int w] Y Q:=by
 refine jap rfl rfl (rd V.h (rd V.al (rd V.al (.mk joY ?_))))
 unfold ja8 at k
 cases hl:H.at_.lookup w with
 | some l=>rw[hl]at k;exact k
 | none=>
  rw[hl]at k
  refine rd V.h (rd V.tl (gI (by rw[length_map];exact ja4 (o3 V.small.1)) (WhR.mk (FI H w Y) H.th.length ⟨0,H.th.length,none,none,by simp,by simp,by simp,by rw[length_map];rfl,rfl,fun i t hi=>by exact jv7 hi,fun i t hi ht=>?_⟩ ?_)))
  ·rw[List.getElem?_eq_none_iff.mpr hi]at ht;cases ht
  ·intro n Z' Y' zu4;refine jBm zu4 fun lo hi x y zq5 h1 h2 zq6 zq7 hlo hhi=>?_;clear zu4;subst zq5;subst zq6;subst zq7
   refine cD (fun hlt=>?_) fun hlt=>?_
   ·have hlt:lo<hi:=by exact jv8 h1 hlt
    have e:((lo:Int)+(hi:Int))/2=(((lo+hi)/2:Nat):Int):=by exact jv9
    have hm:(lo+hi)/2<H.th.length:=by walk_at "o"
    obtain⟨t,ht⟩: ∃t,H.th[(lo+hi)/2]? =some t:=⟨_,getElem?_eq_getElem hm⟩
    have hp:=(V.th t (mem_of_getElem? ht)).1
    have pw:=pairwise_iff_getElem.mp hs
    have ht':H.th[(lo+hi)/2]=t:=by rw[getElem?_eq_getElem hm]at ht;exact Option.some.inj ht
    refine rd V.h (rd V.tl (oI (it ht e) (rd hp (cD (fun hle=>?_) fun hle=>?_))))
    ·refine⟨hi-((lo+hi)/2+1),by walk_at "o",(lo+hi)/2+1,hi,some (.int (((lo+hi)/2:Nat):Int)),y,rfl,by walk_at "o",h2,by rw[e];rfl,rfl,fun i u hi' hu=>?_,hhi⟩
     by_cases hi2:i=(lo+hi)/2
     ·subst hi2;rw[ht]at hu;cases hu;exact hle
     ·have hil:i<H.th.length:=(List.getElem?_eq_some_iff.mp hu).1
      have:=pw i ((lo+hi)/2) hil hm (jwa hi' hi2)
      rw[ht']at this
      rw[getElem?_eq_getElem hil]at hu
      rw[<- Option.some.inj hu];exact jwb hle hil this
    ·refine⟨(lo+hi)/2-lo,by walk_at "o",lo,(lo+hi)/2,some (.int (((lo+hi)/2:Nat):Int)),y,rfl,by walk_at "o",by walk_at "o",by rw[e];rfl,rfl,hlo,fun i u hi' hu=>?_⟩
     by_cases hi2:i=(lo+hi)/2
     ·subst hi2;rw[ht]at hu;cases hu;exact jwc hle
     ·have hil:i<H.th.length:=(List.getElem?_eq_some_iff.mp hu).1
      have:=pw ((lo+hi)/2) i hm hil (jwd hi' hi2)
      rw[ht']at this
      rw[getElem?_eq_getElem hil]at hu
      rw[<- Option.some.inj hu];exact jwe hle hil this
   ·have heq:lo=hi:=by exact jwf h1 hlt
    subst heq
    have hb:jj2 H w=H.th.take lo:=jeD h2 (fun i t hi ht=>by simpa using hlo i t hi ht) fun t ht=>by simpa using hhi lo t (le_refl _) ht
    rw[hb]at k
    refine cD (fun h0=>?_) fun h0=>?_
    ·have h0:lo=0:=by exact jwg h0
     subst h0
     exact k
    ·obtain⟨lo,rfl⟩: ∃n,lo=n+1:=⟨lo-1,by exact jwh h0⟩
     rw[jjy (o96 h2)]at k
     obtain⟨t,ht⟩: ∃t,H.th[lo]? =some t:=⟨_,getElem?_eq_getElem (o96 h2)⟩
     rw[ht]at k
     have hp:=(V.th t (mem_of_getElem? ht)).1
     have e2:(((lo+1:Nat):Int)-1)=(lo:Int):=by exact o97
     refine rd V.h (rd V.tl (gI (nn e2) (oI (it ht e2) (rd hp (rd hp (cD (fun hw=>?_) fun hw=>?_))))))
     ·dsimp only at k;rw[if_pos hw]at k;exact k
     ·dsimp only at k;rw[if_neg hw]at k;exact k
noncomputable def In(a:Int):Prop:=0<=a/\a<1000
theorem jqa: ∀n:Fin 1000,(sOf ((n.val:Nat):Int)).length<=4:=by decide +kernel
theorem jfH{a:Int}(h:In a):(sOf a).length<=4:=by
 obtain⟨h1,h2⟩:=h
 have:=jqa ⟨a.toNat,by exact o98 h2⟩
 rwa [show (((⟨a.toNat,by exact o98 h2⟩:Fin 1000).val:Nat):Int)=a by simp;exact jwi h1]at this
theorem jcw(a b:Str):(a++b).length=a.length+b.length:=by
 cases a;cases b
 show(Array.append _ _).size=_
 simp[Str.length]
theorem jaz{s:String}(hs:(Str.ofString s).length<100){a:Int}(h:In a):(Str.ofString s).length+(sOf a).length<=sizeLine:=by
 have:=jfH h
 have:(200:Nat)<sizeLine:=by decide
 walk_at "o"
theorem sI{a:Int}{X:Prop}(h:In a)(q:X):gd (decide (-1000000000<a)) (gd (decide (a<1000000000)) X):=gI (jwj h.1) (gI (jwk h.2) q)
noncomputable def jcI(a:Int):Str:=Str.ofString "overlap at "++sOf a
noncomputable def jmg(a:Int):Str:=Str.ofString "gen out of order at "++sOf a
noncomputable def jbU(a:Int):Str:=Str.ofString "not in the index: "++sOf a
noncomputable def jjI:Str:=Str.ofString "top is too low"
noncomputable def jgF(a:Int):Str:=Str.ofString "twice: "++sOf a
noncomputable def jjH(a:Int):Str:=Str.ofString "index of no thing: "++sOf a
noncomputable def jdF(who:Str)(a:Int):Str:=who++Str.ofString " refers to "++sOf a
noncomputable def jnC(a:Int):Str:=Str.ofString "finals hold "++sOf a
noncomputable def joA(a:Int):Str:=Str.ofString "ready holds "++sOf a
noncomputable def jaS:Str:=Str.ofString "a root"
noncomputable def jaN(a:Int):Str:=Str.ofString "the thing at "++sOf a
structure Acc (aF:AHeap) (o:Nat) (rows:List Str) (Y:AHeap):Prop where
 chg:Chg [] aF Y
 new:aF.sz<=o
 at_:Y.get o=some (.list (rows.map .str))
theorem Acc.put{aF Y:AHeap}{o:Nat}{rows:List Str}(A:Acc aF o rows Y)(r:Str):Acc aF o (rows++ [r]) (Y.set o (.list (rows.map .str++ [.str r]))):=
 ⟨A.chg.setNew A.new,A.new,by rw[jad (jac A.at_)];simp⟩
theorem Acc.next{aF Y Y':AHeap}{o:Nat}{rows:List Str}(A:Acc aF o rows Y)(c:Chg [] Y Y'):Acc aF o rows Y':=⟨A.chg.to c,A.new,c.get0 A.at_⟩
theorem Acc.start{Y:AHeap}:Acc Y Y.sz [] (Y.alloc (.list [])):=⟨.alloc _ _,le_refl _,get_alloc_new⟩
theorem jA{Y aF:AHeap}{l:Nat}{rows:List Str}{K:AHeap->Prop}{G:Prop}(A:Acc aF l rows Y)(r:Str)(p:Prop)[Decidable p]
  (g:(¬ p->K Y)->(p->K (Y.set l (.list (rows.map .str++ [.str r]))))->G) (k: ∀ai,Acc aF l (rows++if p then [r]else []) ai->Chg [l] Y ai->K ai):G:=
 g (fun h=>k _ (by rw[if_neg h,append_nil];exact A) (.refl _ _)) fun h=>k _ (by rw[if_pos h];exact A.put r) (.set (mem_singleton.mpr rfl))
theorem rl{rows:List Str}{n:Nat}(h:rows.length<n):(rows.map PV.str).length<n:=by rw[length_map];exact h
noncomputable def jaP(H:Hp):List Th->Int->Int->List Str
 | [],e,_=>if e>H.top then [jjI]else []
 | t::r,e,g=>(if t.addr<e then [jcI t.addr]else [])++(if t.gen>g then [jmg t.addr]else [])++(if (H.at_.lookup t.addr).isSome=false then [jbU t.addr]else [])++jaP H r (t.addr+t.size) t.gen
theorem jcf{ah:Type}{l:List ah}{i:Nat}{t:ah}(h:l[i]? =some t):l.drop i=t::l.drop (i+1):=by
 have hi:=(List.getElem?_eq_some_iff.mp h).1
 rw[List.drop_eq_getElem_cons hi]
 rw[getElem?_eq_getElem hi]at h
 rw[Option.some.inj h]
noncomputable def BO(H:Hp)(Y:AHeap)(i:Nat)(Z':jao)(Y':AHeap):Prop:=
 ∃(rows:List Str) (e g:Int) (x:Option PV),Z'= [some (.ref H.h),some (.ref Y.sz),some (.int e),some (.int g),x]/\Acc Y Y.sz rows Y'/\rows++jaP H (H.th.drop i) e g=jaP H H.th 16 2
theorem jnd{ah:Type}{p:Prop}[Decidable p]{rows:List ah}{r:ah}:(rows++if p then [r]else []).length<=rows.length+1:=by split<;>simp
theorem jjK{ah:Type}{a b c:List ah}{n:Nat}(h:a++b=c)(z:c.length<n):a.length<n:=by rw[<- h,length_append]at z;exact lt_of_le_of_lt (le_add_right _ _) z
theorem jge{m:Nat}{H:Hp}{Y:AHeap}{Q:PV->AHeap->Prop}(V:Hv Y H)(hb: ∀t∈H.th,In t.addr)(hz:(jaP H H.th 16 2).length<100000)
  (k: ∀l Y',Acc Y l (jaP H H.th 16 2) Y'->Q (.ref l) Y'):C (m+1) 46 [.ref H.h] Y Q:=by
 have V1:Hv (Y.alloc (.list [])) H:=V.ext (.alloc _ _)
 have sz:=(by decide:(100200:Nat)<sizeLine)
 refine jap rfl rfl (rd V1.h (jcr H.th (BO H Y) (fun i Z' Y' zh=>by refine jso zh fun _ _ _ _ _ A _=>?_;exact(V.ext A.chg).tl) ⟨[],16,2,none,rfl,.start,rfl⟩ ?_ ?_))
 ·intro i t Z' Y' ht zu8;refine jso zu8 fun rows e g y zq9 A hr=>?_;clear zu8;subst zq9
  have hmem:=mem_of_getElem? ht
  have tp:=fun{Y''} (c:Chg [] Y Y'')=>((V.ext c).th t hmem).1
  have hin:=hb t hmem
  rw[jcf ht,jaP]at hr
  have hrl:=jjK hr hz
  refine rd (tp A.chg) (jA A (jcI t.addr) (t.addr<e) (fun j' j=>cD (fun h=>rd A.at_ (rd (tp A.chg) (sI hin (gI (jaz (by decide) hin) (rd A.at_ (gI (rl (o19 (jwl hrl sz))) (j h))))))) j') fun ai A2 C2=>?_)
  have hb2:=jnd (p:=t.addr<e) (rows:=rows) (r:=jcI t.addr)
  generalize hrows2:(rows++if t.addr<e then [jcI t.addr]else [])=rows2 at A2 hb2
  refine rd (tp A2.chg) (jA A2 (jmg t.addr) (t.gen>g) (fun j' j=>cD (fun h=>rd A2.at_ (rd (tp A2.chg) (sI hin (gI (jaz (by decide) hin) (rd A2.at_ (gI (rl (o19 (jwm hrl sz hb2))) (j h))))))) j') fun aI A3 C3=>?_)
  have hb3:=jnd (p:=t.gen>g) (rows:=rows2) (r:=jmg t.addr)
  refine rd (tp A3.chg) (rd (V.ext A3.chg).h (rd (V.ext A3.chg).al (.mk jof (jA A3 (jbU t.addr) ((H.at_.lookup t.addr).isSome=false) (fun j' j=>cNB (fun h=>rd A3.at_ (rd (tp A3.chg) (sI hin (gI (jaz (by decide) hin) (rd A3.at_ (gI (rl (o19 (jwn hrl sz hb2 hb3))) (j h))))))) fun h=>j' (by rw[h];decide)) fun aZ A4 C4=>?_))))
  refine rd (tp A4.chg) (rd (tp A4.chg) (rd (tp A4.chg) ⟨_,t.addr+t.size,t.gen,_,rfl,A4,?_⟩))
  rw[<- hr,<-hrows2]
  simp only[append_assoc]
 ·intro Z' Y' zu1;refine jso zu1 fun rows e g y zq2 A hr=>?_;clear zu1;subst zq2
  rw[List.drop_length,jaP]at hr
  refine rd (V.ext A.chg).h (cD (fun h=>rd A.at_ (rd A.at_ (gI (rl (jwo (jjK hr hz) sz)) (k _ _ ?_)))) fun h=>k _ _ ?_)
  ·rw[if_pos h]at hr;exact hr▸A.put jjI
  ·rw[if_neg h,append_nil]at hr;exact hr▸A
noncomputable def jaf:Val->List Int
 | .ref a=>[a]
 | .pl w _=>[w]
 | .lc=>[]
 | v=>jal v
theorem jgI{m:Nat}{v:Val}{Y:AHeap}{Q:PV->AHeap->Prop}(k: ∀l Y',Chg [] Y Y'->Y.sz<=l->Y'.get l=some (.list ((jaf v).map .int))->Q (.ref l) Y'):C (m+2) 13 [v.pv] Y Q:=by
 refine jap rfl rfl ?_
 have kn: ∀xs:List PV,(jaf v).map .int=xs->Q (.ref Y.sz) (Y.alloc (.list xs)):=fun xs h=>k _ _ (.alloc _ _) (le_refl _) (by rw[h];exact get_alloc_new)
 cases v with
 | ref a=>exact kn _ rfl
 | lc=>exact kn _ rfl
 | pl w z=>exact kn _ rfl
 | i4 n=>exact jcX (v:=.i4 n) k
 | one a=>exact jcX (v:=.one a) k
 | two a b=>exact jcX (v:=.two a b) k
theorem lcI{Z:jao}{i:Nat}{v:PV}{K:PV->Prop}(h:nth Z i=some (some v))(q:K v):lc Z i K:=by unfold lc;rw[h];exact q
structure AccL (aF:AHeap) (o:Nat) (xs:List PV) (Y:AHeap):Prop where
 chg:Chg [] aF Y
 new:aF.sz<=o
 at_:Y.get o=some (.list xs)
theorem AccL.put{aF Y:AHeap}{o:Nat}{xs:List PV}(A:AccL aF o xs Y)(r:PV):AccL aF o (xs++ [r]) (Y.set o (.list (xs++ [r]))):=
 ⟨A.chg.setNew A.new,A.new,jad (jac A.at_)⟩
theorem jpD{m i o l lo:Nat}{Z:jao}{Y aF:AHeap}{xs more:List PV}{Q:KS}(ho:nth Z o=some (some (.ref lo)))(hi:blt i (ln Z)=true)(hio:i≠o)(A:AccL aF lo xs Y)(hl:Y.get l=some (.list more))(hne:l≠lo)(hz:(xs++more).length<sizeLine)
  (k: ∀x Y',AccL aF lo (xs++more) Y'->Chg [lo] Y Y'->Q .next (up Z i x) Y'):ForR m (.one i) false (Sts.cons (.expr (.append (.loc o) (.loc i))) .nil).r (.ref l) Z Y Q:=by
 have hi:i<ln Z:=blt_eq.mp hi
 refine jnX hi |>.elim fun x0 h0=>jcr (f:=id) more (fun j Z' Y'=>∃x,Z'=up Z i x/\AccL aF lo (xs++more.take j) Y'/\Chg [lo] Y Y') (fun j Z' Y' h=>h.elim fun _ h=>by rw[List.map_id];exact h.2.2.get hl (by simpa using hne)) ⟨x0,h0.symm,by simpa using A,.refl _ _⟩ ?_ ?_
 ·intro j t Z' Y' ht zu3;refine jcs zu3 fun y e A' hc=>?_;clear zu3;subst e
  have htk:more.take (j+1)=more.take j++ [t]:=by rw[take_add_one,ht];rfl
  have hil:i<ln (up Z i y):=by rw[jrl];exact hi
  refine gB (blt_eq.mpr hil) (lcI (v:=.ref lo) (by rw[jqz,jo8 hio];exact ho) (rd A'.at_ (lcI (v:=t) (jo7 hil) (rd A'.at_ (gI ?_ ⟨some t,jqz,?_,hc.to (.set (by simp))⟩)))))
  ·have:=(List.take_prefix (j+1) more).length_le
   rw[htk]at this
   simp only[length_append,length_cons,length_nil]at hz this ⊢;walk_at "o"
  ·rw[htk,<-append_assoc];exact A'.put t
 ·intro Z' Y' zu6;refine jcs zu6 fun y e A' hc=>?_;clear zu6;subst e
  rw[take_length]at A'
  exact k y Y' A' hc
theorem jmZ{m i o l lo:Nat}{Z:jao}{Y aF:AHeap}{rows more:List Str}{Q:KS}(ho:nth Z o=some (some (.ref lo)))(hi:blt i (ln Z)=true)(hio:i≠o)(A:Acc aF lo rows Y)(hl:Y.get l=some (.list (more.map .str)))(hne:l≠lo)(hz:(rows++more).length<sizeLine)
  (k: ∀x Y',Acc aF lo (rows++more) Y'->Chg [lo] Y Y'->Q .next (up Z i x) Y'):ForR m (.one i) false (Sts.cons (.expr (.append (.loc o) (.loc i))) .nil).r (.ref l) Z Y Q:=
 jpD ho hi hio ⟨A.chg,A.new,A.at_⟩ hl hne (by rw[<- map_append,length_map];exact hz) fun x Y' A' c=>k x Y' ⟨A'.chg,A'.new,by rw[map_append];exact A'.at_⟩ c
noncomputable def jdE(l:List Int)(c:Int):List Int:=if l.contains c=true then l else l++ [c]
theorem jdS(l:List Int)(c:Int):jhO (jaG l) c (.int 1)=jaG (jdE l c):=by
 have e:(jaG l).any (fun p=>decide (p.1=c))=l.contains c:=by
  unfold jaG
  induction l with
  | nil=>rfl
  | cons a r ih=>
   rw[map_cons,List.any_cons,List.contains_cons,ih]
   congr 1
   by_cases h:a=c
   ·subst h;simp
   ·simp[h,Ne.symm h]
 unfold jhO jdE
 rw[e]
 split
 ·unfold jaG
  rw[map_map]
  apply map_congr_left
  intro a _
  simp only[Function.comp]
  split<;>simp_all
 ·unfold jaG;simp
noncomputable def jbo:List Th->List Int->List Str
 | [],_=>[]
 | t::r,seen=>(if seen.contains t.addr=true then [jgF t.addr]else [])++jbo r (jdE seen t.addr)
noncomputable def jdh:List Th->List Int->List Int
 | [],s=>s
 | t::r,s=>jdh r (jdE s t.addr)
theorem jht{l:List Int}{c a:Int}:(jdE l c).contains a=(l.contains a||a==c):=by
 unfold jdE
 split
 ·rename_i h
  cases h2:a==c with
  | false=>simp
  | true=>rw[beq_iff_eq.mp h2,h];rfl
 ·rw[List.contains_eq_any_beq,List.contains_eq_any_beq,any_append];simp
theorem jfI{a:Int}: ∀{th:List Th} {s:List Int},(jdh th s).contains a=(s.contains a||(th.map (·.addr)).contains a)
 | [],s=>by simp[jdh]
 | t::r,s=>by
  rw[jdh,jfI,jht,map_cons,List.contains_cons,Bool.or_assoc]
noncomputable def jlX(keys:List Int)(th:List Th):List Str:=(keys.filter fun a=> !(th.map (·.addr)).contains a).map jjH
noncomputable def jbz(H:Hp):List Str:=jbo H.th []++jlX (jba (H.at_.map (·.1))) H.th
noncomputable def BI(H:Hp)(Y:AHeap)(i:Nat)(Z':jao)(Y':AHeap):Prop:=
 ∃(rows:List Str) (seen:List Int) (x:Option PV),Z'= [some (.ref H.h),some (.ref Y.sz),some (.ref (Y.sz+1)),x,none]/\Acc Y Y.sz rows Y'/\Y'.get (Y.sz+1)=some (.dict (jaG seen))/\rows++jbo (H.th.drop i) seen=jbo H.th []/\jdh (H.th.drop i) seen=jdh H.th []/\seen.length<=i
noncomputable def BI2(H:Hp)(Y:AHeap)(l:Nat)(keys:List Int)(i:Nat)(Z':jao)(Y':AHeap):Prop:=
 ∃(y x:Option PV),Z'= [some (.ref H.h),some (.ref Y.sz),some (.ref (Y.sz+1)),y,x]/\Acc Y Y.sz (jbo H.th []++jlX (keys.take i) H.th) Y'/\Y'.get (Y.sz+1)=some (.dict (jaG (jdh H.th [])))/\Y'.get l=some (.list (keys.map .int))/\i<=keys.length
theorem jk9{x k:Int}: ∀{l:List Int},x∈jmu k l<->x=k\/x∈l
 | []=>by simp[jmu]
 | a::r=>by
  unfold jmu
  split
  ·simp
  ·simp[jk9 (l:=r)]
   constructor
   ·rintro(h | h | h)<;>simp[h]
   ·rintro(h | h | h)<;>simp[h]
theorem sortI_mem{x:Int}: ∀{l:List Int},x∈jba l<->x∈l
 | []=>by simp[jba]
 | a::r=>by rw[jba,jk9,sortI_mem (l:=r)];simp
theorem jk8{k:Int}: ∀{l:List Int},(jmu k l).length=l.length+1
 | []=>rfl
 | a::r=>by
  unfold jmu
  split
  ·simp
  ·simp[jk8 (l:=r)]
theorem jfM: ∀{l:List Int},(jba l).length=l.length
 | []=>rfl
 | a::r=>by rw[jba,jk8,jfM (l:=r)];rfl
theorem jcM{l:List Int}{w:Int}:(jbu (jaG l) w).isSome=l.contains w:=ji2 w l
theorem jqK{Y:AHeap}{o o':PObj}:((Y.alloc o).alloc o').get (Y.sz+1)=some o':=by rw[<- jai (Y:=Y) (o:=o)];exact get_alloc_new
theorem joX{Y:AHeap}{o o':PObj}:((Y.alloc o).alloc o').get Y.sz=some o:=by rw[jae (by rw[jai];exact o2)];exact get_alloc_new
theorem jgd{m:Nat}{H:Hp}{Y:AHeap}{Q:PV->AHeap->Prop}(V:Hv Y H)(hb: ∀t∈H.th,In t.addr)(hb2: ∀p∈H.at_,In p.1)(ha:H.at_.length<64)
  (k: ∀l Y',Acc Y l (jbz H) Y'->Q (.ref l) Y'):C (m+1) 47 [.ref H.h] Y Q:=by
 have szl:=(by decide:(100200:Nat)<sizeLine)
 have htw: ∀(l:List Th) (s:List Int),(jbo l s).length<=l.length:=by
  intro l
  induction l with
  | nil=>intro s;simp[jbo]
  | cons a r ih=>intro s;simp only[jbo,length_append,length_cons];have:=ih (jdE s a.addr);split<;>simp<;>walk_at "o"
 have hsmall:=V.small.1
 have htz:=htw H.th []
 have C2:Chg [] Y ((Y.alloc (.list [])).alloc (.dict [])):=(Chg.alloc _ _).to (.alloc _ _)
 refine jap rfl rfl (rd (V.ext C2).h (jcr H.th (BI H Y) (fun i Z' Y' zh=>by refine jse zh fun _ _ _ _ A _=>?_;exact(V.ext A.chg).tl) ⟨[],[],none,by rw[jai];rfl,⟨C2,le_refl _,joX⟩,jqK,rfl,rfl,le_refl _⟩ ?_ ?_))
 ·intro i t Z' Y' ht zu8;refine juJ zu8 fun rows seen y zq9 A hse hr hsn hsl=>?_;clear zu8;subst zq9
  have hmem:=mem_of_getElem? ht
  have hil:i<H.th.length:=(List.getElem?_eq_some_iff.mp ht).1
  have tp:=fun{Y''} (c:Chg [] Y Y'')=>((V.ext c).th t hmem).1
  have hin:=hb t hmem
  rw[jcf ht,jbo]at hr
  rw[jcf ht,jdh]at hsn
  have hrl:rows.length<100:=jjK hr (lt_of_le_of_lt htz hsmall)
  refine rd (tp A.chg) (rd hse (.mk jcM (jA A (jgF t.addr) (seen.contains t.addr=true) (fun j' j=>cB (fun h=>rd A.at_ (rd (tp A.chg) (sI hin (gI (jaz (by decide) hin) (rd A.at_ (gI (rl (o19 (jwp szl hrl))) (j h))))))) fun h=>j' (Bool.eq_false_iff.mp h)) fun ai A2 C2=>?_)))
  have hse2:ai.get (Y.sz+1)=some (.dict (jaG seen)):=C2.get hse (by simp)
  have hcl:(jaG seen).length=seen.length:=by simp[jaG]
  have hlt:=jac hse2
  refine rd (tp A2.chg) (rd hse2 (gI (by rw[hcl];exact jwq szl hsmall hsl hil) ⟨(rows++if seen.contains t.addr=true then [jgF t.addr]else []),jdE seen t.addr,some (.ref t.loc),rfl,⟨A2.chg.setNew (o0),A2.new,?_⟩,(jad hlt).trans (by rw[jdS]),?_,hsn,?_⟩))
  ·rw[jaa (o48)];exact A2.at_
  ·rw[<- hr,append_assoc]
  ·unfold jdE;split
   ·exact o14 hsl
   ·simp;exact o49 hsl
 ·intro Z' Y' zu1;refine juJ zu1 fun rows seen y zq2 A hse hr hsn hsl=>?_;clear zu1;subst zq2
  have Vi:=V.ext A.chg
  rw[List.drop_length]at hr hsn
  rw[jbo,append_nil]at hr
  rw[jdh]at hsn
  subst hr;subst hsn
  have hal:(atE H.at_).length<64:=by unfold atE;rw[length_map];exact ha
  have hkeys:jba (H.at_.map (·.1))=jba ((atE H.at_).map (·.1)):=by unfold atE;rw[map_map];rfl
  have hkl:(jba (H.at_.map (·.1))).length<64:=by rw[jfM,length_map];exact ha
  have hkin: ∀a∈jba (H.at_.map (·.1)),In a:=fun a h=>by
   rw[sortI_mem]at h
   refine jaj (mem_map.mp h) fun p hp zq3=>?_;subst zq3
   exact hb2 p hp
  unfold jbz at k
  rw[hkeys]at hkl hkin k
  refine rd Vi.h (rd Vi.al (gI hal ?_))
  generalize jba ((atE H.at_).map (·.1))=ks at hkl hkin k ⊢
  have hgl: ∀{l o},Y'.get l=some o->(Y'.alloc (.list (ks.map .int))).get l=some o:=fun h=>(jae (jac h)).trans h
  refine jcr ks (BI2 H Y Y'.sz ks) (fun i Z' Y'' zh=>by refine jqJ zh fun _ _ _ _ _ h _=>h) ⟨y,none,rfl,?_,hgl hse,get_alloc_new,zero_le _⟩ ?_ ?_
  ·simpa [jlX]using A.next (.alloc _ _)
  ·intro i a Z' Y'' ht zu4;refine jqJ zu4 fun y x' zq5 A hse hks hi=>?_;clear zu4;subst zq5
   have hin:=hkin a (mem_of_getElem? ht)
   have hil:=(List.getElem?_eq_some_iff.mp ht).1
   have hfl:(jlX (ks.take i) H.th).length<=64:=by
    unfold jlX
    rw[length_map]
    refine le_trans (length_filter_le _ _) ?_
    rw[length_take];exact jwr hkl hi hil
   have htk:jlX (ks.take (i+1)) H.th=jlX (ks.take i) H.th++(if (jdh H.th []).contains a=false then [jjH a]else []):=by
    have e:ks.take (i+1)=ks.take i++ [a]:=by rw[take_add_one,ht];rfl
    unfold jlX
    rw[e,filter_append,map_append,jfI]
    congr 1
    simp only[List.contains_nil,Bool.false_or,filter_cons,filter_nil]
    cases (H.th.map (·.addr)).contains a<;>rfl
   have hs'z:Y.sz+1<Y'.sz:=jac (by assumption)
   refine rd hse (.mk jcM (jA A (jjH a) ((jdh H.th []).contains a=false) (fun j' j=>cNB (fun h=>rd A.at_ (sI hin (gI (jaz (by decide) hin) (rd A.at_ (gI (rl (o19 (by simp only[length_append];exact jws szl hsmall htz hfl))) (j h)))))) fun h=>j' (by rw[h];decide)) fun ai A2 C2=>⟨y,_,rfl,?_,C2.get hse (by simp),C2.get hks (by simp;exact jwt hs'z),hil⟩))
   rw[htk,<-append_assoc]
   exact A2
  ·intro Z' Y'' zu7;refine jqJ zu7 fun y x' zq8 A hse hks hi=>?_;clear zu7;subst zq8
   rw[take_length]at A
   exact k _ _ A
noncomputable def jga:Val->Bool
 | .pl _ _=>true
 | .lc=>true
 | _=>false
noncomputable def jaW(H:Hp)(v:Val)(w:Int):Bool:=if jga v=true then(ja8 H w).isSome else(decide (w=0)||(H.at_.lookup w).isSome)
noncomputable def bvF(H:Hp)(v:Val)(who:Str):List Str:=((jaf v).filter fun w=> !jaW H v w).map (jdF who)
theorem jn2(v:Val):(jaf v).length<=2:=by
 cases v<;>simp[jaf,jal]
 ·split<;>simp
 ·split<;>split<;>simp
theorem jrD(v:Val): ∃tag r,v.pv= .tup (.int tag::r)/\(tag=6<->jga v=true):=by
 cases v with
 | ref a=>exact⟨4,_,rfl,by simp[jga]⟩
 | i4 a=>exact⟨1,_,rfl,by simp[jga]⟩
 | one a=>exact⟨5,_,rfl,by simp[jga]⟩
 | two a b=>exact⟨5,_,rfl,by simp[jga]⟩
 | pl w z=>exact⟨6,_,rfl,by simp[jga]⟩
 | lc=>exact⟨6,_,rfl,by simp[jga]⟩
def BV(H:Hp)(v:Val)(pv:PV)(who:Str)(Y:AHeap)(l:Nat)(i:Nat)(Z':jao)(Y':AHeap):Prop:=
 ∃(x y:Option PV),Z'= [some (.ref H.h),some pv,some (.str who),some (.ref Y.sz),x,y]/\Acc Y Y.sz ((((jaf v).take i).filter fun w=> !jaW H v w).map (jdF who)) Y'/\Y'.get l=some (.list ((jaf v).map .int))
end
noncomputable section
theorem jpX{ah:Type}{l:List ah}{i:Nat}{w:ah}(h:l[i]? =some w)(f:ah->Bool)(g:ah->Str):((l.take (i+1)).filter fun w=> !f w).map g=((l.take i).filter fun w=> !f w).map g++(if f w=false then [g w]else []):=by
 have e:l.take (i+1)=l.take i++ [w]:=by rw[take_add_one,h];rfl
 rw[e,filter_append,map_append]
 congr 1
 simp only[filter_cons,filter_nil]
 cases f w<;>rfl
theorem jrA{o:Option Nat}:(!jrj (pvO o))=o.isSome:=by cases o<;>rfl
theorem jgf{m:Nat}{H:Hp}{v:Val}{who:Str}{Y:AHeap}{Q:PV->AHeap->Prop}(V:Hv Y H)(hs:Srt H)(hw: ∀w∈jaf v,In w)(hwho:who.length<200)
  (k: ∀l Y',Acc Y l (bvF H v who) Y'->Q (.ref l) Y'):C (m+3) 48 [.ref H.h,v.pv,.str who] Y Q:=by
 refine jdp (jrD v) fun tag r e htag=>?_
 have tw:= @jgI m v
 rw[e]at tw ⊢
 refine jap rfl rfl (tw fun l af c1 hl1 hg1=>?_)
 rw[jai]at hl1
 have szl:=(by decide:(100200:Nat)<sizeLine)
 have rl:(Str.ofString " refers to ").length<100:=by decide
 refine jcr (jaf v) (BV H v (.tup (.int tag::r)) who Y l) (fun i Z' Y' zh=>by refine jaT zh fun _ _ _ _ h=>h) ⟨none,none,rfl,by simpa using Acc.start.next c1,hg1⟩ ?_ ?_
 ·intro i w Z' Y' ht zu9;refine jaT zu9 fun x' y zq0 A hg=>?_;clear zu9;subst zq0
  have hin:=hw w (mem_of_getElem? ht)
  have Vi:=V.ext A.chg
  have hrl:((((jaf v).take i).filter fun w=> !jaW H v w).map (jdF who)).length<=2:=by
   rw[length_map]
   refine le_trans (length_filter_le _ _) ?_
   rw[length_take]
   have:=jn2 v
   exact jwu this
  have fin: ∀b,jaW H v w=b->(jfO (foB (jsl jcd 1)) 1).r (m+2) [some (.ref H.h),some (.tup (.int tag::r)),some (.str who),some (.ref Y.sz),some (.int w),some (.bool b)] Y' (fk' (BV H v (.tup (.int tag::r)) who Y l (i+1)) (sq (jfO jcd 2).r (m+2) (cl Q))):=by
   intro b hb
   refine jA A (jdF who w) (b=false) (fun j' j=>cB (fun h=>j' (by rw[h];decide)) fun h=>rd A.at_ (gI (jwv hwho szl rl) (sI hin (gI ?_ (rd A.at_ (gI (Tactic.rl (o19 (jww szl hrl))) (j h))))))) fun ai A2 C2=>⟨_,_,rfl,?_,C2.get hg (by simp;exact jtz hl1)⟩
   ·have:=jfH hin
    show(who++Str.ofString " refers to ").length+(sOf w).length<=sizeLine
    rw[jcw]
    walk_at "o"
   ·rw[jpX ht,hb]
    exact A2
  refine cD (fun h=>jcV Vi hs ?_) fun h=>?_
  ·refine fin _ ?_
   show jaW H v w= !jrj (pvO (ja8 H w))
   rw[jrA];unfold jaW;rw[if_pos (htag.mp h)]
  ·have hf:jaW H v w=(decide (w=0)||(H.at_.lookup w).isSome):=by unfold jaW;rw[if_neg fun z=>h (htag.mpr z)]
   refine cD (fun h=>fin true ?_) fun h=>rd Vi.h (rd Vi.al (.mk jof (cB (fun h'=>fin true ?_) fun h'=>fin false ?_)))
   ·rw[hf,decide_eq_true h];rfl
   ·rw[hf,h',decide_eq_false h];rfl
   ·rw[hf,h',decide_eq_false h];rfl
 ·intro Z' Y' zu2;refine jaT zu2 fun x' y zq3 A hg=>?_;clear zu2;subst zq3
  rw[take_length]at A
  exact k _ _ A
structure Lv (Y:AHeap) (lr:Nat) (ls:List (Nat×List Val)):Prop where
 lr:Y.get lr=some (.list (ls.map fun p=>.ref p.1))
 each: ∀p∈ls,Y.get p.1=some (.list (p.2.map Val.pv))
theorem Lv.ext{Y Y':AHeap}{lr:Nat}{ls:List (Nat×List Val)}(x:Lv Y lr ls)(c:Chg [] Y Y'):Lv Y' lr ls:=⟨c.get0 x.lr,fun p hp=>c.get0 (x.each p hp)⟩
theorem jbs{ah aR:Type}{l:List ah}{i:Nat}{t:ah}(h:l[i]? =some t)(f:ah->List aR):(l.take (i+1)).flatMap f=(l.take i).flatMap f++f t:=by
 have e:l.take (i+1)=l.take i++ [t]:=by rw[take_add_one,h];rfl
 rw[e,flatMap_append];simp
theorem jfh{ah aR:Type}(l:List ah)(i:Nat)(f:ah->List aR):((l.take i).flatMap f).length<=(l.flatMap f).length:=by
 conv=>rhs;rw[<- List.take_append_drop i l,flatMap_append,length_append]
 exact jwx
theorem juF{m:Nat}{H:Hp}{whoE:Ex}{who:Str}{h2:PV}{lo l:Nat}{a3 a4 a5 a6:Option PV}{Y aF:AHeap}{rows:List Str}{vs:List Val}{Q:KS}(V:Hv aF H)(hs:Srt H)(hw: ∀v∈vs,∀w∈jaf v,In w)(hwho:who.length<200)
  (A:Acc aF lo rows Y) (hl:Y.get l=some (.list (vs.map Val.pv))) (hne:l≠lo) (hz:(rows++vs.flatMap fun v=>bvF H v who).length<100000)
  (hE: ∀x y Y' (R:K2),Chg [] aF Y'->R (.str who) Y'->whoE.r (m+3) [some (.ref H.h),some h2,some (.ref lo),a3,x,y,a6] Y' R)
  (k: ∀x y Y',Acc aF lo (rows++vs.flatMap fun v=>bvF H v who) Y'->Chg [lo] Y Y'->Q .next [some (.ref H.h),some h2,some (.ref lo),a3,x,y,a6] Y'):
  ForR (m+3) (.one 4) false (Sts.cons (.for (.one 5) (.call 48 (.cons (.loc 0) (.cons (.loc 4) (.cons whoE .nil)))) false (.cons (.expr (.append (.loc 2) (.loc 5))) .nil)) .nil).r (.ref l) [some (.ref H.h),some h2,some (.ref lo),a3,a4,a5,a6] Y Q:=by
 refine jcr vs (fun i Z' Y'=>∃x y,Z'= [some (.ref H.h),some h2,some (.ref lo),a3,x,y,a6]/\Acc aF lo (rows++(vs.take i).flatMap fun v=>bvF H v who) Y'/\Chg [lo] Y Y') (fun i Z' Y' zh=>by refine jaT zh fun _ _ _ _ c=>c.get hl (by simpa using hne)) ⟨_,_,rfl,by simpa using A,.refl _ _⟩ ?_ ?_
 ·intro i v Z' Y' ht zu4;refine jaT zu4 fun x' y zq5 A hc=>?_;clear zu4;subst zq5
  refine hE _ _ _ _ A.chg (jgf (V.ext A.chg) hs (hw v (mem_of_getElem? ht)) hwho fun l2 ai A2=>?_)
  have hle:=jfh vs (i+1) fun v=>bvF H v who
  have hst:=jbs ht fun v=>bvF H v who
  refine jmZ (o:=2) (i:=5) rfl rfl (by decide) (A.next A2.chg) A2.at_ ?_ ?_ fun x aI A3 C3=>⟨_,_,rfl,?_,(hc.thenNil A2.chg).to C3⟩
  ·have:=A2.new;have:=jac A.at_;walk_at "o"
  ·rw[append_assoc,<-hst]
   simp only[length_append]at hz ⊢
   exact jwy (by decide) hle hz
  ·rw[hst,<-append_assoc]
   exact A3
 ·intro Z' Y' zu7;refine jaT zu7 fun x' y zq8 A hc=>?_;clear zu7;subst zq8
  rw[take_length]at A
  exact k _ _ _ A hc
noncomputable def jaJ(H:Hp)(ls:List (Nat×List Val)):List Str:=ls.flatMap fun p=>p.2.flatMap fun v=>bvF H v jaS
noncomputable def jcT(H:Hp):List Str:=H.th.flatMap fun t=>t.slots.flatMap fun v=>bvF H v (jaN t.addr)
theorem jem{a:Int}(h:In a):(jaN a).length<200:=by
 unfold jaN
 rw[jcw]
 have:=jfH h
 have:(Str.ofString "the thing at ").length<100:=by decide
 walk_at "o"
theorem jdD{m:Nat}{H:Hp}{lr:Nat}{ls:List (Nat×List Val)}{Y:AHeap}{Q:PV->AHeap->Prop}(V:Hv Y H)(L:Lv Y lr ls)(hs:Srt H)(hb: ∀t∈H.th,In t.addr)(hw1: ∀p∈ls,∀v∈p.2,∀w∈jaf v,In w)(hw2: ∀t∈H.th,∀v∈t.slots,∀w∈jaf v,In w)
  (hz:(jaJ H ls++jcT H).length<100000) (k: ∀l Y',Acc Y l (jaJ H ls++jcT H) Y'->Q (.ref l) Y'):C (m+4) 49 [.ref H.h,.ref lr] Y Q:=by
 refine jap rfl rfl (jcr ls (fun i Z' Y'=>∃x y z,Z'= [some (.ref H.h),some (.ref lr),some (.ref Y.sz),x,y,z,none]/\Acc Y Y.sz ((ls.take i).flatMap fun p=>p.2.flatMap fun v=>bvF H v jaS) Y') (fun i Z' Y' zh=>by refine jn5 zh fun _ _ _ _ A=>(L.ext A.chg).lr) ⟨none,none,none,rfl,by simpa using Acc.start⟩ ?_ ?_)
 ·intro i p Z' Y' ht zu9;refine jn5 zu9 fun x' y z zq0 A=>?_;clear zu9;subst zq0
  have hmem:=mem_of_getElem? ht
  have hle:=jfh ls (i+1) fun p=>p.2.flatMap fun v=>bvF H v jaS
  have hst:=jbs ht fun p=>p.2.flatMap fun v=>bvF H v jaS
  refine juF (who:=jaS) (whoE:=.str "a root") V hs (hw1 p hmem) (by decide) A ((L.ext A.chg).each p hmem) (o1 (jac (L.each p hmem))) ?_ (fun x y Y' R c2 h=>h) fun x y ai A2 C2=>⟨_,_,_,rfl,by rw[hst];exact A2⟩
  rw[<- hst];simp only[length_append]at hz;unfold jaJ at hz;exact jwz hle hz
 ·intro Z' Y' zu2;refine jn5 zu2 fun x' y z zq3 A=>?_;clear zu2;subst zq3
  rw[take_length]at A
  refine rd (V.ext A.chg).h (jcr H.th (fun i Z' Y'=>∃x y z u,Z'= [some (.ref H.h),some (.ref lr),some (.ref Y.sz),x,y,z,u]/\Acc Y Y.sz (jaJ H ls++(H.th.take i).flatMap fun t=>t.slots.flatMap fun v=>bvF H v (jaN t.addr)) Y') (fun i Z' Y' zh=>by refine jqT zh fun _ _ _ _ _ A=>(V.ext A.chg).tl) ⟨_,_,_,_,rfl,by simpa [jaJ]using A⟩ ?_ ?_)
  ·intro i t Z' Y' ht zu4;refine jqT zu4 fun x' y z u zq5 A=>?_;clear zu4;subst zq5
   have hmem:=mem_of_getElem? ht
   have hle:=jfh H.th (i+1) fun t=>t.slots.flatMap fun v=>bvF H v (jaN t.addr)
   have hst:=jbs ht fun t=>t.slots.flatMap fun v=>bvF H v (jaN t.addr)
   have hp:=(V.ext A.chg).th t hmem
   have hin:=hb t hmem
   refine rd hp.1 (juF (who:=jaN t.addr) (whoE:=.bin .add (.str "the thing at ") (.strOf (.attr (.loc 6) 0))) V hs (hw2 t hmem) (jem hin) A hp.2 (o1 (jac (V.th t hmem).2)) ?_ (fun x y aI R c2 h=>?_) fun x y ai A2 C2=>⟨_,_,_,_,rfl,by rw[hst,<-append_assoc];exact A2⟩)
   ·rw[append_assoc,<-hst];simp only[length_append]at hz ⊢;unfold jcT at hz;exact jwA hle hz
   ·exact rd ((V.ext c2).th t hmem).1 (sI hin (gI (jaz (by decide) hin) h))
  ·intro Z' Y' zu7;refine jqT zu7 fun x' y z u zq8 A=>?_;clear zu7;subst zq8
   rw[take_length]at A
   exact k _ _ A
noncomputable def jhf(H:Hp)(l:List Int):List Int:=l.filter fun a=> !(H.at_.lookup a).isSome
noncomputable def jqM(H:Hp):List Str:=(jhf H H.fin).map jnC++(jhf H H.rdy).map joA
theorem ji4{H:Hp}{l:List Int}{i:Nat}{a:Int}(h:l[i]? =some a)(f:Int->Str):(jhf H (l.take (i+1))).map f=(jhf H (l.take i)).map f++(if (H.at_.lookup a).isSome=false then [f a]else []):=by
 have e:l.take (i+1)=l.take i++ [a]:=by rw[take_add_one,h];rfl
 unfold jhf
 rw[e,filter_append,map_append]
 congr 1
 simp only[filter_cons,filter_nil]
 cases (H.at_.lookup a).isSome<;>rfl
theorem jks{H:Hp}(l:List Int)(i:Nat):(jhf H (l.take i)).length<=l.length:=by
 unfold jhf
 refine le_trans (length_filter_le _ _) ?_
 rw[length_take];exact o64
theorem jfP{m:Nat}{H:Hp}{Y:AHeap}{Q:PV->AHeap->Prop}(V:Hv Y H)(hb1: ∀a∈H.fin,In a)(hb2: ∀a∈H.rdy,In a)(hz1:H.fin.length<1000)(hz2:H.rdy.length<1000)
  (k: ∀l Y',Acc Y l (jqM H) Y'->Q (.ref l) Y'):C (m+1) 50 [.ref H.h] Y Q:=by
 have V1:Hv (Y.alloc (.list [])) H:=V.ext (.alloc _ _)
 have szl:=(by decide:(100200:Nat)<sizeLine)
 refine jap rfl rfl (rd V1.h (jcr H.fin (fun i Z' Y'=>∃x,Z'= [some (.ref H.h),some (.ref Y.sz),x,none]/\Acc Y Y.sz ((jhf H (H.fin.take i)).map jnC) Y') (fun i Z' Y' ⟨_,_,A⟩=>(V.ext A.chg).fl) ⟨none,rfl,Acc.start⟩ ?_ ?_))
 ·intro i a Z' Y' ht zu9;refine jaj zu9 fun x' zq0 A=>?_;clear zu9;subst zq0
  have hin:=hb1 a (mem_of_getElem? ht)
  have Vi:=V.ext A.chg
  have:=jks (H:=H) H.fin i
  exact rd Vi.h (rd Vi.al (.mk jof (jA A (jnC a) ((H.at_.lookup a).isSome=false) (fun j' j=>cNB (fun h=>rd A.at_ (sI hin (gI (jaz (by decide) hin) (rd A.at_ (gI (rl (o19 (by rw[length_map];exact jwB hz1 szl this))) (j h)))))) fun h=>j' (by rw[h];decide)) fun ai A2 C2=>⟨_,rfl,by rw[ji4 ht];exact A2⟩)))
 ·intro Z' Y' zu2;refine jaj zu2 fun x' zq3 A=>?_;clear zu2;subst zq3
  rw[take_length]at A
  have:=jks (H:=H) H.fin H.fin.length
  rw[take_length]at this
  refine rd (V.ext A.chg).h (jcr H.rdy (fun i Z' Y'=>∃x y,Z'= [some (.ref H.h),some (.ref Y.sz),x,y]/\Acc Y Y.sz ((jhf H H.fin).map jnC++(jhf H (H.rdy.take i)).map joA) Y') (fun i Z' Y' zh=>by refine jdp zh fun _ _ _ A=>(V.ext A.chg).rl) ⟨_,_,rfl,by simpa [jhf]using A⟩ ?_ ?_)
  ·intro i a Z' Y' ht zu4;refine jdp zu4 fun x' y zq5 A=>?_;clear zu4;subst zq5
   have hin:=hb2 a (mem_of_getElem? ht)
   have Vi:=V.ext A.chg
   have:=jks (H:=H) H.rdy i
   exact rd Vi.h (rd Vi.al (.mk jof (jA A (joA a) ((H.at_.lookup a).isSome=false) (fun j' j=>cNB (fun h=>rd A.at_ (sI hin (gI (jaz (by decide) hin) (rd A.at_ (gI (rl (o19 (by rw[length_append,length_map,length_map];walk_at "o"))) (j h)))))) fun h=>j' (by rw[h];decide)) fun ai A2 C2=>⟨_,_,rfl,by rw[ji4 ht,<-append_assoc];exact A2⟩)))
  ·intro Z' Y' zu7;refine jdp zu7 fun x' y zq8 A=>?_;clear zu7;subst zq8
   rw[take_length]at A
   exact k _ _ A
noncomputable def jaC(H:Hp)(ls:List (Nat×List Val)):List Str:=jaP H H.th 16 2++jbz H++(jaJ H ls++jcT H)++jqM H
structure Bd (H:Hp) (ls:List (Nat×List Val)):Prop where
 th: ∀t∈H.th,In t.addr
 at_: ∀p∈H.at_,In p.1
 len:H.at_.length<64
 w1: ∀p∈ls,∀v∈p.2,∀w∈jaf v,In w
 w2: ∀t∈H.th,∀v∈t.slots,∀w∈jaf v,In w
 f: ∀a∈H.fin,In a
 r: ∀a∈H.rdy,In a
 fl:H.fin.length<1000
 rl:H.rdy.length<1000
 z:(jaC H ls).length<100000
theorem jjp{m:Nat}{H:Hp}{lr:Nat}{ls:List (Nat×List Val)}{Y:AHeap}{Q:PV->AHeap->Prop}(V:Hv Y H)(L:Lv Y lr ls)(hs:Srt H)(B:Bd H ls)(k: ∀l Y',Acc Y l (jaC H ls) Y'->Q (.ref l) Y'):C (m+5) 51 [.ref H.h,.ref lr] Y Q:=by
 have szl:=(by decide:(100200:Nat)<sizeLine)
 have z:=B.z
 unfold jaC at z k
 simp only[length_append]at z
 have ne: ∀{rows rows':List Str} {l:Nat} {Y' Y'':AHeap},Acc Y Y.sz rows Y'->Acc Y' l rows' Y''->l≠Y.sz:=fun A B=>by have:=B.new;have:=jac A.at_;walk_at "o"
 refine jap rfl rfl (jge (V.ext (.alloc _ _)) B.th (jwC z) fun l1 aC A1=>?_)
 refine jmZ (o:=2) (i:=3) rfl rfl (by decide) (Acc.start.next A1.chg) A1.at_ (ne .start A1) (by simp only[length_append,length_nil];exact jwD szl z) fun x au A2 C2=>?_
 refine jgd (V.ext A2.chg) B.th B.at_ B.len fun l3 az A3=>?_
 refine jmZ (o:=2) (i:=3) rfl rfl (by decide) (A2.next A3.chg) A3.at_ (ne A2 A3) (by simp only[length_append,length_nil];exact jwE szl z) fun x ay A4 C4=>?_
 refine jdD (V.ext A4.chg) (L.ext A4.chg) hs B.th B.w1 B.w2 (by simp only[length_append];exact jwF z) fun l5 aM A5=>?_
 refine jmZ (o:=2) (i:=3) rfl rfl (by decide) (A4.next A5.chg) A5.at_ (ne A4 A5) (by simp only[length_append,length_nil];exact jwG szl z) fun x aN A6 C6=>?_
 refine jfP (V.ext A6.chg) B.f B.r B.fl B.rl fun l7 aS A7=>?_
 exact jmZ (o:=2) (i:=3) rfl rfl (by decide) (A6.next A7.chg) A7.at_ (ne A6 A7) (by simp only[length_append,length_nil];exact jwH szl z) fun x bl A8 C8=>k _ _ A8
theorem AccL.next{aF Y Y':AHeap}{o:Nat}{xs:List PV}(A:AccL aF o xs Y)(c:Chg [] Y Y'):AccL aF o xs Y':=⟨A.chg.to c,A.new,c.get0 A.at_⟩
end
noncomputable section
theorem AccL.start{Y:AHeap}:AccL Y Y.sz [] (Y.alloc (.list [])):=⟨.alloc _ _,le_refl _,get_alloc_new⟩
theorem jL{Y aF:AHeap}{l:Nat}{xs:List PV}{K:AHeap->Prop}{G:Prop}(A:AccL aF l xs Y)(r:PV)(b:Bool)
  (g:(b=false->K Y)->(b=true->K (Y.set l (.list (xs++ [r]))))->G) (k: ∀ai,AccL aF l (xs++if b=true then [r]else []) ai->Chg [l] Y ai->K ai):G:=
 g (fun h=>k _ (by rw[if_neg (by rw[h];decide),append_nil];exact A) (.refl _ _)) fun h=>k _ (by rw[if_pos h];exact A.put r) (.set (mem_singleton.mpr rfl))
theorem jfr{ah aR:Type}{b:Bool}{xs:List ah}{k:ah}{f:ah->aR}:(xs++if b=true then [k]else []).map f=xs.map f++if b=true then [f k]else []:=by cases b<;>simp
theorem jea{n:Nat}{f:Nat->Bool}:(List.range (n+1)).filter f=(List.range n).filter f++if f n=true then [n]else []:=by rw[List.range_succ,filter_append,filter_cons,filter_nil]
theorem jha{n:Nat}{f:Nat->Bool}:((List.range n).filter f).length<=n:=le_trans (length_filter_le _ _) (Nat.le_of_eq length_range)
noncomputable def jbq(H:Hp)(w:Int):Int:=w/2 ^ H.bits.toNat
theorem jcy{m:Nat}{t:Th}{s:Int}{Y:AHeap}{Q:PV->AHeap->Prop}(h:Y.get t.loc=some (jbR t))(k:Q (.int (t.addr+2+s)) Y):C (m+1) 9 [.ref t.loc,.int s] Y Q:=jap rfl rfl (rd h k)
structure Bits (H:Hp):Prop where
 lo:0<=H.bits
 hi:H.bits<4
theorem jbW{m:Nat}{H:Hp}{w:Int}{Y:AHeap}{Q:PV->AHeap->Prop}(h: ∃a b c d e f g h' i j k,Y.get H.h=some (.inst .heap [a,b,c,d,e,some (.int H.bits),f,g,h',i,j,k]))(hb:Bits H)(hw:0<=w)(k:Q (.int (jbq H w)) Y):C (m+1) 11 [.ref H.h,.int w] Y Q:=
 jtl h fun _ _ _ _ _ _ _ _ _ _ _ h=>jap rfl rfl (rd h (gI hw (gI hb.lo (gI hb.hi k))))
theorem Hv.bits{Y:AHeap}{H:Hp}(V:Hv Y H): ∃a b c d e f g h' i j k,Y.get H.h=some (.inst .heap [a,b,c,d,e,some (.int H.bits),f,g,h',i,j,k]):=⟨_,_,_,_,_,_,_,_,_,_,_,V.h⟩
theorem jnP{m:Nat}{H:Hp}{w:Int}{Y:AHeap}{Q:PV->AHeap->Prop}(h: ∃a b c d e f g h' i j k,Y.get H.h=some (.inst .heap [a,b,c,d,e,some (.int H.bits),f,g,h',i,j,k]))(hb:Bits H)(hw:0<=w)(k:Q (.int (jbq H w)) Y):C (m+2) 20 [.ref H.h,.int w] Y Q:=jap rfl rfl (jbW h hb hw k)
noncomputable def jhP(H:Hp):Prop:=H.at_=H.th.map fun t=>(t.addr,t.loc)
noncomputable def jcK(th:List Th)(a:Int):Option Th:=th.find? fun u=>decide (u.addr=a)
theorem jhe: ∀(th:List Th) (a:Int),(th.map fun t=>(t.addr,t.loc)).lookup a=(jcK th a).map (·.loc)
 | [],_=>rfl
 | t::r,a=>by
  have ih:=jhe r a
  unfold jcK at ih ⊢
  rw[map_cons,lookup_cons,find?_cons]
  by_cases h:t.addr=a
  ·subst h;simp
  ·have:(a==t.addr)=false:=by simp[Ne.symm h]
   simp only[h,decide_false,this]
   exact ih
theorem jdd{th:List Th}{a:Int}{t:Th}(h:jcK th a=some t):t∈th/\t.addr=a:=⟨List.mem_of_find?_eq_some h,by simpa using List.find?_some h⟩
noncomputable def yng(H:Hp)(g:Int)(a:Int):Bool:=match jcK H.th a with
 | some u=>decide (u.gen<g)
 | none=>false
noncomputable def jbA(H:Hp)(g:Int)(v:Val):Bool:=(jal v).any (yng H g)
theorem jod{ah:Type}{l:List ah}{i:Nat}{t:ah}(h:l[i]? =some t)(f:ah->Bool):(l.take (i+1)).any f=((l.take i).any f||f t):=by
 have e:l.take (i+1)=l.take i++ [t]:=by rw[take_add_one,h];rfl
 rw[e,any_append];simp
theorem jqY{H:Hp}(ha:jhP H){a:Int}:(jbu (atE H.at_) a).getD .none=pvO ((jcK H.th a).map (·.loc)):=by rw[joY,show H.at_=_ from ha,jhe]
theorem jeP{m:Nat}{H:Hp}{t:Th}{v:Val}{Y:AHeap}{Q:PV->AHeap->Prop}(V:Hv Y H)(ha:jhP H)(ht:t∈H.th)(k: ∀Y',Chg [] Y Y'->Q (.bool (jbA H t.gen v)) Y'):C (m+2) 22 [.ref H.h,.ref t.loc,v.pv] Y Q:=by
 refine jap rfl rfl (jcX (v:=v) fun l af c1 hl1 hg1=>?_)
 have Vi:=V.ext c1
 have hp:=(Vi.th t ht).1
 unfold jbA at k
 refine jcr (jal v) (fun i Z' Y'=>∃x y,Z'= [some (.ref H.h),some (.ref t.loc),some v.pv,x,y]/\Y'=af/\((jal v).take i).any (yng H t.gen)=false) (fun i Z' Y' zh=>by refine jaT zh fun _ _ _ h _=>h▸hg1) ⟨_,_,rfl,rfl,rfl⟩ ?_ ?_
 ·intro i a Z' Y' hta zu0;refine jaT zu0 fun x' y zq1 zq2 hn=>?_;clear zu0;subst zq1;subst zq2
  have hst:=jod hta (yng H t.gen)
  have hy:yng H t.gen a=match jcK H.th a with
   | some u=>decide (u.gen<t.gen)
   | none=>false:=rfl
  rw[hn,Bool.false_or,hy]at hst
  refine rd Vi.h (rd Vi.al (rd Vi.al (.mk (jqY ha) ?_)))
  cases hu:jcK H.th a with
  | none=>
   rw[hu]at hst
   exact⟨_,_,rfl,rfl,hst⟩
  | some u=>
   rw[hu]at hst
   dsimp only at hst
   refine rd (Vi.th u (jdd hu).1).1 (rd hp (cD (fun hlt=>?_) fun hlt=>⟨_,_,rfl,rfl,by rw[hst];simpa using hlt⟩))
   have:(jal v).any (yng H t.gen)=true:=by
    rw[<- List.take_append_drop (i+1) (jal v),any_append]
    rw[hst,decide_eq_true hlt];rfl
   rw[this]at k
   exact k _ c1
 ·intro Z' Y' zu4;refine jaT zu4 fun x' y zq5 zq6 hn=>?_;clear zu4;subst zq5;subst zq6
  rw[take_length]at hn
  rw[hn]at k
  exact k _ c1
noncomputable def yF(H:Hp)(t:Th)(k:Nat):Bool:=match t.slots[k]? with
 | some v=>jbA H t.gen v
 | none=>false
noncomputable def ySl(H:Hp)(t:Th):List (Th×Nat):=if t.gen>0 then((List.range t.slots.length).filter (yF H t)).map fun k=>(t,k)else []
noncomputable def jaE(H:Hp):List (Th×Nat):=H.th.flatMap (ySl H)
noncomputable def jcU(p:Th×Nat):PV:=.tup [.ref p.1.loc,.int p.2]
theorem jkT(H:Hp)(t:Th):(ySl H t).length<=t.slots.length:=by
 unfold ySl
 split
 ·rw[length_map]
  refine le_trans (length_filter_le _ _) ?_
  simp
 ·simp
theorem jqI{H:Hp}{t:Th}{p:Th×Nat}(h:p∈ySl H t):p.1=t/\p.2<t.slots.length/\t.gen>0/\yF H t p.2=true:=by
 unfold ySl at h
 split at h
 ·rename_i hg
  refine jaj (mem_map.mp h) fun k hk zq7=>?_;subst zq7
  obtain⟨h1,h2⟩:=mem_filter.mp hk
  exact⟨rfl,mem_range.mp h1,hg,h2⟩
 ·cases h
theorem jeo{H:Hp}{p:Th×Nat}(h:p∈jaE H):p.1∈H.th/\p.2<p.1.slots.length/\p.1.gen>0/\yF H p.1 p.2=true:=by
 refine jaj (mem_flatMap.mp h) fun t ht hp=>?_
 obtain⟨rfl,h2⟩:=jqI hp
 exact⟨ht,h2⟩
theorem jcY{m:Nat}{H:Hp}{Y:AHeap}{Q:PV->AHeap->Prop}(V:Hv Y H)(ha:jhP H)(hz:(jaE H).length<100000)(k: ∀l Y',AccL Y l ((jaE H).map jcU) Y'->Q (.ref l) Y'):C (m+3) 23 [.ref H.h] Y Q:=by
 have V1:Hv (Y.alloc (.list [])) H:=V.ext (.alloc _ _)
 refine jap rfl rfl (rd V1.h (jcr H.th (fun i Z' Y'=>∃x y,Z'= [some (.ref H.h),some (.ref Y.sz),x,y]/\AccL Y Y.sz (((H.th.take i).flatMap (ySl H)).map jcU) Y') (fun i Z' Y' zh=>by refine jdp zh fun _ _ _ A=>(V.ext A.chg).tl) ⟨none,none,rfl,AccL.start⟩ ?_ ?_))
 ·intro i t Z' Y' ht zu8;refine jdp zu8 fun x' y zq9 A=>?_;clear zu8;subst zq9
  have hmem:=mem_of_getElem? ht
  have hp:=(V.ext A.chg).th t hmem
  have hst:=jbs ht (ySl H)
  have hle:=jfh H.th i (ySl H)
  have hsm:=V.small.2 t hmem
  unfold jaE at hz
  refine rd hp.1 (cD (fun hg=>rd hp.1 (rd hp.2 (gI (by rw[length_map];exact ja4 (o3 hsm)) (jm5 (n:=t.slots.length) (by rw[length_map]) (o65 hsm) (fun j Z' Y'=>∃y,Z'= [some (.ref H.h),some (.ref Y.sz),some (.ref t.loc),y]/\AccL Y Y.sz ((((H.th.take i).flatMap (ySl H)).map jcU)++(((List.range j).filter (yF H t)).map fun k=>jcU (t,k))) Y') ⟨_,rfl,by simpa using A⟩ ?_ ?_)))) fun hg=>⟨_,_,rfl,?_⟩)
  ·intro kk Z' Y'' hj zu1;refine jaj zu1 fun y zq2 A=>?_;clear zu1;subst zq2
   obtain⟨v,hv⟩: ∃v,t.slots[kk]? =some v:=⟨_,getElem?_eq_getElem hj⟩
   have hyf:yF H t kk=jbA H t.gen v:=by unfold yF;rw[hv]
   have hp:=(V.ext A.chg).th t hmem
   refine rd hp.1 (rd hp.2 (oI (it hv rfl) (jeP (V.ext A.chg) ha hmem fun aI c3=>?_)))
   have A3:=A.next c3
   refine jL A3 (jcU (t,kk)) (jbA H t.gen v) (fun j' j=>cB (fun h=>rd A3.at_ (rd A3.at_ (gI (o19 (by simp only[length_append,length_map];exact jtA hz (by decide) hle hsm hj jha)) (j h)))) j') fun ai A2 C2=>⟨_,rfl,?_⟩
   rw[jea,jfr,<-append_assoc,hyf]
   exact A2
  ·intro Z' Y'' zu5;refine jaj zu5 fun y zq6 A=>⟨_,_,zq6,?_⟩
   rw[hst,map_append]
   have:ySl H t=((List.range t.slots.length).filter (yF H t)).map fun k=>(t,k):=by unfold ySl;rw[if_pos hg]
   rw[this,map_map]
   exact A
  ·rw[hst]
   have:ySl H t= []:=by unfold ySl;rw[if_neg hg]
   rw[this,append_nil]
   exact A
 ·intro Z' Y' zu7;refine jdp zu7 fun x' y zq8 A=>?_;clear zu7;subst zq8
  rw[take_length]at A
  exact k _ _ A
noncomputable def jfv(H:Hp):List (Th×Nat):=(jaE H).filter fun p=> !H.cards.contains (jbq H (p.1.addr+2+p.2))
noncomputable def jfE(p:Th×Nat):PV:=.tup [.int p.1.addr,.int p.2]
theorem jpI{ah:Type}{l:List ah}{i:Nat}{x:ah}(h:l[i]? =some x)(f:ah->Bool):(l.take (i+1)).filter f=(l.take i).filter f++if f x=true then [x]else []:=by
 have e:l.take (i+1)=l.take i++ [x]:=by rw[take_add_one,h];rfl
 rw[e,filter_append,filter_cons,filter_nil]
theorem jpJ{ah:Type}{l:List ah}{i:Nat}{f:ah->Bool}:((l.take i).filter f).length<=i:=le_trans (length_filter_le _ _) (by rw[length_take];exact juY)
theorem jcx{m:Nat}{H:Hp}{Y:AHeap}{Q:PV->AHeap->Prop}(V:Hv Y H)(ha:jhP H)(hb:Bits H)(hin: ∀t∈H.th,In t.addr)(hz:(jaE H).length<100000)(k: ∀l Y',AccL Y l ((jfv H).map jfE) Y'->Q (.ref l) Y'):C (m+4) 25 [.ref H.h] Y Q:=by
 have V1:Hv (Y.alloc (.list [])) H:=V.ext (.alloc _ _)
 refine jap rfl rfl (jcY V1 ha hz fun l aC A1=>?_)
 have hne:l≠Y.sz:=by have:=A1.new;rw[jai]at this;exact juX this
 refine jcr (jaE H) (fun i Z' Y'=>∃x y,Z'= [some (.ref H.h),some (.ref Y.sz),x,y]/\AccL Y Y.sz ((((jaE H).take i).filter fun p=> !H.cards.contains (jbq H (p.1.addr+2+p.2))).map jfE) Y'/\Y'.get l=some (.list ((jaE H).map jcU))) (fun i Z' Y' zh=>by refine jaT zh fun _ _ _ _ h=>h) ⟨none,none,rfl,by simpa using AccL.start.next A1.chg,A1.at_⟩ ?_ ?_
 ·intro i p Z' Y' ht zu9;refine jaT zu9 fun x' y zq0 A hg=>?_;clear zu9;subst zq0
  obtain⟨t,kk⟩:=p
  refine jjF (jeo (mem_of_getElem? ht)) fun hmem hk _ _=>?_
  dsimp only at hmem hk
  have Vi:=V.ext A.chg
  have hp:=(Vi.th t hmem).1
  have hil:=(List.getElem?_eq_some_iff.mp ht).1
  refine jcy hp (jnP Vi.bits hb (o50 (hin t hmem).1) (rd Vi.h (rd Vi.cl (.mk jcM (jL A (jfE (t,kk)) (!H.cards.contains (jbq H (t.addr+2+kk))) (fun j' j=>cB (fun h=>rd A.at_ (rd hp (rd A.at_ (gI (o19 (by rw[length_map];exact jwI hz (by decide) hil jpJ)) (j h))))) j') fun ai A2 C2=>⟨_,_,rfl,?_,C2.get hg (by simpa using hne)⟩)))))
  rw[jpI ht,jfr]
  exact A2
 ·intro Z' Y' zu3;refine jaT zu3 fun x' y zq4 A hg=>?_;clear zu3;subst zq4
  rw[take_length]at A
  exact k _ _ A
end
noncomputable section
noncomputable def hand(H:Hp)(g:Int)(M:List Int)(w:Int):Prop:=w=0\/∃t∈H.th,ja8 H w=some t.loc/\(t.gen>g\/t.addr∈M)
noncomputable def jhK(H:Hp)(w:Int):Prop:=w=0\/∃t∈H.th,ja8 H w=some t.loc
theorem hand.mono{H:Hp}{g:Int}{M M':List Int}{w:Int}(h:hand H g M w)(s: ∀a∈M,a∈M'):hand H g M' w:=by
 rcases h with h | ⟨t,ht,e,h⟩
 ·exact .inl h
 ·exact .inr ⟨t,ht,e,h.imp id (s _)⟩
inductive Grow (H:Hp) (g:Int):List Int->List Th->List Int->List Th->Prop
 | refl {M W}:Grow H g M W M W
 | step {M W M' W' t}:Grow H g M W M' W'->t∈H.th->t.gen<=g->t.addr∉M'->Grow H g M W (M'++ [t.addr]) (W'++ [t])
theorem Grow.trans{H:Hp}{g:Int}{M M' M'':List Int}{W W' W'':List Th}(a:Grow H g M W M' W')(b:Grow H g M' W' M'' W''):Grow H g M W M'' W'':=by
 induction b with
 | refl=>exact a
 | step _ h1 h2 h3 ih=>exact .step ih h1 h2 h3
theorem Grow.sub{H:Hp}{g:Int}{M M':List Int}{W W':List Th}(a:Grow H g M W M' W'): ∀x∈M,x∈M':=by
 induction a with
 | refl=>exact fun _ h=>h
 | step _ _ _ _ ih=>exact fun x h=>mem_append_left _ (ih x h)
structure Mk (H:Hp) (lm lw:Nat) (M:List Int) (W:List Th) (Y:AHeap):Prop where
 m:Y.get lm=some (.dict (jaG M))
 w:Y.get lw=some (.list (W.map fun t=>.ref t.loc))
 ne:lm≠lw
 nm:lm∉H.locs
 nw:lw∉H.locs
theorem Mk.hv{H:Hp}{lm lw:Nat}{M:List Int}{W:List Th}{Y Y':AHeap}(K:Mk H lm lw M W Y)(V:Hv Y H)(c:Chg [lm,lw] Y Y'):Hv Y' H:=
 V.keep c fun l hl h=>by
  simp only[mem_cons,not_mem_nil,or_false]at h
  rcases h with rfl | rfl
  ·exact K.nm hl
  ·exact K.nw hl
theorem jc0{ah:Type}{l:List ah}{i:Nat}{t:ah}{p:ah->Prop}(h:l[i]? =some t)(a: ∀x∈l.take i,p x)(b:p t): ∀x∈l.take (i+1),p x:=fun x hx=>by
 have e:l.take (i+1)=l.take i++ [t]:=by rw[take_add_one,h];rfl
 rw[e]at hx
 rcases mem_append.mp hx with hx | hx
 ·exact a x hx
 ·rw[mem_singleton.mp hx];exact b
theorem jrp{a b c:Nat}(h:a≠b)(h':a≠c):a∉ [b,c]:=fun x=>by
 rcases mem_cons.mp x with x | x
 ·exact h x
 ·exact h' (mem_singleton.mp x)
theorem in2{a b:Nat}:b∈ [a,b]:=mem_cons_of_mem _ (mem_singleton.mpr rfl)
theorem in1{a:Nat}{l:List Nat}:a∈a::l:=List.mem_cons_self
theorem rl'{ah:Type}{f:ah->PV}{rows:List ah}{n:Nat}(h:rows.length<n):(rows.map f).length<n:=by rw[length_map];exact h
theorem jmX{M:List Int}{n:Nat}(h:M.length<n):(jaG M).length<n:=by unfold jaG;rw[length_map];exact h
theorem jfS{m:Nat}{H:Hp}{g w:Int}{lm lw:Nat}{M:List Int}{W:List Th}{Y:AHeap}{Q:PV->AHeap->Prop}(V:Hv Y H)(hs:Srt H)(K:Mk H lm lw M W Y)(hv:jhK H w)(hM:M.length<1000)(hW:W.length<1000)
  (hloc: ∀t∈H.th,∀u∈H.th,t.loc=u.loc->t=u)
  (k: ∀M' W' Y',Grow H g M W M' W'->hand H g M' w->Mk H lm lw M' W' Y'->Chg [lm,lw] Y Y'->Q .none Y'):C (m+2) 14 [.ref H.h,.int w,.int g,.ref lm,.ref lw] Y Q:=by
 refine jap rfl rfl (cD (fun h=>k M W Y .refl (.inl h) K (.refl _ _)) fun h0=>?_)
 rcases hv with hv | ⟨t,ht,hf⟩
 ·exact absurd hv h0
 have hp:=(V.th t ht).1
 refine jcV V hs ?_
 rw[hf]
 have hw2:(Y.set lm (.dict (jhO (jaG M) t.addr (.int 1)))).get lw=some (.list (W.map fun t=>.ref t.loc)):=by rw[jaa K.ne];exact K.w
 refine rd hp (cD (fun hg=>k M W Y .refl (.inr ⟨t,ht,hf,.inl hg⟩) K (.refl _ _)) fun hg=>rd hp (rd K.m (.mk jcM (cB (fun hc=>k M W Y .refl (.inr ⟨t,ht,hf,.inr (by simpa using hc)⟩) K (.refl _ _)) fun hc=>rd hp (rd K.m (gI (jmX (jas hM)) (rd hw2 (rd hw2 (gI (rl' (jas hW)) ?_)))))))))
 have hput:jdE M t.addr=M++ [t.addr]:=by unfold jdE;rw[if_neg (by rw[hc];decide)]
 refine k (M++ [t.addr]) (W++ [t]) _ (.step .refl ht (o52 hg) (by simpa using hc)) (.inr ⟨t,ht,hf,.inr (by simp)⟩) ⟨?_,?_,K.ne,K.nm,K.nw⟩ ((Chg.set in1).to (.set in2))
 ·rw[jaa (Ne.symm K.ne),jad (jac K.m),jdS,hput]
 ·rw[jad (by rw[jan];exact jac K.w),map_append];rfl
noncomputable def un(H:Hp)(M:List Int):Nat:=H.th.countP fun t=> !M.contains t.addr
theorem jiR{ah:Type}{p q:ah->Bool}: ∀{l:List ah},(∀ x∈l,q x=true->p x=true)->(∃ x∈l,p x=true/\q x=false)->l.countP q<l.countP p
 | [],_,⟨x,h,_⟩=>by cases h
 | a::r,h1,⟨x,hx,h2,h3⟩=>by
  rw[List.countP_cons,List.countP_cons]
  have hle:r.countP q<=r.countP p:=List.countP_mono_left fun x hx=>h1 x (.tail _ hx)
  rcases mem_cons.mp hx with rfl | hx
  ·rw[h2,h3];simp;exact jwJ hle
  ·have ih:=jiR (fun x hx=>h1 x (.tail _ hx)) ⟨x,hx,h2,h3⟩
   have:=h1 a (.head _)
   cases hq:q a
   ·simp;exact jwK hle ih
   ·rw[this hq];simp;exact jwL hle ih
theorem jqy{H:Hp}{M:List Int}{t:Th}(ht:t∈H.th)(hn:t.addr∉M):un H (M++ [t.addr])+1<=un H M:=by
 unfold un
 refine jiR (fun x _ h=>?_) ⟨t,ht,by simpa using hn,by simp⟩
 simp only[Bool.not_eq_true',List.contains_eq_any_beq,any_append,Bool.or_eq_false_iff]at h ⊢
 exact h.1
theorem Grow.bound{H:Hp}{g:Int}{M M':List Int}{W W':List Th}(a:Grow H g M W M' W'):M'.length+un H M'<=M.length+un H M/\W'.length+un H M'<=W.length+un H M/\un H M'<=un H M:=by
 induction a with
 | refl=>exact⟨le_refl _,le_refl _,le_refl _⟩
 | step _ h1 h2 h3 ih=>
  have:=jqy h1 h3
  simp only[length_append,length_cons,length_nil]
  exact jwM ih this
theorem jcW{m:Nat}{H:Hp}{g:Int}{v:Val}{lm lw:Nat}{M:List Int}{W:List Th}{Y:AHeap}{Q:PV->AHeap->Prop}(V:Hv Y H)(hs:Srt H)(K:Mk H lm lw M W Y)(hv: ∀w∈jaf v,jhK H w)(hM:M.length+un H M<1000)(hW:W.length+un H M<1000)
  (hloc: ∀t∈H.th,∀u∈H.th,t.loc=u.loc->t=u)
  (k: ∀M' W' Y',Grow H g M W M' W'->(∀ w∈jaf v,hand H g M' w)->Mk H lm lw M' W' Y'->Chg [lm,lw] Y Y'->Q .none Y'):C (m+3) 15 [.ref H.h,v.pv,.int g,.ref lm,.ref lw] Y Q:=by
 refine jap rfl rfl (jgI (v:=v) fun l af c1 hl1 hg1=>?_)
 have hlm:=jac K.m
 have hlw:=jac K.w
 have K1:Mk H lm lw M W af:=⟨c1.get0 K.m,c1.get0 K.w,K.ne,K.nm,K.nw⟩
 refine jcr (jaf v) (fun i Z' Y'=>∃x M' W',Z'= [some (.ref H.h),some v.pv,some (.int g),some (.ref lm),some (.ref lw),x]/\Grow H g M W M' W'/\(∀ w∈(jaf v).take i,hand H g M' w)/\Mk H lm lw M' W' Y'/\Chg [lm,lw] af Y')
  (fun i Z' Y' zh=>by refine jmB zh fun _ _ _ _ _ _ _ c=>c.get hg1 (by simp;exact jwN hl1 hlm hlw)) ⟨_,M,W,rfl,.refl,by simp,K1,.refl _ _⟩ ?_ ?_
 ·intro i w Z' Y' ht zu5;refine jmB zu5 fun x' M' W' zq6 G hh K' c=>?_;clear zu5;subst zq6
  have b:=G.bound
  exact jfS (K1.hv (V.ext c1) c) hs K' (hv w (mem_of_getElem? ht)) (jwO hM b) (jwP hW b) hloc fun M2 W2 au G2 h2 K2 c2=>
   ⟨_,M2,W2,rfl,G.trans G2,jc0 ht (fun w' hw'=>(hh w' hw').mono G2.sub) h2,K2,c.to c2⟩
 ·intro Z' Y' zu8;refine jmB zu8 fun x' M' W' zq9 G hh K' c=>?_;clear zu8;subst zq9
  rw[take_length]at hh
  exact k M' W' Y' G hh K' (c1.nil c)
noncomputable def Cl(H:Hp)(g:Int)(M:List Int)(L:List Th):Prop:=∀t∈H.th,t.gen<=g->t.addr∈M->t∈L\/∀v∈t.slots,∀w∈jaf v,hand H g M w
noncomputable def MOk(H:Hp)(g:Int)(M:List Int):Prop:=∀a∈M,∃t∈H.th,t.addr=a/\t.gen<=g
noncomputable def WOk(H:Hp)(g:Int)(W:List Th):Prop:=∀t∈W,t∈H.th/\t.gen<=g
theorem Grow.mok{H:Hp}{g:Int}{M M':List Int}{W W':List Th}(a:Grow H g M W M' W')(h:MOk H g M):MOk H g M':=by
 induction a with
 | refl=>exact h
 | step _ h1 h2 h3 ih=>
  intro x hx
  rcases mem_append.mp hx with hx | hx
  ·exact ih x hx
  ·exact⟨_,h1,(mem_singleton.mp hx).symm,h2⟩
theorem Grow.wok{H:Hp}{g:Int}{M M':List Int}{W W':List Th}(a:Grow H g M W M' W')(h:WOk H g W):WOk H g W':=by
 induction a with
 | refl=>exact h
 | step _ h1 h2 h3 ih=>
  intro x hx
  rcases mem_append.mp hx with hx | hx
  ·exact ih x hx
  ·rw[mem_singleton.mp hx];exact⟨h1,h2⟩
theorem Grow.cl{H:Hp}{g:Int}{M M':List Int}{W W':List Th}(a:Grow H g M W M' W')(ha: ∀t∈H.th,∀u∈H.th,t.addr=u.addr->t=u){L:List Th}(h:Cl H g M (L++W)):Cl H g M' (L++W'):=by
 induction a with
 | refl=>exact h
 | step G h1 h2 h3 ih=>
  rename_i M1 W1 t1
  intro t ht hg hm
  rcases mem_append.mp hm with hm | hm
  ·rcases ih t ht hg hm with hl | hl
   ·left
    rcases mem_append.mp hl with hl | hl
    ·exact mem_append_left _ hl
    ·exact mem_append_right _ (mem_append_left _ hl)
   ·right
    exact fun v hv w hw=>(hl v hv w hw).mono fun a ha=>mem_append_left _ ha
  ·have:=ha t ht t1 h1 (mem_singleton.mp hm)
   subst this
   left;simp
noncomputable def DI(H:Hp)(g:Int)(lm lw:Nat)(M0:List Int)(Y:AHeap)(n:Nat)(Z':jao)(Y':AHeap):Prop:=
 ∃(M:List Int) (W:List Th) (x y:Option PV),n=W.length+un H M/\Z'= [some (.ref H.h),some (.ref lw),some (.int g),some (.ref lm),x,y]/\Mk H lm lw M W Y'/\Chg [lm,lw] Y Y'/\(∀ a∈M0,a∈M)/\MOk H g M/\WOk H g W/\Cl H g M W/\M.length+un H M<1000/\W.length+un H M<1000
structure Okv (H:Hp):Prop where
 srt:Srt H
 loc: ∀t∈H.th,∀u∈H.th,t.loc=u.loc->t=u
 addr: ∀t∈H.th,∀u∈H.th,t.addr=u.addr->t=u
 val: ∀t∈H.th,∀v∈t.slots,∀w∈jaf v,jhK H w
theorem jnQ{m:Nat}{H:Hp}{g:Int}{lm lw:Nat}{M:List Int}{W:List Th}{Y:AHeap}{Q:PV->AHeap->Prop}(V:Hv Y H)(ae:Okv H)(K:Mk H lm lw M W Y)(hM:M.length+un H M<1000)(hW:W.length+un H M<1000)(h1:MOk H g M)(h2:WOk H g W)(h3:Cl H g M W)
  (k: ∀M' Y',(∀ a∈M,a∈M')->MOk H g M'->Cl H g M' []->Mk H lm lw M' [] Y'->M'.length+un H M'<1000->Chg [lm,lw] Y Y'->Q .none Y'):C (m+4) 16 [.ref H.h,.ref lw,.int g,.ref lm] Y Q:=by
 refine jap rfl rfl (WhR.mk (DI H g lm lw M Y) (W.length+un H M) ⟨M,W,none,none,rfl,rfl,K,.refl _ _,fun _ h=>h,h1,h2,h3,hM,hW⟩ ?_)
 intro n Z' Y' zu0;refine jsf zu0 fun M' W' x y zq1 zq2 K' c hs i1 i2 i3 b1 b2=>?_;clear zu0;subst zq1;subst zq2
 have Vi:=K.hv V c
 rcases List.eq_nil_or_concat W' with rfl | ⟨W',t,rfl⟩
 ·exact rd K'.w (k M' Y' hs i1 i3 K' b1 c)
 ·rw[List.concat_eq_append]at*
  have ht:=(i2 t (by simp)).1
  have hw:=K'.w
  rw[map_append]at hw
  simp only[length_append,length_cons,length_nil]at b2
  have hp:=Vi.th t ht
  have hlw:=jac hw
  have hm1:t.loc∈H.locs:=mem_append_right _ (mem_flatMap.mpr ⟨t,ht,in1⟩)
  have hm2:t.sl∈H.locs:=mem_append_right _ (mem_flatMap.mpr ⟨t,ht,in2⟩)
  have hns:t.sl∉ [lm,lw]:=jrp (fun h=>K.nm (h▸hm2)) fun h=>K.nw (h▸hm2)
  have c2:Chg [lm,lw] Y' (Y'.set lw (.list (W'.map fun t=>.ref t.loc))):=.set in2
  have hp1:=c2.get hp.1 (jrp (fun h=>K.nm (h▸hm1)) fun h=>K.nw (h▸hm1))
  have hp2:=c2.get hp.2 hns
  have K2:Mk H lm lw M' W' (Y'.set lw (.list (W'.map fun t=>.ref t.loc))):=⟨by rw[jaa (Ne.symm K.ne)];exact K'.m,jad hlw,K.ne,K.nm,K.nw⟩
  refine rd hw (gI (by simp;exact ja4 (jwQ b2)) (cD (fun _=>rd hw (.mk rfl (rd hp1 (jcr t.slots (fun i Z' Y''=>∃y M2 W2,Z'= [some (.ref H.h),some (.ref lw),some (.int g),some (.ref lm),some (.ref t.loc),y]/\Grow H g M' W' M2 W2/\Mk H lm lw M2 W2 Y''/\Chg [lm,lw] (Y'.set lw (.list (W'.map fun t=>.ref t.loc))) Y''/\(∀ v∈t.slots.take i,∀w∈jaf v,hand H g M2 w)) (fun i Z' Y'' zh=>by refine jmB zh fun _ _ _ _ _ _ c3 _=>c3.get hp2 hns) ⟨_,M',W',rfl,.refl,K2,.refl _ _,by simp⟩ ?_ ?_)))) fun h=>absurd h (by simp)))
  ·intro i v Z' Y'' hv zu3;refine jmB zu3 fun y M2 W2 zq4 G K3 c3 hh=>?_;clear zu3;subst zq4
   have b:=G.bound
   exact jcW (K.hv V ((c.to c2).to c3)) ae.srt K3 (ae.val t ht v (mem_of_getElem? hv)) (jtB b1 b) (jtC b2 b) ae.loc fun M3 W3 az G3 h3 K4 c4=>
    ⟨_,M3,W3,rfl,G.trans G3,K4,c3.to c4,jc0 hv (fun v' hv' w hw=>(hh v' hv' w hw).mono G3.sub) h3⟩
  ·intro Z' Y'' zu6;refine jmB zu6 fun y M2 W2 zq7 G K3 c3 hh=>?_;clear zu6;subst zq7
   rw[take_length]at hh
   have b:=G.bound
   have w1:WOk H g W':=fun u hu=>i2 u (mem_append_left _ hu)
   have cl1:Cl H g M' ([t]++W'):=fun u hu hg hm=>(i3 u hu hg hm).imp (fun h=>by simp at h ⊢;exact h.symm) id
   have cl3:Cl H g M2 W2:=fun u hu hg hm=>by
    rcases G.cl ae.addr cl1 u hu hg hm with h | h
    ·rcases mem_append.mp h with h | h
     ·rw[mem_singleton.mp h];exact .inr hh
     ·exact .inl h
    ·exact .inr h
   exact⟨W2.length+un H M2,by rw[length_append];exact jwR b,M2,W2,_,_,rfl,rfl,K3,(c.to c2).to c3,fun a ha=>G.sub a (hs a ha),G.mok i1,G.wok w1,cl3,by exact jtB b1 b,by exact jtC b2 b⟩
noncomputable def cF(H:Hp)(t:Th)(k:Nat):Bool:=H.cards.contains (jbq H (t.addr+2+k))
noncomputable def oSl(H:Hp)(g:Int)(t:Th):List (Th×Nat):=if t.gen>g then((List.range t.slots.length).filter (cF H t)).map fun k=>(t,k)else []
noncomputable def jcC(H:Hp)(g:Int):List (Th×Nat):=H.th.flatMap (oSl H g)
theorem oSl_mem{H:Hp}{g:Int}{t:Th}{p:Th×Nat}:p∈oSl H g t<->p.1=t/\p.2<t.slots.length/\t.gen>g/\cF H t p.2=true:=by
 unfold oSl
 split
 ·rename_i hg
  constructor
  ·intro h
   refine jaj (mem_map.mp h) fun k hk zq8=>?_;subst zq8
   obtain⟨h1,h2⟩:=mem_filter.mp hk
   exact⟨rfl,mem_range.mp h1,hg,h2⟩
  ·intro zu9;refine jjF zu9 fun h1 h2 _ h3=>?_;clear zu9
   exact mem_map.mpr ⟨p.2,mem_filter.mpr ⟨mem_range.mpr h2,h3⟩,by rw[<- h1]⟩
 ·rename_i hg
  constructor
  ·intro h;cases h
  ·intro zu0;refine jjF zu0 fun _ _ h _=>?_;clear zu0;exact absurd h hg
theorem oSlots_mem{H:Hp}{g:Int}{p:Th×Nat}:p∈jcC H g<->p.1∈H.th/\p.2<p.1.slots.length/\p.1.gen>g/\cF H p.1 p.2=true:=by
 unfold jcC
 rw[mem_flatMap]
 constructor
 ·intro zu1;refine jaj zu1 fun t ht hp=>?_;clear zu1
  obtain⟨rfl,h⟩:=oSl_mem.mp hp
  exact⟨ht,h⟩
 ·rintro⟨ht,h⟩
  exact⟨p.1,ht,oSl_mem.mpr ⟨rfl,h⟩⟩
theorem jkM{m:Nat}{H:Hp}{g:Int}{Y:AHeap}{Q:PV->AHeap->Prop}(V:Hv Y H)(hb:Bits H)(hin: ∀t∈H.th,In t.addr)(hz:(jcC H g).length<100000)(k: ∀l Y',AccL Y l ((jcC H g).map jcU) Y'->Q (.ref l) Y'):C (m+2) 17 [.ref H.h,.int g] Y Q:=by
 have V1:Hv (Y.alloc (.list [])) H:=V.ext (.alloc _ _)
 refine jap rfl rfl (rd V1.h (jcr H.th (fun i Z' Y'=>∃x y,Z'= [some (.ref H.h),some (.int g),some (.ref Y.sz),x,y]/\AccL Y Y.sz (((H.th.take i).flatMap (oSl H g)).map jcU) Y') (fun i Z' Y' zh=>by refine jdp zh fun _ _ _ A=>(V.ext A.chg).tl) ⟨none,none,rfl,AccL.start⟩ ?_ ?_))
 ·intro i t Z' Y' ht zu2;refine jdp zu2 fun x' y zq3 A=>?_;clear zu2;subst zq3
  have hmem:=mem_of_getElem? ht
  have hp:=(V.ext A.chg).th t hmem
  have hst:=jbs ht (oSl H g)
  have hle:=jfh H.th i (oSl H g)
  have hsm:=V.small.2 t hmem
  unfold jcC at hz
  refine rd hp.1 (cD (fun hg=>rd hp.1 (rd hp.2 (gI (by rw[length_map];exact ja4 (o3 hsm)) (jm5 (n:=t.slots.length) (by rw[length_map]) (o65 hsm) (fun j Z' Y'=>∃y,Z'= [some (.ref H.h),some (.int g),some (.ref Y.sz),some (.ref t.loc),y]/\AccL Y Y.sz ((((H.th.take i).flatMap (oSl H g)).map jcU)++(((List.range j).filter (cF H t)).map fun k=>jcU (t,k))) Y') ⟨_,rfl,by simpa using A⟩ ?_ ?_)))) fun hg=>⟨_,_,rfl,?_⟩)
  ·intro kk Z' Y'' hj zu5;refine jaj zu5 fun y zq6 A=>?_;clear zu5;subst zq6
   have Vj:=V.ext A.chg
   have hp:=(Vj.th t hmem).1
   refine jcy hp (jbW Vj.bits hb (o50 (hin t hmem).1) (rd Vj.h (rd Vj.cl (.mk jcM (jL A (jcU (t,kk)) (cF H t kk) (fun j' j=>cB (fun h=>rd A.at_ (rd A.at_ (gI (o19 (by simp only[length_append,length_map];exact jtA hz (by decide) hle hsm hj jha)) (j h)))) j') fun ai A2 C2=>⟨_,rfl,?_⟩)))))
   rw[jea,jfr,<-append_assoc]
   exact A2
  ·intro Z' Y'' zu9;refine jaj zu9 fun y zq0 A=>⟨_,_,zq0,?_⟩
   rw[hst,map_append]
   have:oSl H g t=((List.range t.slots.length).filter (cF H t)).map fun k=>(t,k):=by unfold oSl;rw[if_pos hg]
   rw[this,map_map]
   exact A
  ·rw[hst]
   have:oSl H g t= []:=by unfold oSl;rw[if_neg hg]
   rw[this,append_nil]
   exact A
 ·intro Z' Y' zu1;refine jdp zu1 fun x' y zq2 A=>?_;clear zu1;subst zq2
  rw[take_length]at A
  exact k _ _ A
noncomputable def jlr(H:Hp)(g:Int)(M:List Int)(ls:List (Nat×List Val)):Prop:=∀p∈ls,∀v∈p.2,∀w∈jaf v,hand H g M w
noncomputable def jsk(H:Hp)(g:Int)(M:List Int)(ps:List (Th×Nat)):Prop:=∀p∈ps,∀v,p.1.slots[p.2]? =some v->∀w∈jaf v,hand H g M w
theorem jrU{m:Nat}{H:Hp}{g:Int}{lr:Nat}{ls:List (Nat×List Val)}{Y:AHeap}{Q:PV->AHeap->Prop}(V:Hv Y H)(ae:Okv H)(L:Lv Y lr ls)(hb:Bits H)(hin: ∀t∈H.th,In t.addr)(hr: ∀p∈ls,∀v∈p.2,∀w∈jaf v,jhK H w)(hz:(jcC H g).length<100000)
  (k: ∀l M Y',Chg [] Y Y'->Y.sz<=l->Y'.get l=some (.dict (jaG M))->MOk H g M->Cl H g M []->jlr H g M ls->(g<2->jsk H g M (jcC H g))->M.length+un H M<1000->Q (.ref l) Y'):C (m+5) 18 [.ref H.h,.ref lr,.int g] Y Q:=by
 have hun:un H []<100:=by
  have:=V.small.1
  unfold un
  exact lt_of_le_of_lt List.countP_le_length this
 have C2:Chg [] Y ((Y.alloc (.dict [])).alloc (.list [])):=(Chg.alloc _ _).to (.alloc _ _)
 have V2:=V.ext C2
 have L2:=L.ext C2
 have nl: ∀x,Y.sz<=x->x∉H.locs:=fun x hx h=>by have:=V.lt x h;exact o15 hx this
 have K2:Mk H Y.sz (Y.sz+1) [] [] ((Y.alloc (.dict [])).alloc (.list [])):=⟨joX,jqK,by exact o26,nl _ (le_refl _),nl _ (o0)⟩
 have lrn: ∀x,x<Y.sz->x∉ [Y.sz,Y.sz+1]:=fun x hx h=>by simp at h;exact jwS hx h
 have lr1:=lrn lr (jac L.lr)
 have lr2: ∀p∈ls,p.1∉ [Y.sz,Y.sz+1]:=fun p hp=>lrn _ (jac (L.each p hp))
 have cut: ∀{Y' Y''},Chg [] Y Y'->Chg [Y.sz,Y.sz+1] Y' Y''->Chg [] Y Y'':=fun c c'=>c.trans c' (fun _ h=>h) fun l hl=>by simp at hl;right;exact o68 hl
 have fin: ∀{M W Y'},Grow H g [] [] M W->Mk H Y.sz (Y.sz+1) M W Y'->Chg [] Y Y'->jlr H g M ls->(g<2->jsk H g M (jcC H g))->
   C (m+4) 16 [.ref H.h,.ref (Y.sz+1),.int g,.ref Y.sz] Y' fun _ af=>Q (.ref Y.sz) af:=fun{M W Y'} G K c h1 h2=>by
  have b:=G.bound
  simp only[length_nil]at b
  refine jnQ (V.ext c) ae K (o66 hun b) (o67 hun b) (G.mok fun a h=>by cases h) (G.wok fun a h=>by cases h) ?_ fun M' au s1 m1 c1 K' bb c2=>?_
  ·have:=G.cl ae.addr (L:=[]) (fun t _ _ h=>by cases h)
   simpa using this
  ·exact k _ M' au (cut c c2) (le_refl _) K'.m m1 c1 (fun p hp v hv w hw=>(h1 p hp v hv w hw).mono s1) (fun hg p hp v hv w hw=>(h2 hg p hp v hv w hw).mono s1) bb
 refine jap rfl rfl (jcr ls (fun i Z' Y'=>∃x y M W,Z'= [some (.ref H.h),some (.ref lr),some (.int g),some (.ref Y.sz),some (.ref (Y.sz+1)),x,y,none,none]/\Grow H g [] [] M W/\Mk H Y.sz (Y.sz+1) M W Y'/\Chg [Y.sz,Y.sz+1] ((Y.alloc (.dict [])).alloc (.list [])) Y'/\jlr H g M (ls.take i))
  (fun i Z' Y' zh=>by refine jmC zh fun _ _ _ _ _ _ _ c _=>c.get L2.lr lr1) ⟨none,none,[],[],by rw[jai];rfl,.refl,K2,.refl _ _,fun p hp=>by simp at hp⟩ ?_ ?_)
 ·intro i p Z' Y' hp zu3;refine jmC zu3 fun x' y M W zq4 G K c hh=>?_;clear zu3;subst zq4
  have hpm:=mem_of_getElem? hp
  refine jcr p.2 (fun j Z' Y''=>∃y M' W',Z'= [some (.ref H.h),some (.ref lr),some (.int g),some (.ref Y.sz),some (.ref (Y.sz+1)),some (.ref p.1),y,none,none]/\Grow H g M W M' W'/\Mk H Y.sz (Y.sz+1) M' W' Y''/\Chg [Y.sz,Y.sz+1] ((Y.alloc (.dict [])).alloc (.list [])) Y''/\∀v∈p.2.take j,∀w∈jaf v,hand H g M' w)
   (fun j Z' Y'' zh=>by refine jmB zh fun _ _ _ _ _ _ c _=>c.get (L2.each p hpm) (lr2 p hpm)) ⟨_,M,W,rfl,.refl,K,c,by simp⟩ ?_ ?_
  ·intro j v Z' Y'' hv zu6;refine jmB zu6 fun y M' W' zq7 G' K' c' hh'=>?_;clear zu6;subst zq7
   have b:=(G.trans G').bound
   simp only[length_nil]at b
   exact jcW (m:=m+1) (K2.hv V2 c') ae.srt K' (hr p hpm v (mem_of_getElem? hv)) (o66 hun b) (o67 hun b) ae.loc fun M3 W3 az G3 h3 K3 c3=>
    ⟨_,M3,W3,rfl,G'.trans G3,K3,c'.to c3,jc0 hv (fun v' hv' w hw=>(hh' v' hv' w hw).mono G3.sub) h3⟩
  ·intro Z' Y'' zu9;refine jmB zu9 fun y M' W' zq0 G' K' c' hh'=>?_;clear zu9;subst zq0
   rw[take_length]at hh'
   exact⟨_,_,M',W',rfl,G.trans G',K',c',jc0 hp (fun q hq v hv w hw=>(hh q hq v hv w hw).mono G'.sub) hh'⟩
 ·intro Z' Y' zu1;refine jmC zu1 fun x' y M W zq2 G K c hh=>?_;clear zu1;subst zq2
  rw[take_length]at hh
  have bS:Chg [] Y Y':=cut C2 c
  refine cD (fun hg=>jkM (m:=m+2) (V.ext bS) hb hin hz fun l aC A1=>?_) fun hg=>fin G K bS hh fun h=>absurd h hg
  have hlm:=jac K.m
  have hlw:=jac K.w
  have K1:Mk H Y.sz (Y.sz+1) M W aC:=⟨A1.chg.get0 K.m,A1.chg.get0 K.w,K.ne,K.nm,K.nw⟩
  have lne:l∉ [Y.sz,Y.sz+1]:=fun h=>by have:=A1.new;simp at h;exact jwT hlm hlw this h
  refine jcr (jcC H g) (fun i Z' Y''=>∃x z M' W',Z'= [some (.ref H.h),some (.ref lr),some (.int g),some (.ref Y.sz),some (.ref (Y.sz+1)),x',y,x,z]/\Grow H g M W M' W'/\Mk H Y.sz (Y.sz+1) M' W' Y''/\Chg [Y.sz,Y.sz+1] aC Y''/\jsk H g M' ((jcC H g).take i)) (fun i Z' Y'' zh=>by refine jmC zh fun _ _ _ _ _ _ _ c _=>c.get A1.at_ lne) ⟨none,none,M,W,rfl,.refl,K1,.refl _ _,fun p hp=>by simp at hp⟩ ?_ ?_
  ·intro i p Z' Y'' hp zu3;refine jmC zu3 fun u z M' W' zq4 G' K' c' hh'=>?_;clear zu3;subst zq4
   obtain⟨t,kk⟩:=p
   refine jjF (oSlots_mem.mp (mem_of_getElem? hp)) fun ht hkk _ _=>?_
   dsimp only at ht hkk
   have Vi:=K1.hv (V.ext (bS.to A1.chg)) c'
   have hpt:=Vi.th t ht
   obtain⟨v,hv⟩: ∃v,t.slots[kk]? =some v:=⟨_,getElem?_eq_getElem hkk⟩
   have b:=(G.trans G').bound
   simp only[length_nil]at b
   refine rd hpt.1 (rd hpt.2 (oI (it hv rfl) (jcW (m:=m+1) Vi ae.srt K' (ae.val t ht v (mem_of_getElem? hv)) (o66 hun b) (o67 hun b) ae.loc fun M3 W3 az G3 h3 K3 c3=>
    ⟨_,_,M3,W3,rfl,G'.trans G3,K3,c'.to c3,jc0 hp (fun q hq v hv w hw=>(hh' q hq v hv w hw).mono G3.sub) fun v' hv' w hw=>?_⟩)))
   dsimp only at hv'
   rw[hv]at hv';cases hv'
   exact h3 w hw
  ·intro Z' Y'' zu7;refine jmC zu7 fun u z M' W' zq8 G' K' c' hh'=>?_;clear zu7;subst zq8
   rw[take_length]at hh'
   exact fin (G.trans G') K' (cut (bS.to A1.chg) c') (fun q hq v hv w hw=>(hh q hq v hv w hw).mono G'.sub) fun _=>hh'
theorem jjv{m:Nat}{H:Hp}{g:Int}{lm la:Nat}{M as:List Int}{Y:AHeap}{Q:PV->AHeap->Prop}(V:Hv Y H)(ae:Okv H)(hm:Y.get lm=some (.dict (jaG M)))(nm:lm∉H.locs)(ha:Y.get la=some (.list (as.map .int)))(hv: ∀a∈as,jhK H a)(h1:MOk H g M)(h2:Cl H g M [])(hb:M.length+un H M<1000)(hu:un H M<1000)
  (k: ∀M' Y',(∀ a∈M,a∈M')->MOk H g M'->Cl H g M' []->(∀ a∈as,hand H g M' a)->Y'.get lm=some (.dict (jaG M'))->Chg [lm] Y Y'->Q .none Y'):C (m+5) 19 [.ref H.h,.ref lm,.ref la,.int g] Y Q:=by
 have C1:Chg [] Y (Y.alloc (.list [])):=.alloc _ _
 have V1:=V.ext C1
 have hlm:=jac hm
 have hla:=jac ha
 have hne:la≠lm:=fun e=>by rw[e,hm]at ha;cases ha
 have K1:Mk H lm Y.sz M [] (Y.alloc (.list [])):=⟨C1.get0 hm,get_alloc_new,by exact o1 hlm,nm,fun h=>by have:=V.lt _ h;exact o12 this⟩
 have lan:la∉ [lm,Y.sz]:=jrp hne (fun h=>o25 hla h)
 refine jap rfl rfl (jcr as (fun i Z' Y'=>∃x M' W',Z'= [some (.ref H.h),some (.ref lm),some (.ref la),some (.int g),some (.ref Y.sz),x]/\Grow H g M [] M' W'/\Mk H lm Y.sz M' W' Y'/\Chg [lm,Y.sz] (Y.alloc (.list [])) Y'/\∀a∈as.take i,hand H g M' a)
  (fun i Z' Y' zh=>by refine jmB zh fun _ _ _ _ _ _ c _=>c.get (C1.get0 ha) lan) ⟨none,M,[],rfl,.refl,K1,.refl _ _,by simp⟩ ?_ ?_)
 ·intro i a Z' Y' hp zu9;refine jmB zu9 fun y M' W' zq0 G K c hh=>?_;clear zu9;subst zq0
  have b:=G.bound
  simp only[length_nil]at b
  exact jfS (m:=m+2) (K1.hv V1 c) ae.srt K (hv a (mem_of_getElem? hp)) (jwU hb b) (jwV hb b) ae.loc fun M3 W3 az G3 h3 K3 c3=>
   ⟨_,M3,W3,rfl,G.trans G3,K3,c.to c3,jc0 hp (fun a' ha'=>(hh a' ha').mono G3.sub) h3⟩
 ·intro Z' Y' zu2;refine jmB zu2 fun y M' W' zq3 G K c hh=>?_;clear zu2;subst zq3
  rw[take_length]at hh
  have b:=G.bound
  simp only[length_nil]at b
  have cl:=G.cl ae.addr (L:=[]) (by simpa using h2)
  refine jnQ (K1.hv V1 c) ae K (jwW hb b) (jwX hb b) (G.mok h1) (G.wok fun a h=>by cases h) (by simpa using cl) fun M2 au s1 m1 c1 K' bb c2=>?_
  have z:=(C1.nil c).to c2
  exact k M2 au (fun a ha=>s1 a (G.sub a ha)) m1 c1 (fun a ha=>(hh a ha).mono s1) K'.m ⟨z.1,fun l hl hn=>z.2 l hl (jrp (fun h=>hn (mem_singleton.mpr h)) fun h=>o25 hl h)⟩
noncomputable def jbr(H:Hp)(M:List Int)(g:Int)(a:Int):Bool:=match jcK H.th a with
 | some t=>decide (t.gen<=g)&& !M.contains a
 | none=>false
theorem jjn{m:Nat}{H:Hp}{g a:Int}{lm:Nat}{M:List Int}{Y:AHeap}{Q:PV->AHeap->Prop}(V:Hv Y H)(hat:jhP H)(hm:Y.get lm=some (.dict (jaG M)))(k:Q (.bool (jbr H M g a)) Y):C (m+1) 27 [.ref H.h,.int a,.ref lm,.int g] Y Q:=by
 refine jap rfl rfl (rd V.h (rd V.al (rd V.al (.mk (jqY hat) ?_))))
 unfold jbr at k
 cases hu:jcK H.th a with
 | none=>
  rw[hu]at k
  exact k
 | some u=>
  rw[hu]at k
  dsimp only at k
  refine rd (V.th u (jdd hu).1).1 (cD (fun h=>rd hm (.mk jcM ?_)) fun h=>?_)
  ·rw[decide_eq_true h,Bool.true_and]at k
   exact cNB (fun hc=>by rw[hc]at k;exact k) fun hc=>by rw[hc]at k;exact k
  ·rw[decide_eq_false h,Bool.false_and]at k
   exact k
end
noncomputable section
noncomputable def jaA(th:List Th):List Nat:=th.flatMap fun t=>[t.loc,t.sl]
structure Nd (H:Hp):Prop where
 six: [H.h,H.tl,H.al,H.cl,H.fl,H.rl].Nodup
 th:(jaA H.th).Nodup
 ap: ∀l∈jaA H.th,l∉ [H.h,H.tl,H.al,H.cl,H.fl,H.rl]
structure Hr (Y:AHeap) (H:Hp):Prop where
 tl:Y.get H.tl=some (.list (H.th.map fun t=>.ref t.loc))
 al:Y.get H.al=some (.dict (atE H.at_))
 cl:Y.get H.cl=some (.dict (jaG H.cards))
 fl:Y.get H.fl=some (.list (H.fin.map .int))
 rl:Y.get H.rl=some (.list (H.rdy.map fun a=>(Val.ref a).pv))
 th: ∀t∈H.th,Y.get t.loc=some (jbR t)/\Y.get t.sl=some (.list (t.slots.map Val.pv))
 small:H.th.length<100/\∀t∈H.th,t.slots.length<100
theorem Nd.ne{H:Hp}(N:Nd H):(H.h≠H.tl/\H.h≠H.al/\H.h≠H.cl/\H.h≠H.fl/\H.h≠H.rl)/\(H.tl≠H.al/\H.tl≠H.cl/\H.tl≠H.fl/\H.tl≠H.rl)/\(H.al≠H.cl/\H.al≠H.fl/\H.al≠H.rl)/\(H.cl≠H.fl/\H.cl≠H.rl)/\H.fl≠H.rl:=by
 have:=N.six
 replace this:=nd6.mp this
 refine jgk this fun a b c d e=>?_;clear this
 exact⟨a,b,c,d,e⟩
theorem jbj{th:List Th}{t:Th}(h:t∈th):t.loc∈jaA th/\t.sl∈jaA th:=⟨mem_flatMap.mpr ⟨t,h,by simp⟩,mem_flatMap.mpr ⟨t,h,by simp⟩⟩
theorem Nd.thne{H:Hp}(N:Nd H){t:Th}(ht:t∈H.th){x:Nat}(hx:x∈ [H.h,H.tl,H.al,H.cl,H.fl,H.rl]):t.loc≠x/\t.sl≠x:=
 ⟨fun e=>N.ap _ (jbj ht).1 (e▸hx),fun e=>N.ap _ (jbj ht).2 (e▸hx)⟩
theorem Hv.setH{Y:AHeap}{H:Hp}(V:Hv Y H)(N:Nd H)(top limit fresh moved made:Int):Hv (Y.set H.h (ja0 {H with top:=top,limit:=limit,fresh:=fresh,moved:=moved,made:=made})) {H with top:=top,limit:=limit,fresh:=fresh,moved:=moved,made:=made}:=by
 obtain⟨⟨a1,a2,a3,a4,a5⟩,_⟩:=N.ne
 refine⟨jad (jac V.h),?_,?_,?_,?_,?_,fun t ht=>?_,V.small⟩
 ·rw[jaa a1];exact V.tl
 ·rw[jaa a2];exact V.al
 ·rw[jaa a3];exact V.cl
 ·rw[jaa a4];exact V.fl
 ·rw[jaa a5];exact V.rl
 ·have n:=N.thne ht (x:=H.h) (by simp)
  rw[jaa (Ne.symm n.1),jaa (Ne.symm n.2)]
  exact V.th t ht
theorem Hv.setCl{Y:AHeap}{H:Hp}(V:Hv Y H)(N:Nd H)(c:List Int):Hv (Y.set H.cl (.dict (jaG c))) {H with cards:=c}:=by
 refine jgk N.ne fun zv4 zv5 zv6 zv7 e=>?_;obtain⟨a1,a2,a3,a4,a5⟩:=zv4;obtain⟨b1,b2,b3,b4⟩:=zv5;obtain⟨c1,c2,c3⟩:=zv6;obtain⟨d1,d2⟩:=zv7
 refine⟨?_,?_,?_,jad (jac V.cl),?_,?_,fun t ht=>?_,V.small⟩
 ·rw[jaa (Ne.symm a3)];exact V.h
 ·rw[jaa (Ne.symm b2)];exact V.tl
 ·rw[jaa (Ne.symm c1)];exact V.al
 ·rw[jaa d1];exact V.fl
 ·rw[jaa d2];exact V.rl
 ·have n:=N.thne ht (x:=H.cl) (by simp)
  rw[jaa (Ne.symm n.1),jaa (Ne.symm n.2)]
  exact V.th t ht
theorem Hv.setFl{Y:AHeap}{H:Hp}(V:Hv Y H)(N:Nd H)(c:List Int):Hv (Y.set H.fl (.list (c.map .int))) {H with fin:=c}:=by
 refine jgk N.ne fun zv8 zv9 zv0 zv1 e=>?_;obtain⟨a1,a2,a3,a4,a5⟩:=zv8;obtain⟨b1,b2,b3,b4⟩:=zv9;obtain⟨c1,c2,c3⟩:=zv0;obtain⟨d1,d2⟩:=zv1
 refine⟨?_,?_,?_,?_,jad (jac V.fl),?_,fun t ht=>?_,V.small⟩
 ·rw[jaa (Ne.symm a4)];exact V.h
 ·rw[jaa (Ne.symm b3)];exact V.tl
 ·rw[jaa (Ne.symm c2)];exact V.al
 ·rw[jaa (Ne.symm d1)];exact V.cl
 ·rw[jaa e];exact V.rl
 ·have n:=N.thne ht (x:=H.fl) (by simp)
  rw[jaa (Ne.symm n.1),jaa (Ne.symm n.2)]
  exact V.th t ht
theorem Hv.setRl{Y:AHeap}{H:Hp}(V:Hv Y H)(N:Nd H)(c:List Int):Hv (Y.set H.rl (.list (c.map fun a=>(Val.ref a).pv))) {H with rdy:=c}:=by
 refine jgk N.ne fun zv2 zv3 zv4 zv5 e=>?_;obtain⟨a1,a2,a3,a4,a5⟩:=zv2;obtain⟨b1,b2,b3,b4⟩:=zv3;obtain⟨c1,c2,c3⟩:=zv4;obtain⟨d1,d2⟩:=zv5
 refine⟨?_,?_,?_,?_,?_,jad (jac V.rl),fun t ht=>?_,V.small⟩
 ·rw[jaa (Ne.symm a5)];exact V.h
 ·rw[jaa (Ne.symm b4)];exact V.tl
 ·rw[jaa (Ne.symm c3)];exact V.al
 ·rw[jaa (Ne.symm d2)];exact V.cl
 ·rw[jaa (Ne.symm e)];exact V.fl
 ·have n:=N.thne ht (x:=H.rl) (by simp)
  rw[jaa (Ne.symm n.1),jaa (Ne.symm n.2)]
  exact V.th t ht
theorem Hv.newFl{Y:AHeap}{H:Hp}(V:Hv Y H)(N:Nd H){l:Nat}{c:List Int}(h:Y.get l=some (.list (c.map .int)))(hl:l∉H.locs):Hv (Y.set H.h (ja0 {H with fl:=l,fin:=c})) {H with fl:=l,fin:=c}:=by
 obtain⟨⟨a1,a2,a3,a4,a5⟩,_⟩:=N.ne
 have nh:H.h≠l:=fun e=>hl (by walk_at "l")
 refine⟨jad (jac V.h),?_,?_,?_,?_,?_,fun t ht=>?_,V.small⟩
 ·rw[jaa a1];exact V.tl
 ·rw[jaa a2];exact V.al
 ·rw[jaa a3];exact V.cl
 ·rw[jaa nh];exact h
 ·rw[jaa a5];exact V.rl
 ·have n:=N.thne ht (x:=H.h) (by simp)
  rw[jaa (Ne.symm n.1),jaa (Ne.symm n.2)]
  exact V.th t ht
theorem Hv.newCl{Y:AHeap}{H:Hp}(V:Hv Y H)(N:Nd H){l:Nat}{c:List Int}(h:Y.get l=some (.dict (jaG c)))(hl:l∉H.locs):Hv (Y.set H.h (ja0 {H with cl:=l,cards:=c})) {H with cl:=l,cards:=c}:=by
 obtain⟨⟨a1,a2,a3,a4,a5⟩,_⟩:=N.ne
 have nh:H.h≠l:=fun e=>hl (by walk_at "l")
 refine⟨jad (jac V.h),?_,?_,?_,?_,?_,fun t ht=>?_,V.small⟩
 ·rw[jaa a1];exact V.tl
 ·rw[jaa a2];exact V.al
 ·rw[jaa nh];exact h
 ·rw[jaa a4];exact V.fl
 ·rw[jaa a5];exact V.rl
 ·have n:=N.thne ht (x:=H.h) (by simp)
  rw[jaa (Ne.symm n.1),jaa (Ne.symm n.2)]
  exact V.th t ht
theorem jmp{m:Nat}{H:Hp}{a:Int}{Y:AHeap}{Q:PV->AHeap->Prop}(V:Hv Y H)(N:Nd H)(hz:H.fin.length<1000)(k: ∀Y',Hv Y' {H with fin:=H.fin++ [a]}->Chg [H.fl] Y Y'->Q .none Y'):C (m+1) 31 [.ref H.h,.int a] Y Q:=by
 have:=V.setFl N (H.fin++ [a])
 rw[map_append]at this
 exact jap rfl rfl (rd V.h (rd V.fl (rd V.fl (gI (rl' (jas hz)) (k _ this (.set in1))))))
theorem jkK{m:Nat}{H:Hp}{w:Int}{Y:AHeap}{Q:PV->AHeap->Prop}(V:Hv Y H)(N:Nd H)(hb:Bits H)(hw:0<=w)(hz:H.cards.length<1000)(k: ∀Y',Hv Y' {H with cards:=jdE H.cards (jbq H w)}->Chg [H.cl] Y Y'->Q .none Y'):C (m+2) 21 [.ref H.h,.int w] Y Q:=by
 have:=V.setCl N (jdE H.cards (jbq H w))
 rw[<- jdS]at this
 exact jap rfl rfl (rd V.h (jbW V.bits hb hw (rd V.cl (gI (jmX (jas hz)) (k _ this (.set in1))))))
theorem jeC{m:Nat}{H:Hp}{Y:AHeap}{Q:PV->AHeap->Prop}(V:Hv Y H)(k:Q (.int (H.top-16)) Y):C (m+1) 6 [.ref H.h] Y Q:=jap rfl rfl (rd V.h k)
theorem jeO{m:Nat}{H:Hp}{g:Int}{Y:AHeap}{Q:PV->AHeap->Prop}(V:Hv Y H)(N:Nd H)(k: ∀lim Y',Hv Y' {H with limit:=lim,fresh:=0}->Chg [H.h] Y Y'->Q .none Y'):C (m+2) 7 [.ref H.h,.int g] Y Q:=by
 have V1:=V.setH N H.top H.limit 0 H.moved H.made
 have c1:Chg [H.h] Y (Y.set H.h (ja0 {H with fresh:=0})):=.set in1
 exact jap rfl rfl (rd V.h (cD (fun hg=>jeC (H:={H with fresh:=0}) V1 (rd V1.h (cD (fun h=>jeC (H:={H with fresh:=0}) V1 (rd V1.h (k (2*(H.top-16)) _ (V1.setH ⟨N.six,N.th,N.ap⟩ H.top (2*(H.top-16)) 0 H.moved H.made) (c1.to (.set in1))))) fun h=>k H.limit _ V1 c1))) fun hg=>k H.limit _ V1 c1))
noncomputable def jet(v:Val):Bool:=match v with
 | .ref a=> !decide (a=0)
 | v=> !(jal v).isEmpty
theorem jkA: ∀{v:Val} {a:Int},a∈jal v->a≠0
 | .ref b,a,h=>by
  simp only[jal]at h
  split at h
  ·cases h
  ·rw[mem_singleton.mp h];assumption
 | .one b,a,h=>by
  simp only[jal]at h
  split at h
  ·cases h
  ·rw[mem_singleton.mp h];assumption
 | .two b c,a,h=>by
  simp only[jal]at h
  rcases mem_append.mp h with h | h
  ·split at h
   ·cases h
   ·rw[mem_singleton.mp h];assumption
  ·split at h
   ·cases h
   ·rw[mem_singleton.mp h];assumption
 | .i4 n,a,h=>by simp[jal]at h
 | .pl w z,a,h=>by simp[jal]at h
 | .lc,a,h=>by simp[jal]at h
theorem jp7(v:Val):(∃ a,v= .ref a)\/∃tag r,v.pv= .tup (.int tag::r)/\tag≠4/\jet v= !(jal v).isEmpty:=by
 cases v with
 | ref a=>exact .inl ⟨a,rfl⟩
 | i4 a=>exact .inr ⟨1,_,rfl,by decide,rfl⟩
 | one a=>exact .inr ⟨5,_,rfl,by decide,rfl⟩
 | two a b=>exact .inr ⟨5,_,rfl,by decide,rfl⟩
 | pl w z=>exact .inr ⟨6,_,rfl,by decide,rfl⟩
 | lc=>exact .inr ⟨6,_,rfl,by decide,rfl⟩
theorem jej{m:Nat}{v:Val}{Y:AHeap}{Q:PV->AHeap->Prop}(k: ∀Y',Chg [] Y Y'->Q (.bool (jet v)) Y'):C (m+2) 10 [v.pv] Y Q:=by
 rcases jp7 v with ⟨a,rfl⟩ | ⟨tag,r,e,ht,hh⟩
 ·exact jap rfl rfl (k Y (.refl _ _))
 have tw:= @jcX m v
 rw[e]at tw ⊢
 refine jap rfl rfl (cD (fun h=>absurd h ht) fun _=>tw fun l af c1 _ hg1=>jcr (jal v) (fun i Z' Y'=>Z'= [some (.tup (.int tag::r)),none]/\Y'=af/\i=0) (fun i Z' Y' h=>h.2.1▸hg1) ⟨rfl,rfl,rfl⟩ ?_ ?_)
 ·intro i a Z' Y' ha zu6;refine jdo zu6 fun zq7 zq8 zq9=>?_;clear zu6;subst zq7;subst zq8;subst zq9
  have hm:=mem_of_getElem? ha
  have hne:(jal v).isEmpty=false:=by cases h:jal v with
   | nil=>rw[h]at hm;cases hm
   | cons a r=>rfl
  rw[hh,hne]at k
  exact cN (fun _=>k _ c1) fun h=>absurd h (jkA hm)
 ·intro Z' Y' zu1;refine jdo zu1 fun zq2 zq3 h=>?_;clear zu1;subst zq2;subst zq3
  have:(jal v).isEmpty=true:=by
   rw[List.isEmpty_iff];exact List.eq_nil_of_length_eq_zero h
  rw[hh,this]at k
  exact k _ c1
theorem jhE{th:List Th}(h:(jaA th).Nodup){t:Th}(ht:t∈th):t.loc≠t.sl:=by
 unfold jaA at h
 rw[nodup_iff_pairwise_ne,List.pairwise_flatMap]at h
 have:=h.1 t ht
 simp at this
 exact this
theorem jgJ{th:List Th}(h:(jaA th).Nodup){i j:Nat}{t u:Th}(hi:th[i]? =some t)(hj:th[j]? =some u)(hne:i≠j):t.loc≠u.loc/\t.loc≠u.sl/\t.sl≠u.loc/\t.sl≠u.sl:=by
 unfold jaA at h
 rw[nodup_iff_pairwise_ne,List.pairwise_flatMap]at h
 have h2:=pairwise_iff_getElem.mp h.2
 have li:=(List.getElem?_eq_some_iff.mp hi).1
 have lj:=(List.getElem?_eq_some_iff.mp hj).1
 have ei:=(List.getElem?_eq_some_iff.mp hi).2
 have ej:=(List.getElem?_eq_some_iff.mp hj).2
 rcases Nat.lt_or_gt_of_ne hne with hlt | hlt
 ·have:=h2 i j li lj hlt
  rw[ei,ej]at this
  exact⟨this _ (by simp) _ (by simp),this _ (by simp) _ (by simp),this _ (by simp) _ (by simp),this _ (by simp) _ (by simp)⟩
 ·have:=h2 j i lj li hlt
  rw[ei,ej]at this
  exact⟨Ne.symm (this _ (by simp) _ (by simp)),Ne.symm (this _ (by simp) _ (by simp)),Ne.symm (this _ (by simp) _ (by simp)),Ne.symm (this _ (by simp) _ (by simp))⟩
theorem Hv.setSl{Y:AHeap}{H:Hp}(V:Hv Y H)(N:Nd H){i:Nat}{t:Th}(hi:H.th[i]? =some t){s:List Val}(hs:s.length<100):Hv (Y.set t.sl (.list (s.map Val.pv))) {H with th:=H.th.set i {t with slots:=s}}:=by
 have ht:=mem_of_getElem? hi
 have n:=fun x hx=>(N.thne ht (x:=x) hx).2
 have lt:=jac (V.th t ht).2
 have hmap:(H.th.set i {t with slots:=s}).map (fun t=>PV.ref t.loc)=H.th.map fun t=>PV.ref t.loc:=by
  apply List.ext_getElem?
  intro j
  rw[getElem?_map,getElem?_map,getElem?_set]
  by_cases h:i=j
  ·subst h
   rw[if_pos rfl,hi]
   split<;>rename_i h2
   ·rfl
   ·exact absurd (List.getElem?_eq_some_iff.mp hi).1 h2
  ·rw[if_neg h]
 refine⟨?_,?_,?_,?_,?_,?_,fun u hu=>?_,?_⟩
 ·rw[jaa (n _ (by simp))];exact V.h
 ·rw[jaa (n _ (by simp))];show _=some (PObj.list ((H.th.set i {t with slots:=s}).map _));rw[hmap];exact V.tl
 ·rw[jaa (n _ (by simp))];exact V.al
 ·rw[jaa (n _ (by simp))];exact V.cl
 ·rw[jaa (n _ (by simp))];exact V.fl
 ·rw[jaa (n _ (by simp))];exact V.rl
 ·obtain⟨j,hj⟩:=mem_iff_getElem?.mp hu
  have hj:(H.th.set i {t with slots:=s})[j]? =some u:=hj
  rw[getElem?_set]at hj
  by_cases h:i=j
  ·rw[if_pos h]at hj
   split at hj
   ·cases hj
    exact⟨by rw[jaa (Ne.symm (jhE N.th ht))];exact(V.th t ht).1,jad lt⟩
   ·cases hj
  ·rw[if_neg h]at hj
   have sp:=jgJ N.th hi hj h
   have hu':=V.th u (mem_of_getElem? hj)
   exact⟨by rw[jaa sp.2.2.1];exact hu'.1,by rw[jaa sp.2.2.2];exact hu'.2⟩
 ·refine⟨by rw[length_set];exact V.small.1,fun u hu=>?_⟩
  rcases mem_or_eq_of_mem_set hu with h | h
  ·exact V.small.2 u h
  ·rw[h];exact hs
theorem jjB{th:List Th}{i:Nat}{t t':Th}(hi:th[i]? =some t)(h1:t'.loc=t.loc)(h2:t'.sl=t.sl):jaA (th.set i t')=jaA th:=by
 unfold jaA
 rw[List.flatMap_def,List.flatMap_def]
 congr 1
 apply List.ext_getElem?
 intro j
 rw[getElem?_map,getElem?_map,getElem?_set]
 by_cases h:i=j
 ·subst h
  rw[if_pos rfl,hi,if_pos (List.getElem?_eq_some_iff.mp hi).1]
  simp[h1,h2]
 ·rw[if_neg h]
theorem Nd.setTh{H:Hp}(N:Nd H){i:Nat}{t t':Th}(hi:H.th[i]? =some t)(h1:t'.loc=t.loc)(h2:t'.sl=t.sl):Nd {H with th:=H.th.set i t'}:=by
 have e:=jjB hi h1 h2
 refine⟨N.six,?_,?_⟩
 ·show(jaA (H.th.set i t')).Nodup
  rw[e];exact N.th
 ·show ∀l∈jaA (H.th.set i t'),_
  rw[e];exact N.ap
noncomputable def jbn(H:Hp)(i:Nat)(t:Th)(k:Nat)(v:Val):Hp:=
 {H with th:=H.th.set i {t with slots:=t.slots.set k v},cards:=if t.gen>0/\jet v=true then jdE H.cards (jbq H (t.addr+2+k))else H.cards}
theorem jdV{H:Hp}{i:Nat}{t t':Th}(hi:H.th[i]? =some t):t'∈H.th.set i t':=mem_iff_getElem?.mpr ⟨i,by rw[getElem?_set,if_pos rfl,if_pos (List.getElem?_eq_some_iff.mp hi).1]⟩
theorem ilt{k n:Nat}{xs:List PV}(h:k<n)(e:xs.length=n):(k:Int)<(xs.length:Int):=ofNat_lt.mpr (e▸h)
theorem jjx{m:Nat}{H:Hp}{i k:Nat}{t:Th}{v:Val}{Y:AHeap}{Q:PV->AHeap->Prop}(V:Hv Y H)(N:Nd H)(hb:Bits H)(hi:H.th[i]? =some t)(hk:k<t.slots.length)(hin:In t.addr)(hz:H.cards.length<1000)
  (kk: ∀Y',Hv Y' (jbn H i t k v)->Chg [t.sl,H.cl] Y Y'->Q .none Y'):C (m+3) 12 [.ref H.h,.ref t.loc,.int k,v.pv] Y Q:=by
 have ht:=mem_of_getElem? hi
 have hp:=V.th t ht
 have V1:=V.setSl N hi (s:=t.slots.set k v) (by rw[length_set];exact V.small.2 t ht)
 rw[map_set]at V1
 have N1:=N.setTh hi (t':={t with slots:=t.slots.set k v}) rfl rfl
 have c1:Chg [t.sl,H.cl] Y (Y.set t.sl (.list ((t.slots.map Val.pv).set k v.pv))):=.set in1
 have ht1:=jdV (t':={t with slots:=t.slots.set k v}) hi
 have no: ¬(t.gen>0/\jet v=true)->jbn H i t k v={H with th:=H.th.set i {t with slots:=t.slots.set k v}}:=fun h=>by unfold jbn;rw[if_neg h]
 refine jap rfl rfl (rd hp.1 (rd hp.2 (gI (ilt hk (length_map _)) (rd (V1.th _ ht1).1 (cD (fun hg=>jej (m:=m) fun au c2=>?_) fun hg=>kk _ (by rw[no fun h=>hg h.1];exact V1) c1)))))
 have V2:=V1.ext c2
 refine cB (fun hh=>rd V2.h (jcy (t:={t with slots:=t.slots.set k v}) (V2.th _ ht1).1 (jbW (H:={H with th:=H.th.set i {t with slots:=t.slots.set k v}}) V2.bits ⟨hb.lo,hb.hi⟩ (o50 hin.1) (rd V2.cl (gI (jmX (jas hz)) (kk _ ?_ ((c1.thenNil c2).to (.set in2)))))))) fun hh=>kk _ (by rw[no fun h=>by rw[hh]at h;cases h.2];exact V2) (c1.thenNil c2)
 have:=V2.setCl N1 (jdE H.cards (jbq H (t.addr+2+k)))
 rw[<- jdS]at this
 have e:jbn H i t k v={H with th:=H.th.set i {t with slots:=t.slots.set k v},cards:=jdE H.cards (jbq H (t.addr+2+k))}:=by unfold jbn;rw[if_pos ⟨hg,hh⟩]
 rw[e];exact this
theorem jlq{l:List (Int×Nat)}{a:Int}{n:Nat}(h: ∀p∈l,p.1≠a):jhO (atE l) a (.ref n)=atE (l++ [(a,n)]):=by
 unfold jhO
 have:(atE l).any (fun p=>decide (p.1=a))=false:=by
  rw[List.any_eq_false]
  intro p hp
  unfold atE at hp
  refine jaj (mem_map.mp hp) fun q hq zq4=>?_;subst zq4
  simpa using h q hq
 rw[if_neg (by rw[this];decide)]
 unfold atE;simp
noncomputable def szF(n:Nat):Int:=if 2+(n:Int)<3 then 3 else 2+n
theorem jjq{m:Nat}{l sl:Nat}{a kd:Int}{xs:List PV}{Y:AHeap}{Q:PV->AHeap->Prop}(h:Y.get l=some (.inst .thing [none,none,none,none,none,none]))(hs:Y.get sl=some (.list xs))(hz:xs.length<1000)
  (k:Q .none (Y.set l (jbR ⟨l,sl,a,kd,0,szF xs.length,0,[]⟩))):C (m+2) 79 [.ref l,.int a,.int kd,.ref sl] Y Q:=by
 have hlt:=jac h
 have hne:l≠sl:=fun e=>by rw[e,hs]at h;cases h
 have gs: ∀{aO:AHeap} {o},l<aO.sz->(aO.set l o).get l=some o/\l<(aO.set l o).sz:=fun h=>⟨jad h,by rw[jan];exact h⟩
 have gn: ∀{aO:AHeap} {o},(aO.set l o).get sl=aO.get sl:=jaa hne
 refine jap rfl rfl (rd h (rd (gs hlt).1 (rd (gs (gs hlt).2).1 (rd (gs (gs (gs hlt).2).2).1 (rd (gn.trans (gn.trans (gn.trans (gn.trans hs)))) (gI (ja4 hz) (jkO (rd (gs (gs (gs (gs hlt).2).2).2).1 (rd (gs (gs (gs (gs (gs hlt).2).2).2).2).1 ?_)))))))))
 show Q .none ((((((Y.set l _).set l _).set l _).set l _).set l _).set l _)
 rw[set_set,set_set,set_set,set_set,set_set]
 exact k
noncomputable def jcj(H:Hp)(loc sl:Nat)(kd:Int)(s:List Val):Th:=⟨loc,sl,H.top,kd,0,szF s.length,H.made+1,s⟩
noncomputable def jaD(H:Hp)(t:Th):Hp:={H with th:=H.th++ [t],at_:=H.at_++ [(t.addr,t.loc)],top:=H.top+t.size,fresh:=H.fresh+t.size,made:=H.made+1}
structure Dis (Y:AHeap) (a b c:Nat):Prop where
 ab:a≠b
 ac:a≠c
 bc:b≠c
 an:a<Y.sz
 bn:b<Y.sz
 cn:c<Y.sz
structure F4 (Y:AHeap) (a b c:Nat) (x y z w:PObj) (Y':AHeap):Prop where
 h:Y'.get a=some x
 t:Y'.get b=some y
 l:Y'.get c=some z
 n:Y'.get Y.sz=some w
 r: ∀l,l<Y.sz->l≠a->l≠b->l≠c->Y'.get l=Y.get l
 sz:Y.sz<Y'.sz
section
variable{Y Y':AHeap}{a b c:Nat}{x y z w:PObj}
theorem F4.sh(F:F4 Y a b c x y z w Y')(D:Dis Y a b c)(o:PObj):F4 Y a b c o y z w (Y'.set a o):=
 ⟨jad (jac F.h),(jaa D.ab).trans F.t,(jaa D.ac).trans F.l,(jaa (ne_of_lt D.an)).trans F.n,fun l h h1 h2 h3=>(jaa (Ne.symm h1)).trans (F.r l h h1 h2 h3),by rw[jan];exact F.sz⟩
theorem F4.st(F:F4 Y a b c x y z w Y')(D:Dis Y a b c)(o:PObj):F4 Y a b c x o z w (Y'.set b o):=
 ⟨(jaa (Ne.symm D.ab)).trans F.h,jad (jac F.t),(jaa D.bc).trans F.l,(jaa (ne_of_lt D.bn)).trans F.n,fun l h h1 h2 h3=>(jaa (Ne.symm h2)).trans (F.r l h h1 h2 h3),by rw[jan];exact F.sz⟩
theorem F4.sl(F:F4 Y a b c x y z w Y')(D:Dis Y a b c)(o:PObj):F4 Y a b c x y o w (Y'.set c o):=
 ⟨(jaa (Ne.symm D.ac)).trans F.h,(jaa (Ne.symm D.bc)).trans F.t,jad (jac F.l),(jaa (ne_of_lt D.cn)).trans F.n,fun l h h1 h2 h3=>(jaa (Ne.symm h3)).trans (F.r l h h1 h2 h3),by rw[jan];exact F.sz⟩
theorem F4.sn(F:F4 Y a b c x y z w Y')(D:Dis Y a b c)(o:PObj):F4 Y a b c x y z o (Y'.set Y.sz o):=
 ⟨(jaa (ne_of_gt D.an)).trans F.h,(jaa (ne_of_gt D.bn)).trans F.t,(jaa (ne_of_gt D.cn)).trans F.l,jad (jac F.n),fun l h h1 h2 h3=>(jaa (ne_of_gt h)).trans (F.r l h h1 h2 h3),by rw[jan];exact F.sz⟩
end
theorem jjo{m:Nat}{H:Hp}{sl:Nat}{kd:Int}{s:List Val}{Y:AHeap}{Q:PV->AHeap->Prop}(V:Hv Y H)(N:Nd H)(hs:Y.get sl=some (.list (s.map Val.pv)))(hsl:sl∉H.locs)(hz:s.length<100)(hth:H.th.length<99)(hat:H.at_.length<1000)(hk: ∀p∈H.at_,p.1≠H.top)
  (k: ∀Y',Hv Y' (jaD H (jcj H Y.sz sl kd s))->Chg [H.h,H.tl,H.al] Y Y'->Q (.ref Y.sz) Y'):C (m+3) 5 [.ref H.h,.int kd,.ref sl] Y Q:=by
 have hal:(atE H.at_).length<sizeLine:=by unfold atE;rw[length_map];exact jas hat
 have c0:Chg [] Y (Y.alloc (.inst .thing [none,none,none,none,none,none])):=.alloc _ _
 have D:Dis Y H.h H.tl H.al:=⟨N.ne.1.1,N.ne.1.2.1,N.ne.2.1.1,jac V.h,jac V.tl,jac V.al⟩
 have F0:F4 Y H.h H.tl H.al (ja0 H) (.list (H.th.map fun t=>.ref t.loc)) (.dict (atE H.at_)) _ (Y.alloc (.inst .thing [none,none,none,none,none,none])):=⟨c0.get0 V.h,c0.get0 V.tl,c0.get0 V.al,get_alloc_new,fun l h _ _ _=>jae h,by rw[jai];exact o2⟩
 have F1:=F0.sn D (jbR ⟨Y.sz,sl,H.top,kd,0,szF (s.map Val.pv).length,0,[]⟩)
 have F2:=F1.sh D (ja0 {H with made:=H.made+1})
 have F3:=F2.sn D (jbR ⟨Y.sz,sl,H.top,kd,0,szF (s.map Val.pv).length,H.made+1,[]⟩)
 have F4':=F3.st D (.list ((H.th.map fun t=>.ref t.loc)++ [.ref Y.sz]))
 have F5:=F4'.sl D (.dict (jhO (atE H.at_) H.top (.ref Y.sz)))
 have F6:=F5.sh D (ja0 {H with made:=H.made+1,top:=H.top+szF (s.map Val.pv).length})
 have F7:=F6.sh D (ja0 {H with made:=H.made+1,top:=H.top+szF (s.map Val.pv).length,fresh:=H.fresh+szF (s.map Val.pv).length})
 refine jap rfl rfl (rd V.h (jjq (xs:=s.map Val.pv) get_alloc_new (c0.get0 hs) (by rw[length_map];exact o3 hz) ⟨rfl,rd F1.h (rd F1.h (rd F2.h (rd F2.n (rd F3.h (rd F3.t (rd F3.t (gI (rl' (jas (jtD hth))) (rd F4'.h (rd F4'.n (rd F4'.l (gI hal (rd F5.h (rd F5.n (rd F5.h (rd F6.h (rd F6.n (rd F6.h (k _ ⟨?_,?_,?_,?_,?_,?_,fun t ht=>?_,?_⟩ ?_))))))))))))))))))⟩))
 ·exact F7.h.trans (by rw[length_map];rfl)
 ·refine F7.t.trans ?_;show _=some (PObj.list (map _ (H.th++ [jcj H Y.sz sl kd s])));rw[map_append];rfl
 ·exact F7.l.trans (by rw[jlq hk];rfl)
 ·exact(F7.r _ (jac V.cl) (Ne.symm N.ne.1.2.2.1) (Ne.symm N.ne.2.1.2.1) (Ne.symm N.ne.2.2.1.1)).trans V.cl
 ·exact(F7.r _ (jac V.fl) (Ne.symm N.ne.1.2.2.2.1) (Ne.symm N.ne.2.1.2.2.1) (Ne.symm N.ne.2.2.1.2.1)).trans V.fl
 ·exact(F7.r _ (jac V.rl) (Ne.symm N.ne.1.2.2.2.2) (Ne.symm N.ne.2.1.2.2.2) (Ne.symm N.ne.2.2.1.2.2)).trans V.rl
 ·rcases mem_append.mp (show t∈H.th++ [jcj H Y.sz sl kd s] from ht)with ht | ht
  ·have q:=fun x hx=>N.thne ht (x:=x) hx
   have p:=V.th t ht
   have i1:H.h∈ [H.h,H.tl,H.al,H.cl,H.fl,H.rl]:=in1
   have i2:H.tl∈ [H.h,H.tl,H.al,H.cl,H.fl,H.rl]:=mem_cons_of_mem _ in1
   have i3:H.al∈ [H.h,H.tl,H.al,H.cl,H.fl,H.rl]:=mem_cons_of_mem _ (mem_cons_of_mem _ in1)
   exact⟨(F7.r _ (jac p.1) (q _ i1).1 (q _ i2).1 (q _ i3).1).trans p.1,(F7.r _ (jac p.2) (q _ i1).2 (q _ i2).2 (q _ i3).2).trans p.2⟩
  ·have:=mem_singleton.mp ht
   subst this
   exact⟨F7.n.trans (by rw[length_map];rfl),(F7.r _ (jac hs) (fun e=>hsl (by walk_at "l")) (fun e=>hsl (by walk_at "l")) (fun e=>hsl (by walk_at "l"))).trans hs⟩
 ·refine⟨?_,fun t ht=>?_⟩
  ·show(H.th++ [jcj H Y.sz sl kd s]).length<100
   simp;exact jtE hth
  ·rcases mem_append.mp (show t∈H.th++ [jcj H Y.sz sl kd s] from ht)with ht | ht
   ·exact V.small.2 t ht
   ·rw[mem_singleton.mp ht];exact hz
 ·exact⟨le_of_lt F7.sz,fun l hl hn=>F7.r l hl (fun e=>hn (e▸in1)) (fun e=>hn (e▸mem_cons_of_mem _ in1)) fun e=>hn (e▸mem_cons_of_mem _ in2)⟩
theorem jaq(H:Hp):H.locs= [H.h,H.tl,H.al,H.cl,H.fl,H.rl]++jaA H.th:=rfl
theorem Nd.newCl{H:Hp}(N:Nd H){l:Nat}{c:List Int}(hl:l∉H.locs):Nd {H with cl:=l,cards:=c}:=by
 refine jgk N.ne fun zv9 zv0 zv1 zv2 e=>?_;obtain⟨a1,a2,a3,a4,a5⟩:=zv9;obtain⟨b1,b2,b3,b4⟩:=zv0;obtain⟨c1,c2,c3⟩:=zv1;obtain⟨d1,d2⟩:=zv2
 rw[jaq]at hl
 simp only[mem_append,mem_cons,not_mem_nil,or_false,not_or]at hl
 obtain⟨⟨h1,h2,h3,h4,h5,h6⟩,h7⟩:=hl
 refine⟨?_,N.th,fun x hx h=>?_⟩
 ·show [H.h,H.tl,H.al,l,H.fl,H.rl].Nodup
  refine nd6.mpr ?_
  exact⟨⟨a1,a2,Ne.symm h1,a4,a5⟩,⟨b1,Ne.symm h2,b3,b4⟩,⟨Ne.symm h3,c2,c3⟩,⟨h5,h6⟩,e⟩
 ·have:=N.ap x hx
  have h:x∈ [H.h,H.tl,H.al,l,H.fl,H.rl]:=h
  simp only[mem_cons,not_mem_nil,or_false,not_or]at h this
  rcases h with h | h | h | h | h | h
  ·exact this.1 h
  ·exact this.2.1 h
  ·exact this.2.2.1 h
  ·exact h7 (h▸hx)
  ·exact this.2.2.2.2.1 h
  ·exact this.2.2.2.2.2 h
noncomputable def jaB(H:Hp)(ps:List (Th×Nat)):List Int:=ps.foldl (fun c p=>jdE c (jbq H (p.1.addr+2+p.2))) []
theorem jf9{H:Hp}{ps:List (Th×Nat)}{i:Nat}{p:Th×Nat}(h:ps[i]? =some p):jaB H (ps.take (i+1))=jdE (jaB H (ps.take i)) (jbq H (p.1.addr+2+p.2)):=by
 have e:ps.take (i+1)=ps.take i++ [p]:=by rw[take_add_one,h];rfl
 unfold jaB
 rw[e,List.foldl_append];rfl
theorem jce(H:Hp): ∀(ps:List (Th×Nat)) (c:List Int),(ps.foldl (fun c p=>jdE c (jbq H (p.1.addr+2+p.2))) c).length<=c.length+ps.length
 | [],c=>by simp
 | p::r,c=>by
  rw[List.foldl_cons]
  have:=jce H r (jdE c (jbq H (p.1.addr+2+p.2)))
  have h2:(jdE c (jbq H (p.1.addr+2+p.2))).length<=c.length+1:=by unfold jdE;split<;>simp
  simp only[length_cons]
  exact jwY this h2
theorem jdm(H:Hp): ∀(ps:List (Th×Nat)) (c:List Int) (a:Int),(a∈c\/∃p∈ps,jbq H (p.1.addr+2+p.2)=a)->a∈ps.foldl (fun c p=>jdE c (jbq H (p.1.addr+2+p.2))) c
 | [],c,a,h=>by
  rcases h with h | ⟨p,hp,_⟩
  ·exact h
  ·cases hp
 | p::r,c,a,h=>by
  rw[List.foldl_cons]
  refine jdm H r _ a ?_
  have e: ∀x,x∈jdE c (jbq H (p.1.addr+2+p.2))<->x∈c\/x=jbq H (p.1.addr+2+p.2):=fun x=>by
   have:=jht (l:=c) (c:=jbq H (p.1.addr+2+p.2)) (a:=x)
   rw[<- contains_iff_mem,this]
   simp
  rcases h with h | ⟨q,hq,hh⟩
  ·exact .inl ((e a).mpr (.inl h))
  ·rcases mem_cons.mp hq with rfl | hq
   ·exact .inl ((e a).mpr (.inr hh.symm))
   ·exact .inr ⟨q,hq,hh⟩
theorem jhD{m:Nat}{H:Hp}{Y:AHeap}{Q:PV->AHeap->Prop}(V:Hv Y H)(N:Nd H)(ha:jhP H)(hb:Bits H)(hin: ∀t∈H.th,In t.addr)(hz:(jaE H).length<900)
  (k: ∀l Y',Y.sz<=l->Hv Y' {H with cl:=l,cards:=jaB H (jaE H)}->Chg [H.h] Y Y'->Q .none Y'):C (m+4) 24 [.ref H.h] Y Q:=by
 have C1:Chg [] Y (Y.alloc (.dict [])):=.alloc _ _
 have V1:=V.ext C1
 have hnl:Y.sz∉H.locs:=fun h=>by have:=V.lt _ h;exact o12 this
 have V2:=V1.newCl N (l:=Y.sz) (c:=[]) get_alloc_new hnl
 refine jap rfl rfl (rd V1.h (jcY (H:={H with cl:=Y.sz,cards:=[]}) V2 ha (jwZ hz) fun l aC A1=>?_))
 have hl1:=A1.new
 rw[jan,jai]at hl1
 refine jcr (jaE H) (fun i Z' Y'=>∃x y,Z'= [some (.ref H.h),x,y]/\Hv Y' {H with cl:=Y.sz,cards:=jaB H ((jaE H).take i)}/\Chg [Y.sz] aC Y') (fun i Z' Y' zh=>by refine jaT zh fun _ _ _ _ c=>c.get A1.at_ (by simp;exact jtz hl1)) ⟨none,none,rfl,V2.ext A1.chg,.refl _ _⟩ ?_ ?_
 ·intro i p Z' Y' ht zu3;refine jaT zu3 fun x' y zq4 Vi c=>?_;clear zu3;subst zq4
  obtain⟨t,kk⟩:=p
  have hmem:=(jeo (mem_of_getElem? ht)).1
  have hlen:(jaB H ((jaE H).take i)).length<1000:=by
   have:=jce H ((jaE H).take i) []
   rw[length_take]at this
   unfold jaB
   simp only[length_nil]at this
   exact jw0 hz this
  refine jcy (t:=t) (Vi.th t hmem).1 (jkK (m:=m+1) (H:={H with cl:=Y.sz,cards:=jaB H ((jaE H).take i)}) Vi (N.newCl hnl) ⟨hb.lo,hb.hi⟩ (o50 (hin t hmem).1) hlen fun au V3 c3=>⟨_,_,rfl,?_,c.to c3⟩)
  rw[jf9 ht]
  exact V3
 ·intro Z' Y' zu7;refine jaT zu7 fun x' y zq8 Vi c=>?_;clear zu7;subst zq8
  rw[take_length]at Vi
  have c0:Chg [H.h] Y ((Y.alloc (.dict [])).set H.h (ja0 {H with cl:=Y.sz,cards:=[]})):=C1.nil (.set in1)
  exact k Y.sz Y' (le_refl _) Vi ((c0.thenNil A1.chg).trans c (fun _ h=>h) fun l hl=>by simp at hl;right;exact o30 hl)
theorem jbL{ah:Type}{l:List ah}{i:Nat}{t:ah}(h:l[i]? =some t)(f:ah->Bool):(l.take (i+1)).filter f=(l.take i).filter f++if f t=true then [t]else []:=by
 have e:l.take (i+1)=l.take i++ [t]:=by rw[take_add_one,h];rfl
 rw[e,filter_append,filter_cons,filter_nil]
theorem jcQ{ah:Type}(l:List ah)(i:Nat)(f:ah->Bool):((l.take i).filter f).length<=l.length:=by
 refine le_trans (length_filter_le _ _) ?_
 rw[length_take];exact o64
theorem Chg.cut{S S':List Nat}{Y Y':AHeap}(a:Chg S Y Y')(h: ∀l,l∈S->l∈S'\/Y.sz<=l):Chg S' Y Y':=⟨a.1,fun l hl hn=>a.2 l hl fun x=>by
 rcases h l x with y | y
 ·exact hn y
 ·exact o46 hl y⟩
noncomputable def jcH(H:Hp)(lf:Nat)(M:List Int)(g:Int):Hp:={H with fl:=lf,fin:=H.fin.filter (fun a=> !jbr H M g a),rdy:=H.rdy++H.fin.filter (jbr H M g)}
theorem jhC{m:Nat}{H:Hp}{g:Int}{lm:Nat}{M:List Int}{Y:AHeap}{Q:PV->AHeap->Prop}(V:Hv Y H)(N:Nd H)(ha:jhP H)(hm:Y.get lm=some (.dict (jaG M)))(hlm:lm∉H.locs)(hz:H.fin.length+H.rdy.length<1000)
  (k: ∀lf lp Y',Y.sz<=lf->Y.sz<=lp->Hv Y' (jcH H lf M g)->Y'.get lp=some (.list ((H.fin.filter (jbr H M g)).map .int))->Chg [H.h,H.rl] Y Y'->Q (.ref lp) Y'):C (m+2) 30 [.ref H.h,.ref lm,.int g] Y Q:=by
 have C2:Chg [] Y ((Y.alloc (.list [])).alloc (.list [])):=(Chg.alloc _ _).to (.alloc _ _)
 have V2:=V.ext C2
 have lt:=V.lt
 have lrl:H.rl<Y.sz:=lt _ (by walk_at "l")
 have lhh:=jac V.h
 have lmlt:=jac hm
 have nm:lm∉ [H.rl,Y.sz,Y.sz+1]:=fun h=>by
  rcases mem_cons.mp h with h | h
  ·exact hlm (h▸by walk_at "l")
  ·exact jrp (fun h=>o25 lmlt h) (fun h=>ju0 lmlt h) h
 have Ni: ∀{r},Nd {H with rdy:=r}:=⟨N.six,N.th,N.ap⟩
 refine jap rfl rfl (rd V2.h (jcr H.fin (fun i Z' Y'=>∃x,Z'= [some (.ref H.h),some (.ref lm),some (.int g),some (.ref Y.sz),some (.ref (Y.sz+1)),x]/\Hv Y' {H with rdy:=H.rdy++(H.fin.take i).filter (jbr H M g)}/\Y'.get Y.sz=some (.list (((H.fin.take i).filter (fun a=> !jbr H M g a)).map .int))/\Y'.get (Y.sz+1)=some (.list (((H.fin.take i).filter (jbr H M g)).map .int))/\Chg [H.rl,Y.sz,Y.sz+1] ((Y.alloc (.list [])).alloc (.list [])) Y')
  (fun i Z' Y' zh=>by refine jcs zh fun _ _ V _=>V.fl) ⟨none,by rw[jai];rfl,by simpa using V2,by simpa using joX,by simpa using jqK,.refl _ _⟩ ?_ ?_))
 ·intro i a Z' Y' ha' zu9;refine jtn zu9 fun x' zq0 Vi h0 h1 c=>?_;clear zu9;subst zq0
  have e1:=jbL ha' (jbr H M g)
  have e2:=jbL ha' (fun a=> !jbr H M g a)
  have b1:=jcQ H.fin i (jbr H M g)
  have b2:=jcQ H.fin i (fun a=> !jbr H M g a)
  have keep: ∀{l o},Y.sz<=l->Hv (Y'.set l o) {H with rdy:=H.rdy++(H.fin.take i).filter (jbr H M g)}:=fun hl=>Vi.keep (.set in1) fun x hx h=>by
   have:=lt x hx;rw[mem_singleton.mp h]at this;exact o15 hl this
  refine jjn (m:=m) (H:={H with rdy:=H.rdy++(H.fin.take i).filter (jbr H M g)}) Vi ha (c.get (C2.get0 hm) nm) (cB (fun hd=>?_) fun hd=>?_)
  ·have hd:jbr H M g a=true:=hd
   rw[if_pos hd]at e1
   rw[hd,if_neg (by decide),append_nil]at e2
   have hr:=Vi.rl
   have V3:=keep (o:=.list (((H.fin.take i).filter (jbr H M g)).map .int++ [.int a])) (o0 (a0:=Y.sz))
   have V4:=V3.setRl Ni (H.rdy++(H.fin.take i).filter (jbr H M g)++ [a])
   refine rd h1 (rd h1 (gI (rl' (jas (jtF hz b1))) (rd V3.h (rd V3.rl (rd V3.rl (gI (rl' (jas (by rw[length_append];exact jw1 hz b1))) ⟨_,rfl,?_,?_,?_,(c.to (.set (mem_cons_of_mem _ in2))).to (.set in1)⟩))))))
   ·rw[e1,<-append_assoc]
    rw[map_append (l₂:=[a])]at V4;exact V4
   ·rw[e2,jaa (o1 lrl),jaa o48];exact h0
   ·rw[e1,jaa (o23 lrl),jad (jac h1),map_append];rfl
  ·have hd:jbr H M g a=false:=hd
   rw[if_neg (by rw[hd];decide),append_nil]at e1
   rw[hd,if_pos (c:=(!false)=true) rfl]at e2
   refine rd h0 (rd h0 (gI (rl' (jas (jtF hz b2))) ⟨_,rfl,?_,?_,?_,c.to (.set (mem_cons_of_mem _ in1))⟩))
   ·rw[e1];exact keep (le_refl _)
   ·rw[e2,jad (jac h0),map_append];rfl
   ·rw[e1,jaa o26];exact h1
 ·intro Z' Y' zu2;refine jtn zu2 fun x' zq3 Vi h0 h1 c=>?_;clear zu2;subst zq3
  rw[take_length]at Vi h0 h1
  have V5:=Vi.newFl Ni h0 fun h=>by have:=lt Y.sz h;exact o12 this
  refine rd Vi.h (k Y.sz (Y.sz+1) _ (le_refl _) o0 V5 ?_ ?_)
  ·rw[jaa (o23 lhh)];exact h1
  ·have c':Chg [H.h,H.rl,Y.sz,Y.sz+1] ((Y.alloc (.list [])).alloc (.list [])) (Y'.set H.h (ja0 {H with fl:=Y.sz,rdy:=H.rdy++H.fin.filter (jbr H M g)})):=(c.trans (S'':=[H.h,H.rl,Y.sz,Y.sz+1]) (Chg.refl [] _) (fun l h=>mem_cons_of_mem _ h) fun l h=>by cases h).to (.set in1)
   exact(C2.nil c').cut fun l h=>by simp at h ⊢;exact jw2 h
end
noncomputable section
noncomputable def jaI(g:Int):List Th->Int->Int
 | [],e=>e
 | t::r,e=>jaI g r (if t.gen>g/\t.addr+t.size>e then t.addr+t.size else e)
theorem jdu(g:Int){th:List Th}{i:Nat}{t:Th}(h:th[i]? =some t)(e:Int):jaI g (th.take (i+1)) e=(if t.gen>g/\t.addr+t.size>jaI g (th.take i) e then t.addr+t.size else jaI g (th.take i) e):=by
 induction th generalizing i e with
 | nil=>simp at h
 | cons a r ih=>
  cases i with
  | zero=>simp at h;subst h;simp[jaI]
  | succ i=>simp only[List.take_succ_cons,jaI];exact ih (by simpa using h) _
theorem jgg{m:Nat}{H:Hp}{g:Int}{Y:AHeap}{Q:PV->AHeap->Prop}(V:Hv Y H)(k:Q (.int (jaI g H.th 16)) Y):C (m+1) 32 [.ref H.h,.int g] Y Q:=by
 refine jap rfl rfl (rd V.h (jcr H.th (fun i Z' Y'=>∃x,Z'= [some (.ref H.h),some (.int g),some (.int (jaI g (H.th.take i) 16)),x]/\Y'=Y) (fun i Z' Y' ⟨_,_,e⟩=>e▸V.tl) ⟨none,rfl,rfl⟩ ?_ ?_))
 ·intro i t Z' Y' ht zu4;refine jaj zu4 fun x' zq5 zq6=>?_;clear zu4;subst zq5;subst zq6
  have hp:=(V.th t (mem_of_getElem? ht)).1
  refine rd hp (cD (fun h=>rd hp (rd hp (cD (fun h2=>rd hp (rd hp ?_)) fun h2=>?_))) fun h=>?_)
  ·rw[jdu g ht,if_pos ⟨h,h2⟩];exact⟨_,rfl,rfl⟩
  ·rw[jdu g ht,if_neg fun x=>h2 x.2];exact⟨_,rfl,rfl⟩
  ·rw[jdu g ht,if_neg fun x=>h x.1];exact⟨_,rfl,rfl⟩
 ·intro Z' Y' zu8;refine jaj zu8 fun x' zq9 zq0=>?_;clear zu8;subst zq9;subst zq0
  rw[take_length]
  exact k
noncomputable def mvE(l:List (Int×Int)):List (Int×PV):=l.map fun p=>(p.1,.int p.2)
theorem jec(w:Int): ∀l:List (Int×Int),jbu (mvE l) w=(l.lookup w).map .int
 | []=>rfl
 | (a,n)::r=>by
  have ih:=jec w r
  unfold jbu mvE at ih ⊢
  rw[map_cons,find?_cons,lookup_cons]
  by_cases h:a=w
  ·subst h;simp
  ·have:(w==a)=false:=by simp[Ne.symm h]
   simp only[h,decide_false,this]
   exact ih
theorem jpa{l:List (Int×Int)}{a n:Int}(h: ∀p∈l,p.1≠a):jhO (mvE l) a (.int n)=mvE (l++ [(a,n)]):=by
 unfold jhO
 have:(mvE l).any (fun p=>decide (p.1=a))=false:=by
  rw[List.any_eq_false]
  intro p hp
  unfold mvE at hp
  refine jaj (mem_map.mp hp) fun q hq zq1=>?_;subst zq1
  simpa using h q hq
 rw[if_neg (by rw[this];decide)]
 unfold mvE;simp
noncomputable def jby(M:List Int)(g:Int):List Th->Int->List (Int×Int)
 | [],_=>[]
 | t::r,e=>if t.gen<=g/\t.addr∈M then(t.addr,e)::jby M g r (e+t.size)else jby M g r e
noncomputable def jfy(M:List Int)(g:Int):List Th->Int->Int
 | [],e=>e
 | t::r,e=>if t.gen<=g/\t.addr∈M then jfy M g r (e+t.size)else jfy M g r e
theorem jnz(M:List Int)(g:Int){th:List Th}{i:Nat}{t:Th}(h:th[i]? =some t)(e:Int):jby M g (th.take (i+1)) e=jby M g (th.take i) e++(if t.gen<=g/\t.addr∈M then [(t.addr,jfy M g (th.take i) e)]else [])/\jfy M g (th.take (i+1)) e=(if t.gen<=g/\t.addr∈M then jfy M g (th.take i) e+t.size else jfy M g (th.take i) e):=by
 induction th generalizing i e with
 | nil=>simp at h
 | cons a r ih=>
  cases i with
  | zero=>simp at h;subst h;simp[jby,jfy]
  | succ i=>
   simp only[List.take_succ_cons,jby,jfy]
   split
   ·obtain⟨h1,h2⟩:=ih (by simpa using h) (e+a.size)
    rw[h1,h2];simp
   ·exact ih (by simpa using h) e
theorem jc8{M:List Int}{g:Int}: ∀{th:List Th} {e:Int} {p:Int×Int},p∈jby M g th e->∃t∈th,t.gen<=g/\t.addr∈M/\p.1=t.addr
 | [],_,_,h=>by cases h
 | t::r,e,p,h=>by
  simp only[jby]at h
  split at h
  ·rename_i hc
   rcases mem_cons.mp h with rfl | h
   ·exact⟨t,by simp,hc.1,hc.2,rfl⟩
   ·refine jaj (jc8 h) fun u hu h'=>?_
    exact⟨u,.tail _ hu,h'⟩
  ·refine jaj (jc8 h) fun u hu h'=>?_
   exact⟨u,.tail _ hu,h'⟩
theorem jhs(M:List Int)(g:Int): ∀(th:List Th) (e:Int),(jby M g th e).length<=th.length
 | [],_=>le_refl _
 | t::r,e=>by
  simp only[jby]
  split
  ·have:=jhs M g r (e+t.size);simp;exact o49 this
  ·have:=jhs M g r e;simp;exact o14 this
theorem jju{m:Nat}{H:Hp}{g:Int}{lm:Nat}{M:List Int}{Y:AHeap}{Q:PV->AHeap->Prop}(V:Hv Y H)(hm:Y.get lm=some (.dict (jaG M)))(hd:H.th.Pairwise fun a b=>a.addr≠b.addr)
  (k: ∀l Y',Chg [] Y Y'->Y.sz<=l->Y'.get l=some (.dict (mvE (jby M g H.th (jaI g H.th 16))))->Q (.ref l) Y'):C (m+2) 33 [.ref H.h,.ref lm,.int g] Y Q:=by
 have V1:=V.ext (.alloc [] (.dict []))
 refine jap rfl rfl (jgg V1 (rd V1.h (jcr H.th (fun i Z' Y'=>∃x,Z'= [some (.ref H.h),some (.ref lm),some (.int g),some (.ref Y.sz),some (.int (jfy M g (H.th.take i) (jaI g H.th 16))),x]/\Y'.get Y.sz=some (.dict (mvE (jby M g (H.th.take i) (jaI g H.th 16))))/\Chg [] Y Y') (fun i Z' Y' zh=>by refine jcs zh fun _ _ _ c=>(V.ext c).tl) ⟨none,rfl,get_alloc_new,.alloc _ _⟩ ?_ ?_)))
 ·intro i t Z' Y' ht zu2;refine jcs zu2 fun x' zq3 hg c=>?_;clear zu2;subst zq3
  have hp:=((V.ext c).th t (mem_of_getElem? ht)).1
  have hp2: ∀{o},(Y'.set Y.sz o).get t.loc=some (jbR t):=by
   intro o
   rw[jaa]
   ·exact hp
   ·exact o6 (jac (V.th t (mem_of_getElem? ht)).1)
  obtain⟨e1,e2⟩:=jnz M g ht (jaI g H.th 16)
  have fr: ∀p∈jby M g (H.th.take i) (jaI g H.th 16),p.1≠t.addr:=fun p hp=>by
   refine jkV (jc8 hp) fun u hu _ _ h=>?_
   rw[h]
   obtain⟨j,hj,hju⟩:=List.mem_take_iff_getElem.mp hu
   have hi:=(List.getElem?_eq_some_iff.mp ht).1
   have:=pairwise_iff_getElem.mp hd j i (o31 hj hi) hi (jtG hj)
   rw[hju]at this
   rw[(List.getElem?_eq_some_iff.mp ht).2]at this
   exact this
  have pl:=jhs M g (H.th.take i) (jaI g H.th 16)
  have hl:(mvE (jby M g (H.th.take i) (jaI g H.th 16))).length<1000:=by
   have:=V.small.1
   rw[length_take]at pl
   unfold mvE;rw[length_map];exact jw3 pl this
  have no: ¬(t.gen<=g/\t.addr∈M)->∃x:Option PV,[some (PV.ref H.h),some (.ref lm),some (.int g),some (.ref Y.sz),some (.int (jfy M g (H.th.take i) (jaI g H.th 16))),some (.ref t.loc)]= [some (.ref H.h),some (.ref lm),some (.int g),some (.ref Y.sz),some (.int (jfy M g (H.th.take (i+1)) (jaI g H.th 16))),x]/\Y'.get Y.sz=some (.dict (mvE (jby M g (H.th.take (i+1)) (jaI g H.th 16))))/\Chg [] Y Y':=fun x=>⟨_,by rw[e2,if_neg x],by rw[e1,if_neg x,append_nil];exact hg,c⟩
  refine rd hp (cD (fun h=>rd hp (rd (c.get0 hm) (.mk jcM (cB (fun hc=>rd hp (rd hg (gI (jas hl) (rd hp2 ⟨some (.ref t.loc),?_,?_,c.setNew (le_refl _)⟩)))) fun hc=>no fun x=>by simp[x.2]at hc)))) fun h=>no fun x=>h x.1)
  ·rw[e2,if_pos ⟨h,by simpa using hc⟩];rfl
  ·rw[e1,if_pos ⟨h,by simpa using hc⟩,jad (jac hg),jpa fr]
 ·intro Z' Y' zu5;refine jcs zu5 fun x' zq6 hg c=>?_;clear zu5;subst zq6
  rw[take_length]at hg
  exact k _ _ c (le_refl _) hg
noncomputable def fwd(mv:List (Int×Int))(a:Int):Int:=(mv.lookup a).getD a
noncomputable def nw(H:Hp)(mv:List (Int×Int))(w:Int):Int:=match H.th.find? (fun t=>decide (ja8 H w=some t.loc))with
 | some t=>w-t.addr+fwd mv t.addr
 | none=>w
noncomputable def Val.mv(H:Hp)(mv:List (Int×Int)):Val->Val
 | .ref a=>.ref (fwd mv a)
 | .i4 n=>.i4 n
 | .one a=>.one (fwd mv a)
 | .two a b=>.two (fwd mv a) (fwd mv b)
 | .pl w z=>.pl (nw H mv w) z
 | .lc=>.lc
noncomputable def joz(H:Hp):Val->Prop
 | .pl w _=>∃t∈H.th,ja8 H w=some t.loc
 | _=>True
noncomputable def jn6(H:Hp):Prop:=∀t∈H.th,∀u∈H.th,t.loc=u.loc->t=u
theorem jrr{H:Hp}{mv:List (Int×Int)}{w:Int}{t:Th}(hl:jn6 H)(ht:t∈H.th)(h:ja8 H w=some t.loc):nw H mv w=w-t.addr+fwd mv t.addr:=by
 unfold nw
 cases e:H.th.find? (fun t=>decide (ja8 H w=some t.loc))with
 | none=>
  have:=List.find?_eq_none.mp e t ht
  simp[h]at this
 | some u=>
  have h1:=List.mem_of_find?_eq_some e
  have h2:ja8 H w=some u.loc:=by simpa using List.find?_some e
  have:t.loc=u.loc:=by rw[h]at h2;exact Option.some.inj h2
  have:=hl t ht u h1 this
  subst this;rfl
structure Wd (Y:AHeap) (H:Hp) (lw lm:Nat) (mv:List (Int×Int)):Prop where
 w:Y.get lw=some (.inst .words [some (.ref H.h),some (.ref lm)])
 m:Y.get lm=some (.dict (mvE mv))
theorem Wd.ext{Y Y':AHeap}{H:Hp}{lw lm:Nat}{mv:List (Int×Int)}(x:Wd Y H lw lm mv)(c:Chg [] Y Y'):Wd Y' H lw lm mv:=⟨c.get0 x.w,c.get0 x.m⟩
theorem jrn{mv:List (Int×Int)}{w:Int}:(jbu (mvE mv) w).isSome=(mv.lookup w).isSome:=by rw[jec,Option.isSome_map]
theorem jos(mv:List (Int×Int))(a:Int):((mv.lookup a).map PV.int).getD (.int a)= .int (fwd mv a):=by
 unfold fwd;cases mv.lookup a<;>rfl
theorem jo5{mv:List (Int×Int)}{a:Int}:(jbu (mvE mv) a).getD (.int a)= .int (fwd mv a):=by rw[jec,jos]
theorem jjt{m:Nat}{H:Hp}{lm:Nat}{mv:List (Int×Int)}{w:Int}{Y:AHeap}{Q:PV->AHeap->Prop}(V:Hv Y H)(hs:Srt H)(hl:jn6 H)(hm:Y.get lm=some (.dict (mvE mv)))(hv: ∃t∈H.th,ja8 H w=some t.loc)(k:Q (.int (nw H mv w)) Y):C (m+2) 34 [.ref H.h,.ref lm,.int w] Y Q:=by
 refine jaj hv fun t ht hf=>?_;clear hv
 rw[jrr hl ht hf]at k
 have hp:=(V.th t ht).1
 refine jap rfl rfl (jcV V hs ?_)
 rw[hf]
 unfold fwd at k
 refine rd hp (rd hm (.mk jrn (cNB (fun hc=>?_) fun hc=>rd hp (rd hp (rd hm (oI (x:=.int (fwd mv t.addr)) ?_ ?_))))))
 ·have:mv.lookup t.addr=none:=Option.isNone_iff_eq_none.mp (by rw[<- Option.not_isSome,hc];rfl)
  rw[this]at k
  have:w-t.addr+(none:Option Int).getD t.addr=w:=by simp
  rw[this]at k
  exact k
 ·rw[jec];unfold fwd;cases h:mv.lookup t.addr with
  | none=>rw[h]at hc;cases hc
  | some b=>rfl
 ·exact k
theorem jmo{m:Nat}{H:Hp}{lw lm:Nat}{mv:List (Int×Int)}{w:Int}{Y:AHeap}{Q:PV->AHeap->Prop}(V:Hv Y H)(hs:Srt H)(hl:jn6 H)(W:Wd Y H lw lm mv)(hv: ∃t∈H.th,ja8 H w=some t.loc)(k:Q (.int (nw H mv w)) Y):C (m+3) 82 [.ref lw,.int w] Y Q:=jap rfl rfl (rd W.w (rd W.w (jjt V hs hl W.m hv k)))
theorem jeB{m:Nat}{H:Hp}{lw lm:Nat}{mv:List (Int×Int)}{v:Val}{Y:AHeap}{Q:PV->AHeap->Prop}(V:Hv Y H)(hs:Srt H)(hl:jn6 H)(W:Wd Y H lw lm mv)(hv:joz H v)(hp:jn9 v=false)(k:Q (v.mv H mv).pv Y):C (m+4) 2 [v.pv,.ref lm,.ref lw] Y Q:=by
 refine jap rfl rfl ?_
 cases v with
 | one a=>cases hp
 | two a b=>cases hp
 | i4 n=>exact k
 | lc=>exact k
 | ref a=>exact rd W.m (rd W.m (.mk jo5 k))
 | pl w z=>exact rd W.w (jmo (m:=m) V hs hl W hv k)
structure G2 (Y Y':AHeap) (i t:Nat) (xs ys:List PV):Prop where
 c:Chg [] Y Y'
 I:Y'.get i=some (.list xs)
 T:Y'.get t=some (.list ys)
 ne:i≠t
 hi:Y.sz<=i
 ht:Y.sz<=t
structure G3 (Y Y':AHeap) (i t j:Nat) (xs ys zs:List PV):Prop where
 g:G2 Y Y' i t xs ys
 J:Y'.get j=some (.list zs)
 ij:i≠j
 tj:t≠j
 hj:Y.sz<=j
section
variable{Y Y':AHeap}{i t j:Nat}{xs ys zs us:List PV}
theorem G2.si(G:G2 Y Y' i t xs ys):G2 Y (Y'.set i (.list us)) i t us ys:=⟨G.c.setNew G.hi,jad (jac G.I),(jaa G.ne).trans G.T,G.ne,G.hi,G.ht⟩
theorem G2.st(G:G2 Y Y' i t xs ys):G2 Y (Y'.set t (.list us)) i t xs us:=⟨G.c.setNew G.ht,(jaa (Ne.symm G.ne)).trans G.I,jad (jac G.T),G.ne,G.hi,G.ht⟩
theorem G2.al(G:G2 Y Y' i t xs ys):G3 Y (Y'.alloc (.list zs)) i t Y'.sz xs ys zs:=⟨⟨G.c.to (.alloc _ _),(jae (jac G.I)).trans G.I,(jae (jac G.T)).trans G.T,G.ne,G.hi,G.ht⟩,get_alloc_new,ne_of_lt (jac G.I),ne_of_lt (jac G.T),G.c.1⟩
theorem G3.si(G:G3 Y Y' i t j xs ys zs):G3 Y (Y'.set i (.list us)) i t j us ys zs:=⟨G.g.si,(jaa G.ij).trans G.J,G.ij,G.tj,G.hj⟩
theorem G3.st(G:G3 Y Y' i t j xs ys zs):G3 Y (Y'.set t (.list us)) i t j xs us zs:=⟨G.g.st,(jaa G.tj).trans G.J,G.ij,G.tj,G.hj⟩
theorem G3.sj(G:G3 Y Y' i t j xs ys zs):G3 Y (Y'.set j (.list us)) i t j xs ys us:=⟨⟨G.g.c.setNew G.hj,(jaa (Ne.symm G.ij)).trans G.g.I,(jaa (Ne.symm G.tj)).trans G.g.T,G.g.ne,G.g.hi,G.g.ht⟩,jad (jac G.J),G.ij,G.tj,G.hj⟩
end
section
variable{m:Nat}{H:Hp}{lw lm lt li:Nat}{mv:List (Int×Int)}{Y:AHeap}{Q:Fl->jao->AHeap->Prop}{n:Nat}{vp rb x5 x6 x7:Option PV}{pre:List PV}{parts items:List PV}{kd:Int}{sv u:PV}
end
section
variable{m:Nat}{H:Hp}{lw lm lt li:Nat}{mv:List (Int×Int)}{Y:AHeap}{Q:Fl->jao->AHeap->Prop}{n:Nat}{vp rb x5 x6 x7:Option PV}{pre:List PV}{parts items:List PV}{kd:Int}{sv u:PV}
end
theorem jhA{m:Nat}{H:Hp}{lw lm:Nat}{mv:List (Int×Int)}{v:Val}{Y:AHeap}{Q:PV->AHeap->Prop}(V:Hv Y H)(hs:Srt H)(hl:jn6 H)(W:Wd Y H lw lm mv)(hp:jn9 v=true)(k: ∀Y',Chg [] Y Y'->Q (v.mv H mv).pv Y'):C (m+5) 3 [v.pv,.ref lm,.ref lw] Y Q:=by
 have G: ∀{x},G2 Y ((Y.alloc (.list [])).alloc (.list [x])) Y.sz (Y.alloc (.list [])).sz [] [x]:=⟨(Chg.alloc _ _).to (.alloc _ _),joX,get_alloc_new,by rw[jai];exact o26,le_refl _,by rw[jai];exact o0⟩
 have tp:=fun{uv:Val} {Y':AHeap} {Q:K2} (c:Chg [] Y Y')=>jeB (m:=m) (v:=uv) (Q:=Q) (V.ext c) hs hl (W.ext c)
 cases v with
 | i4 n=>cases hp
 | lc=>cases hp
 | ref a=>cases hp
 | pl w z=>cases hp
 | one a=>
  have G1:=(G (x:=.tup [(Val.one a).pv,.ref Y.sz])).si (us:=[((Val.i4 7).mv H mv).pv])
  have G2:=G1.si (us:=[((Val.i4 7).mv H mv).pv,((Val.ref a).mv H mv).pv])
  have G3:=G2.st (us:=[])
  exact jap rfl rfl<|WhR.tn 4<|rd G.T<|rd G.T<|rd G.T<|rd G.I<|rd G.I<|rd G.I<|tp (uv:=.i4 7) G.c trivial rfl<|rd G.I
   <|rd G1.T<|rd G1.T<|rd G1.T<|rd G1.I<|rd G1.I<|rd G1.I<|tp (uv:=.ref a) G1.c trivial rfl<|rd G1.I
   <|rd G2.T<|rd G2.T<|rd G2.T<|rd G2.I<|rd G2.I<|rd G2.T<| .mk (ys:=[]) rfl<|rd G3.T<|rd G3.T<|k _ G3.c
 | two a b=>
  have G1:=(G (x:=.tup [(Val.two a b).pv,.ref Y.sz])).si (us:=[((Val.ref a).mv H mv).pv])
  have G2:=G1.al (zs:=[])
  have G3:=G2.st (us:=[.tup [(Val.two a b).pv,.ref Y.sz],.tup [(Val.one b).pv,.ref (((Y.alloc (.list [])).alloc (.list [.tup [(Val.two a b).pv,.ref Y.sz]])).set Y.sz (.list [((Val.ref a).mv H mv).pv])).sz]])
  have G4:=G3.sj (us:=[((Val.i4 7).mv H mv).pv])
  have G5:=G4.sj (us:=[((Val.i4 7).mv H mv).pv,((Val.ref b).mv H mv).pv])
  have G6:=G5.st (us:=[.tup [(Val.two a b).pv,.ref Y.sz]])
  have G7:=G6.si (us:=[((Val.ref a).mv H mv).pv,((Val.one b).mv H mv).pv])
  have G8:=G7.st (us:=[])
  exact jap rfl rfl<|WhR.tn 7<|rd G.T<|rd G.T<|rd G.T<|rd G.I<|rd G.I<|rd G.I<|tp (uv:=.ref a) G.c trivial rfl<|rd G.I
   <|rd G1.T<|rd G1.T<|rd G1.T<|rd G1.I<|rd G1.I<|rd G1.T<|rd G2.g.T
   <|rd G3.g.T<|rd G3.g.T<|rd G3.g.T<|rd G3.J<|rd G3.J<|rd G3.J<|tp (uv:=.i4 7) G3.g.c trivial rfl<|rd G3.J
   <|rd G4.g.T<|rd G4.g.T<|rd G4.g.T<|rd G4.J<|rd G4.J<|rd G4.J<|tp (uv:=.ref b) G4.g.c trivial rfl<|rd G4.J
   <|rd G5.g.T<|rd G5.g.T<|rd G5.g.T<|rd G5.J<|rd G5.J<|rd G5.g.T<| .mk (ys:=[.tup [(Val.two a b).pv,.ref Y.sz]]) rfl<|rd G6.g.T<|rd G6.g.T<|rd G6.g.T<|rd G6.g.I<|rd G6.g.I
   <|rd G7.g.T<|rd G7.g.T<|rd G7.g.T<|rd G7.g.I<|rd G7.g.I<|rd G7.g.T<| .mk (ys:=[]) rfl<|rd G8.g.T<|rd G8.g.T<|k _ G8.g.c
theorem jsU(v:Val): ∃tag r,v.pv= .tup (.int tag::r)/\(tag=5<->jn9 v=true):=by
 cases v with
 | ref a=>exact⟨4,_,rfl,by simp[jn9]⟩
 | i4 a=>exact⟨1,_,rfl,by simp[jn9]⟩
 | one a=>exact⟨5,_,rfl,by simp[jn9]⟩
 | two a b=>exact⟨5,_,rfl,by simp[jn9]⟩
 | pl w z=>exact⟨6,_,rfl,by simp[jn9]⟩
 | lc=>exact⟨6,_,rfl,by simp[jn9]⟩
theorem jjs{m:Nat}{H:Hp}{lw lm:Nat}{mv:List (Int×Int)}{v:Val}{Y:AHeap}{Q:PV->AHeap->Prop}(V:Hv Y H)(hs:Srt H)(hl:jn6 H)(W:Wd Y H lw lm mv)(hv:joz H v)(k: ∀Y',Chg [] Y Y'->Q (v.mv H mv).pv Y'):C (m+6) 1 [v.pv,.ref lm,.ref lw] Y Q:=by
 refine jdp (jsU v) fun tag r e ht=>?_
 have t1:= @jhA m H lw lm mv v Y
 have t2:= @jeB (m+1) H lw lm mv v Y
 rw[e]at t1 t2 ⊢
 exact jap rfl rfl (cD (fun h=>t1 V hs hl W (ht.mp h) k) fun h=>t2 V hs hl W hv (Bool.eq_false_iff.mpr fun x=>h (ht.mpr x)) (k Y (.refl _ _)))
theorem ja9{ah aR:Type}{l:List ah}{i:Nat}{t:ah}(h:l[i]? =some t)(f:ah->aR):(l.take (i+1)).map f=(l.take i).map f++ [f t]:=by
 have e:l.take (i+1)=l.take i++ [t]:=by rw[take_add_one,h];rfl
 rw[e,map_append];rfl
theorem jng{ah aR:Type}{l:List ah}{i n:Nat}{f:ah->aR}(h:l.length<n):((l.take i).map f).length<n:=by rw[length_map];exact lt_of_le_of_lt (List.take_prefix _ _).length_le h
theorem jgh{m:Nat}{H:Hp}{lw lm l:Nat}{mv:List (Int×Int)}{vs:List Val}{Y:AHeap}{Q:PV->AHeap->Prop}(V:Hv Y H)(hs:Srt H)(hl:jn6 H)(W:Wd Y H lw lm mv)(hg:Y.get l=some (.list (vs.map Val.pv)))(hv: ∀v∈vs,joz H v)(hz:vs.length<1000)
  (k: ∀l' Y',AccL Y l' ((vs.map (Val.mv H mv)).map Val.pv) Y'->Q (.ref l') Y'):C (m+7) 36 [.ref l,.ref lm,.ref lw] Y Q:=by
 refine jap rfl rfl (jcr vs (fun i Z' Y'=>∃x,Z'= [some (.ref l),some (.ref lm),some (.ref lw),some (.ref Y.sz),x]/\AccL Y Y.sz (((vs.take i).map (Val.mv H mv)).map Val.pv) Y') (fun i Z' Y' ⟨_,_,A⟩=>A.chg.get0 hg) ⟨none,rfl,AccL.start⟩ ?_ ?_)
 ·intro i v Z' Y' ht zu7;refine jaj zu7 fun x' zq8 A=>?_;clear zu7;subst zq8
  refine rd A.at_ (jjs (V.ext A.chg) hs hl (W.ext A.chg) (hv v (mem_of_getElem? ht)) fun au c2=>rd (A.next c2).at_ (gI (rl' (jng (jas hz))) ⟨_,rfl,?_⟩))
  rw[ja9 ht,map_append]
  exact(A.next c2).put _
 ·intro Z' Y' zu0;refine jaj zu0 fun x' zq1 A=>?_;clear zu0;subst zq1
  rw[take_length]at A
  exact k _ _ A
theorem jkL{m:Nat}{H:Hp}{lw lm le:Nat}{mv:List (Int×Int)}{es:List (Nat×List Val)}{Y:AHeap}{Q:PV->AHeap->Prop}(V:Hv Y H)(hs:Srt H)(hl:jn6 H)(W:Wd Y H lw lm mv)(L:Lv Y le es)(hv: ∀p∈es,∀v∈p.2,joz H v)(hz: ∀p∈es,p.2.length<1000)(hz2:es.length<1000)
  (k: ∀l' fr Y',Chg [] Y Y'->Y.sz<=l'->Lv Y' l' fr->fr.map (·.2)=es.map (fun p=>p.2.map (Val.mv H mv))->(∀ p∈fr,Y.sz<=p.1)->Q (.ref l') Y'):C (m+8) 37 [.ref le,.ref lm,.ref lw] Y Q:=by
 refine jap rfl rfl (jcr es (fun i Z' Y'=>∃x fr,Z'= [some (.ref le),some (.ref lm),some (.ref lw),some (.ref Y.sz),x]/\AccL Y Y.sz (fr.map fun p:Nat×List Val=>.ref p.1) Y'/\(∀ p∈fr,Y'.get p.1=some (.list (p.2.map Val.pv))/\Y.sz<p.1)/\fr.map (·.2)=(es.take i).map (fun p=>p.2.map (Val.mv H mv))) (fun i Z' Y' zh=>by refine jaT zh fun _ _ _ A _=>A.chg.get0 L.lr) ⟨none,[],rfl,AccL.start,by simp,rfl⟩ ?_ ?_)
 ·intro i p Z' Y' ht zu2;refine jmA zu2 fun x' fr zq3 A hf hfr=>?_;clear zu2;subst zq3
  have hp:=mem_of_getElem? ht
  have hfl:fr.length<=es.length:=by
   have:=congrArg length hfr
   simp at this;exact jw4 this
  refine rd A.at_ (jgh (V.ext A.chg) hs hl (W.ext A.chg) (A.chg.get0 (L.each p hp)) (hv p hp) (hz p hp) fun l2 au A2=>?_)
  have A3:=A.next A2.chg
  have hlt:=jac A.at_
  have hnew:=A2.new
  refine rd A3.at_ (gI (rl' (jas (jtH hz2 hfl))) ⟨_,fr++ [(l2,p.2.map (Val.mv H mv))],rfl,?_,fun q hq=>?_,?_⟩)
  ·rw[map_append];exact A3.put _
  ·rcases mem_append.mp hq with hq | hq
   ·obtain⟨h1,h2⟩:=hf q hq
    exact⟨(jaa (o1 h2)).trans (A2.chg.get0 h1),h2⟩
   ·rw[mem_singleton.mp hq]
    exact⟨(jaa (o8 hlt hnew)).trans A2.at_,jtI hlt hnew⟩
  ·rw[ja9 ht,map_append,hfr];rfl
 ·intro Z' Y' zu5;refine jmA zu5 fun x' fr zq6 A hf hfr=>?_;clear zu5;subst zq6
  rw[take_length]at hfr
  exact k _ fr _ A.chg (le_refl _) ⟨A.at_,fun p hp=>(hf p hp).1⟩ hfr fun p hp=>le_of_lt (hf p hp).2
theorem jhB{m:Nat}{l lm:Nat}{mv:List (Int×Int)}{as:List Int}{Y:AHeap}{Q:PV->AHeap->Prop}(hm:Y.get lm=some (.dict (mvE mv)))(hg:Y.get l=some (.list (as.map .int)))(hz:as.length<1000)
  (k: ∀l' Y',AccL Y l' ((as.map (fwd mv)).map .int) Y'->Q (.ref l') Y'):C (m+1) 39 [.ref l,.ref lm] Y Q:=by
 refine jap rfl rfl (jcr as (fun i Z' Y'=>∃x,Z'= [some (.ref l),some (.ref lm),some (.ref Y.sz),x]/\AccL Y Y.sz (((as.take i).map (fwd mv)).map .int) Y') (fun i Z' Y' ⟨_,_,A⟩=>A.chg.get0 hg) ⟨none,rfl,AccL.start⟩ ?_ ?_)
 ·intro i v Z' Y' ht zu7;refine jaj zu7 fun x' zq8 A=>?_;clear zu7;subst zq8
  refine rd A.at_ (rd (A.chg.get0 hm) (rd (A.chg.get0 hm) (.mk jo5 (rd A.at_ (gI (rl' (jng (jas hz))) ⟨_,rfl,?_⟩)))))
  rw[ja9 ht,map_append]
  exact A.put _
 ·intro Z' Y' zu0;refine jaj zu0 fun x' zq1 A=>?_;clear zu0;subst zq1
  rw[take_length]at A
  exact k _ _ A
noncomputable def jbd(mv:List (Int×Int))(g:Int)(t:Th):Bool:=decide (t.gen>g)||(mv.lookup t.addr).isSome
theorem jnR{m:Nat}{t:Th}{g:Int}{lm:Nat}{mv:List (Int×Int)}{Y:AHeap}{Q:PV->AHeap->Prop}(hm:Y.get lm=some (.dict (mvE mv)))(hp:Y.get t.loc=some (jbR t))(k:Q (.bool (jbd mv g t)) Y):C (m+1) 35 [.ref t.loc,.ref lm,.int g] Y Q:=by
 unfold jbd at k
 refine jap rfl rfl (rd hp (cD (fun h=>?_) fun h=>rd hp (rd hm (.mk jrn ?_))))
 ·rw[decide_eq_true h,Bool.true_or]at k;exact k
 ·rw[decide_eq_false h,Bool.false_or]at k
  exact cB (fun hc=>by rw[hc]at k;exact k) fun hc=>by rw[hc]at k;exact k
theorem jpT{ah:Type}{a b:List ah}{j:Nat}{v:ah}(h:a.length=b.length)(hv:a[j]? =some v):(a.take j++b.drop j).set j v=a.take (j+1)++b.drop (j+1):=by
 have hj:=(List.getElem?_eq_some_iff.mp hv).1
 have e:a.take (j+1)=a.take j++ [v]:=by rw[take_add_one,hv];rfl
 obtain⟨w,hw⟩: ∃w,b[j]? =some w:=⟨_,getElem?_eq_getElem (jw5 h hj)⟩
 rw[e,jcf hw,List.set_append,if_neg (by rw[length_take];exact jtJ hj)]
 rw[length_take,show j-min j a.length=0 by exact o71 hj]
 simp
theorem jpS{ah:Type}{a b:List ah}{j:Nat}(h:a.length=b.length)(hj:j<=a.length):(a.take j++b.drop j).length=b.length:=by
 simp;exact jw6 h hj
theorem jkN{m:Nat}{le lf:Nat}{es fr:List (Nat×List Val)}{Y:AHeap}{Q:PV->AHeap->Prop}(L:Lv Y le es)(F:Lv Y lf fr)(hlen:fr.length=es.length)(hle: ∀(i:Nat) (p q:Nat×List Val),es[i]? =some p->fr[i]? =some q->q.2.length=p.2.length)(hz: ∀p∈es,p.2.length<1000)(hz2:es.length<1000)
  (nd:(es.map (·.1)).Nodup) (h1:le∉es.map (·.1)) (h2:lf∉es.map (·.1)) (h3: ∀q∈fr,q.1∉es.map (·.1))
  (k: ∀Y',Chg (es.map (·.1)) Y Y'->(∀ (i:Nat) (p q:Nat×List Val),es[i]? =some p->fr[i]? =some q->Y'.get p.1=some (.list (q.2.map Val.pv)))->Q .none Y'):C (m+1) 38 [.ref le,.ref lf] Y Q:=by
 refine jap rfl rfl (rd L.lr (gI (by rw[length_map];exact ja4 hz2) (jm5 (n:=es.length) (by rw[length_map]) (jtK hz2) (fun i Z' Y'=>∃x y z,Z'= [some (.ref le),some (.ref lf),x,y,z]/\Chg (es.map (·.1)) Y Y'/\∀(j:Nat) (p q:Nat×List Val),es[j]? =some p->fr[j]? =some q->Y'.get p.1=some (.list ((if j<i then q.2 else p.2).map Val.pv))) ⟨_,_,_,rfl,.refl _ _,fun j p q hp hq=>by rw[if_neg (jw7)];exact L.each p (mem_of_getElem? hp)⟩ ?_ ?_)))
 ·intro i Z' Y' hi zu2;refine jse zu2 fun x' y z zq3 c hh=>?_;clear zu2;subst zq3
  obtain⟨p,hp⟩: ∃p,es[i]? =some p:=⟨_,getElem?_eq_getElem hi⟩
  obtain⟨q,hq⟩: ∃q,fr[i]? =some q:=⟨_,getElem?_eq_getElem (o45 hlen hi)⟩
  have hpm:=mem_of_getElem? hp
  have hqm:=mem_of_getElem? hq
  have hpl:p.1∈es.map (·.1):=mem_map_of_mem hpm
  have hzp:=hz p hpm
  have g0:=hh i p q hp hq
  rw[if_neg (jw8)]at g0
  have heq:=hle i p q hp hq
  refine rd (c.get L.lr h1) (oI (it hp rfl) (rd g0 (gI (by rw[length_map];exact ja4 (jw9 hzp)) (jm5 (n:=p.2.length) (by rw[length_map]) (jtK hzp) (fun j Z'' Y''=>∃w,Z''= [some (.ref le),some (.ref lf),some (.int i),some (.ref p.1),w]/\Chg [p.1] Y' Y''/\Y''.get p.1=some (.list ((q.2.take j++p.2.drop j).map Val.pv))) ⟨_,rfl,.refl _ _,by simpa using g0⟩ ?_ ?_))))
  ·intro j Z'' Y'' hj zu6;refine jcs zu6 fun w zq7 c2 g2=>?_;clear zu6;subst zq7
   obtain⟨v,hv⟩: ∃v,q.2[j]? =some v:=⟨_,getElem?_eq_getElem (o45 heq hj)⟩
   have cc:Chg (es.map (·.1)) Y Y'':=c.trans c2 (fun _ h=>h) fun l hl=>by rw[mem_singleton.mp hl];exact .inl hpl
   have hl:=jpS (a:=q.2) (b:=p.2) (j:=j) heq (jxa heq hj)
   rw[length_append]at hl
   refine rd (cc.get F.lr h2) (oI (it hq rfl) (rd (cc.get (F.each q hqm) (h3 q hqm)) (oI (it hv rfl) (rd g2 (gI ?_ ⟨_,rfl,c2.to (.set in1),?_⟩)))))
   ·rw[length_map,length_append];exact ofNat_lt.mpr (hl▸hj)
   ·rw[jad (jac g2)]
    show some (PObj.list (List.set _ j _))=_
    rw[<- map_set,jpT heq hv]
  ·intro Z'' Y'' zu0;refine jcs zu0 fun w zq1 c2 g2=>?_;clear zu0;subst zq1
   have:q.2.take p.2.length++p.2.drop p.2.length=q.2:=by rw[List.drop_length,append_nil,List.take_of_length_le (jxb heq)]
   rw[this]at g2
   refine⟨some (.int i),some (.ref p.1),w,rfl,c.trans c2 (fun _ h=>h) fun l hl=>by rw[mem_singleton.mp hl];exact .inl hpl,fun j p' q' hp' hq'=>?_⟩
   by_cases hji:j=i
   ·subst hji
    rw[hp]at hp';cases hp'
    rw[hq]at hq';cases hq'
    rw[if_pos (o2)]
    exact g2
   ·have hjl:=(List.getElem?_eq_some_iff.mp hp').1
    have hne:p'.1≠p.1:=fun e=>by
     have h1:(es.map (·.1))[j]? =some p'.1:=by rw[getElem?_map,hp'];rfl
     have h2:(es.map (·.1))[i]? =some p.1:=by rw[getElem?_map,hp];rfl
     rw[e,<-h2]at h1
     exact hji ((List.getElem?_inj (by simpa using hjl) nd).mp h1)
    rw[c2.get (hh j p' q' hp' hq') fun h=>hne (mem_singleton.mp h)]
    by_cases hlt:j<i
    ·rw[if_pos hlt,if_pos (o7 hlt)]
    ·rw[if_neg hlt,if_neg (jxc hji hlt)]
 ·intro Z' Y' zu2;refine jse zu2 fun x' y z zq3 c hh=>?_;clear zu2;subst zq3
  refine k Y' c fun i p q hp hq=>?_
  have:=hh i p q hp hq
  rw[if_pos (List.getElem?_eq_some_iff.mp hp).1]at this
  exact this
end
noncomputable section
theorem Hv.setRec{Y:AHeap}{H:Hp}(V:Hv Y H)(N:Nd H){i:Nat}{t t':Th}(hi:H.th[i]? =some t)(h1:t'.loc=t.loc)(h2:t'.sl=t.sl)(h3:t'.slots=t.slots):Hv (Y.set t.loc (jbR t')) {H with th:=H.th.set i t'}:=by
 have ht:=mem_of_getElem? hi
 have n:=fun x hx=>(N.thne ht (x:=x) hx).1
 have lt:=jac (V.th t ht).1
 have hmap:(H.th.set i t').map (fun t=>PV.ref t.loc)=H.th.map fun t=>PV.ref t.loc:=by
  apply List.ext_getElem?
  intro j
  rw[getElem?_map,getElem?_map,getElem?_set]
  by_cases h:i=j
  ·subst h
   rw[if_pos rfl,hi]
   split<;>rename_i h2
   ·simp[h1]
   ·exact absurd (List.getElem?_eq_some_iff.mp hi).1 h2
  ·rw[if_neg h]
 refine⟨?_,?_,?_,?_,?_,?_,fun u hu=>?_,?_⟩
 ·rw[jaa (n _ (by simp))];exact V.h
 ·rw[jaa (n _ (by simp))];show _=some (PObj.list ((H.th.set i t').map _));rw[hmap];exact V.tl
 ·rw[jaa (n _ (by simp))];exact V.al
 ·rw[jaa (n _ (by simp))];exact V.cl
 ·rw[jaa (n _ (by simp))];exact V.fl
 ·rw[jaa (n _ (by simp))];exact V.rl
 ·obtain⟨j,hj⟩:=mem_iff_getElem?.mp hu
  have hj:(H.th.set i t')[j]? =some u:=hj
  rw[getElem?_set]at hj
  by_cases h:i=j
  ·rw[if_pos h]at hj
   split at hj
   ·cases hj
    refine⟨by rw[h1];exact jad lt,?_⟩
    rw[h2,h3,jaa (jhE N.th ht)];exact(V.th t ht).2
   ·cases hj
  ·rw[if_neg h]at hj
   have sp:=jgJ N.th hi hj h
   have hu':=V.th u (mem_of_getElem? hj)
   exact⟨by rw[jaa sp.1];exact hu'.1,by rw[jaa sp.2.1];exact hu'.2⟩
 ·refine⟨by rw[length_set];exact V.small.1,fun u hu=>?_⟩
  rcases mem_or_eq_of_mem_set hu with h | h
  ·exact V.small.2 u h
  ·rw[h,h3];exact V.small.2 t ht
theorem jbi{ah:Type}{l:List ah}{i:Nat}{t:ah}(h:l[i]? =some t):l.set i t=l:=by
 have hi:=(List.getElem?_eq_some_iff.mp h).1
 have e:=(List.getElem?_eq_some_iff.mp h).2
 rw[<- e];simp
noncomputable def jah(mv:List (Int×Int))(g:Int)(t:Th):Th:=if t.gen>g then t else{t with addr:=fwd mv t.addr,gen:=if t.gen<2 then t.gen+1 else t.gen}
theorem jgi{m:Nat}{H:Hp}{i:Nat}{t:Th}{g:Int}{lm:Nat}{mv:List (Int×Int)}{Y:AHeap}{Q:PV->AHeap->Prop}(V:Hv Y H)(N:Nd H)(hi:H.th[i]? =some t)(hm:Y.get lm=some (.dict (mvE mv)))(hlm:lm∉H.locs)(hs:jbd mv g t=true)
  (k: ∀mo Y',Hv Y' {H with moved:=mo,th:=H.th.set i (jah mv g t)}->Chg [H.h,t.loc] Y Y'->Q .none Y'):C (m+1) 40 [.ref H.h,.ref t.loc,.ref lm,.int g] Y Q:=by
 have ht:=mem_of_getElem? hi
 have hp:=(V.th t ht).1
 unfold jbd at hs
 refine jap rfl rfl (rd hp (cD (fun hg=>k H.moved Y (by unfold jah;rw[if_pos hg,jbi hi];exact V) (.refl _ _)) fun hg=>?_))
 rw[decide_eq_false hg,Bool.false_or]at hs
 obtain⟨b,hb⟩:=Option.isSome_iff_exists.mp hs
 have es:jah mv g t={t with addr:=b,gen:=if t.gen<2 then t.gen+1 else t.gen}:=by unfold jah fwd;rw[if_neg hg,hb];rfl
 have fin: ∀mo aF,Hv aF {H with moved:=mo}->Chg [H.h] Y aF->(jfO jdl 3).r m [some (.ref H.h),some (.ref t.loc),some (.ref lm),some (.int g),some (.int b)] aF (cl Q):=fun mo aF V0 c0=>by
  have kk:=k mo _ (V0.setRec ⟨N.six,N.th,N.ap⟩ hi (by rw[es]) (by rw[es]) (by rw[es])) (c0.trans (.set (S:=[t.loc]) in1) (fun l h=>mem_singleton.mp h▸in1) fun l h=>.inl (mem_singleton.mp h▸in2))
  rw[es]at kk
  have h0:=(V0.th t ht).1
  have hl:=jac h0
  have g1: ∀{o},(aF.set t.loc o).get t.loc=some o:=jad hl
  refine rd h0 (rd g1 (cD (fun h2=>rd g1 (rd g1 ?_)) fun h2=>?_))
  ·rw[if_pos h2]at kk
   show Q .none ((aF.set t.loc _).set t.loc _)
   rw[set_set]
   exact kk
  ·rw[if_neg h2]at kk
   exact kk
 refine rd hp (rd hm (oI (x:=.int b) (by rw[jec,hb];rfl) (rd hp (cN (fun _=>rd V.h (rd V.h (fin (H.moved+1) _ (V.setH N H.top H.limit H.fresh (H.moved+1) H.made) (.set in1)))) fun _=>fin H.moved Y V (.refl _ _)))))
theorem Nd.re{H H':Hp}(N:Nd H)(hs:(jaA H'.th).Sublist (jaA H.th))(hh: [H'.h,H'.tl,H'.al,H'.cl,H'.fl,H'.rl].Nodup)(hf: ∀x∈ [H'.h,H'.tl,H'.al,H'.cl,H'.fl,H'.rl],x∈ [H.h,H.tl,H.al,H.cl,H.fl,H.rl]\/x∉H.locs):Nd H':=by
 refine⟨hh,N.th.sublist hs,fun l hl h=>?_⟩
 rcases hf l h with h2 | h2
 ·exact N.ap l (hs.subset hl) h2
 ·exact h2 (by rw[jaq];exact mem_append_right _ (hs.subset hl))
theorem Hr.put{Y:AHeap}{H:Hp}(R:Hr Y H)(N:Nd H)(h:H.h<Y.sz):Hv (Y.set H.h (ja0 H)) H:=by
 obtain⟨⟨a1,a2,a3,a4,a5⟩,_⟩:=N.ne
 refine⟨jad h,?_,?_,?_,?_,?_,fun t ht=>?_,R.small⟩
 ·rw[jaa a1];exact R.tl
 ·rw[jaa a2];exact R.al
 ·rw[jaa a3];exact R.cl
 ·rw[jaa a4];exact R.fl
 ·rw[jaa a5];exact R.rl
 ·have n:=N.thne ht (x:=H.h) (by simp)
  rw[jaa (Ne.symm n.1),jaa (Ne.symm n.2)]
  exact R.th t ht
theorem jbP(p:Th->Bool): ∀th:List Th,(jaA (th.filter p)).Sublist (jaA th)
 | []=>.slnil
 | t::r=>by
  have ih:=jbP p r
  rw[filter_cons]
  split
  ·show(t.loc::t.sl::jaA (r.filter p)).Sublist (t.loc::t.sl::jaA r)
   exact(ih.cons_cons _).cons_cons _
  ·show(jaA (r.filter p)).Sublist (t.loc::t.sl::jaA r)
   exact(ih.cons _).cons _
theorem ja5(mv:List (Int×Int))(g:Int)(t:Th):(jah mv g t).loc=t.loc/\(jah mv g t).sl=t.sl/\(jah mv g t).slots=t.slots/\(jah mv g t).size=t.size:=by
 unfold jah;split<;>simp
theorem jhF(mv:List (Int×Int))(g:Int)(th:List Th):jaA (th.map (jah mv g))=jaA th:=by
 unfold jaA
 rw[List.flatMap_map]
 congr 1
 funext t
 rw[(ja5 mv g t).1,(ja5 mv g t).2.1]
theorem ji5{ah:Type}{l:List ah}{i:Nat}{t:ah}(h:l[i]? =some t)(f:ah->ah):((l.take i).map f++l.drop i).set i (f t)=(l.take (i+1)).map f++l.drop (i+1):=by
 have hi:=(List.getElem?_eq_some_iff.mp h).1
 rw[jcf h,ja9 h,List.set_append,if_neg (by rw[length_map,length_take];exact jtJ hi)]
 rw[length_map,length_take,show i-min i l.length=0 by exact o71 hi]
 simp
noncomputable def jhG(th:List Th):Int:=match th.getLast? with
 | none=>16
 | some t=>t.addr+t.size
noncomputable def jbb(H:Hp)(mv:List (Int×Int))(g:Int):List Th:=H.th.filter (jbd mv g)
noncomputable def jdC(H:Hp)(tl al:Nat)(mo:Int)(th:List Th)(at_:List (Int×Nat))(top:Int):Hp:={H with tl:=tl,al:=al,moved:=mo,th:=th,at_:=at_,top:=top}
noncomputable def jay(t:Th):Int×Nat:=(t.addr,t.loc)
theorem Hv.setAt{Y:AHeap}{H:Hp}(V:Hv Y H)(N:Nd H)(c:List (Int×Nat)):Hv (Y.set H.al (.dict (atE c))) {H with at_:=c}:=by
 refine jgk N.ne fun zv4 zv5 zv6 zv7 e=>?_;obtain⟨a1,a2,a3,a4,a5⟩:=zv4;obtain⟨b1,b2,b3,b4⟩:=zv5;obtain⟨c1,c2,c3⟩:=zv6;obtain⟨d1,d2⟩:=zv7
 refine⟨?_,?_,jad (jac V.al),?_,?_,?_,fun t ht=>?_,V.small⟩
 ·rw[jaa (Ne.symm a2)];exact V.h
 ·rw[jaa (Ne.symm b1)];exact V.tl
 ·rw[jaa c1];exact V.cl
 ·rw[jaa c2];exact V.fl
 ·rw[jaa c3];exact V.rl
 ·have n:=N.thne ht (x:=H.al) (by simp)
  rw[jaa (Ne.symm n.1),jaa (Ne.symm n.2)]
  exact V.th t ht
theorem jpR{ah:Type}{l:List ah}{i:Nat}{t:ah}(h:l[i]? =some t)(f:ah->ah):((l.take i).map f++l.drop i)[i]? =some t:=by
 have hi:=(List.getElem?_eq_some_iff.mp h).1
 rw[List.getElem?_append_right (by rw[length_map,length_take];exact juZ hi),length_map,length_take,show i-min i l.length=0 by exact o71 hi,jcf h]
 rfl
theorem jhh{ah aR:Type}{l:List ah}{i:Nat}(f:ah->ah)(p:ah->aR)(h: ∀t,p (f t)=p t):((l.take i).map f++l.drop i).map p=l.map p:=by
 rw[map_append,map_map]
 conv=>rhs;rw[<- List.take_append_drop i l,map_append]
 congr 1
 exact map_congr_left fun t _=>h t
theorem jjA(mv:List (Int×Int))(g:Int)(l:List Th)(i:Nat):jaA ((l.take i).map (jah mv g)++l.drop i)=jaA l:=by
 have h1:=jhF mv g (l.take i)
 unfold jaA at*
 rw[flatMap_append,h1,<-flatMap_append,List.take_append_drop]
theorem joO(l:List Th)(t:Th):jhG (l++ [t])=t.addr+t.size:=by unfold jhG;simp
theorem jfT{m:Nat}{H:Hp}{g:Int}{lm:Nat}{mv:List (Int×Int)}{Y:AHeap}{Q:PV->AHeap->Prop}(V:Hv Y H)(N:Nd H)(hm:Y.get lm=some (.dict (mvE mv)))(hlm:lm∉H.locs)(hd:((jbb H mv g).map (jah mv g)).Pairwise fun a b=>a.addr≠b.addr)
  (k: ∀tl al mo Y',Y.sz<=tl->Y.sz<=al->tl≠al->Hv Y' (jdC H tl al mo ((jbb H mv g).map (jah mv g)) (((jbb H mv g).map (jah mv g)).map jay) (jhG ((jbb H mv g).map (jah mv g))))->Chg (H.h::H.th.map (·.loc)) Y Y'->Q .none Y'):C (m+2) 41 [.ref H.h,.ref lm,.int g] Y Q:=by
 have lt:=V.lt
 have hlt:=jac V.h
 have szl:=(by decide:(100200:Nat)<sizeLine)
 have lmlt:=jac hm
 refine jap rfl rfl (rd (V.ext (.alloc [] (.list []))).h (jcr H.th (fun i Z' Y'=>∃x,Z'= [some (.ref H.h),some (.ref lm),some (.int g),some (.ref Y.sz),x]/\AccL Y Y.sz (((H.th.take i).filter (jbd mv g)).map fun t=>.ref t.loc) Y') (fun i Z' Y' ⟨_,_,A⟩=>(V.ext A.chg).tl) ⟨none,rfl,AccL.start⟩ ?_ ?_))
 ·intro i t Z' Y' ht zu8;refine jaj zu8 fun x' zq9 A=>?_;clear zu8;subst zq9
  have hp:=((V.ext A.chg).th t (mem_of_getElem? ht)).1
  refine jnR (A.chg.get0 hm) hp (jL A (.ref t.loc) (jbd mv g t) (fun j' j=>cB (fun h=>rd A.at_ (rd A.at_ (gI (o19 (by rw[length_map];exact jxd szl (jcQ H.th i (jbd mv g)) V.small.1)) (j h)))) j') fun ai A2 _=>⟨_,rfl,?_⟩)
  rw[jbL ht,jfr];exact A2
 ·intro Z' Y' zu1;refine jaj zu1 fun x' zq2 A=>?_;clear zu1;subst zq2
  rw[take_length]at A
  have Vi:=V.ext A.chg
  have hsz:Y.sz<Y'.sz:=jac A.at_
  have hh':H.h<Y'.sz:=by exact jxe hlt hsz
  obtain⟨lv,hlv⟩: ∃lv,lv=jbb H mv g:=⟨_,rfl⟩
  have hA:Y'.get Y.sz=some (PObj.list (map (fun t=>PV.ref t.loc) (jbb H mv g))):=A.at_
  rw[<- hlv]at hd k hA
  have sub:(jaA lv).Sublist (jaA H.th):=hlv▸jbP _ _
  have mem: ∀t∈lv,t∈H.th/\jbd mv g t=true:=fun t ht=>by rw[hlv]at ht;exact mem_filter.mp ht
  have hll:lv.length<=H.th.length:=by rw[hlv];exact length_filter_le _ _
  have nloc: ∀x,Y.sz<=x->x∉H.locs:=fun x hx h=>by have:=lt x h;exact o15 hx this
  have N2: ∀i mo (a:List (Int×Nat)) (t:Int),Nd (jdC H Y.sz Y'.sz mo ((lv.take i).map (jah mv g)++lv.drop i) a t):=fun i mo a t=>by
   refine jgk N.ne fun zv3 zv4 zv5 zv6 e=>?_;obtain⟨a1,a2,a3,a4,a5⟩:=zv3;obtain⟨b1,b2,b3,b4⟩:=zv4;obtain⟨c1,c2,c3⟩:=zv5;obtain⟨d1,d2⟩:=zv6
   have q1:=lt H.h (by walk_at "l")
   have q2:=lt H.cl (by walk_at "l")
   have q3:=lt H.fl (by walk_at "l")
   have q4:=lt H.rl (by walk_at "l")
   refine N.re ?_ ?_ fun x hx=>?_
   ·show(jaA ((lv.take i).map (jah mv g)++lv.drop i)).Sublist _
    rw[jjA];exact sub
   ·show [H.h,Y.sz,Y'.sz,H.cl,H.fl,H.rl].Nodup
    refine nd6.mpr ?_
    refine⟨⟨?_,?_,a3,a4,a5⟩,⟨?_,?_,?_,?_⟩,⟨?_,?_,?_⟩,⟨d1,d2⟩,e⟩<;>walk_at "o"
   ·have hx:x∈ [H.h,Y.sz,Y'.sz,H.cl,H.fl,H.rl]:=hx
    simp only[mem_cons,not_mem_nil,or_false]at hx ⊢
    rcases hx with h | h | h | h | h | h
    ·simp[h]
    ·exact .inr (nloc x (o30 h))
    ·exact .inr (nloc x (jxf hsz h))
    ·simp[h]
    ·simp[h]
    ·simp[h]
  have gh: ∀{o d},((Y'.set H.h o).alloc d).get H.h=some o:=fun{o d}=>by rw[jae (by rw[jan];exact hh'),jad hh']
  have gh2: ∀{o d o'},(((Y'.set H.h o).alloc d).set H.h o').get H.h=some o':=jad (by rw[jai,jan];exact jtL hlt hsz)
  have V2: ∀{o},Hv (((Y'.set H.h o).alloc (.dict [])).set H.h (ja0 (jdC H Y.sz Y'.sz H.moved ((lv.take 0).map (jah mv g)++lv.drop 0) (((lv.take 0).map (jah mv g)).map jay) (jhG ((lv.take 0).map (jah mv g)))))) (jdC H Y.sz Y'.sz H.moved ((lv.take 0).map (jah mv g)++lv.drop 0) (((lv.take 0).map (jah mv g)).map jay) (jhG ((lv.take 0).map (jah mv g)))):=by
   intro o
   have up: ∀{x o'},Y'.get x=some o'->x≠H.h->((Y'.set H.h o).alloc (.dict [])).get x=some o':=fun{x o'} h hn=>by rw[jae (by rw[jan];exact jac h),jaa (Ne.symm hn)];exact h
   obtain⟨⟨a1,a2,a3,a4,a5⟩,_⟩:=N.ne
   refine Hr.put ⟨?_,?_,?_,?_,?_,fun t ht=>?_,?_⟩ (N2 0 _ _ _) (by show H.h<_;rw[jai,jan];exact jtL hlt hsz)
   ·exact up hA (o6 hlt)
   ·show AHeap.get _ Y'.sz=_
    have:=get_alloc_new (Y:=Y'.set H.h o) (o:=.dict [])
    rw[jan]at this
    exact this
   ·exact up Vi.cl (Ne.symm a3)
   ·exact up Vi.fl (Ne.symm a4)
   ·exact up Vi.rl (Ne.symm a5)
   ·have ht:t∈lv:=ht
    have n:=N.thne (mem t ht).1 (x:=H.h) in1
    exact⟨up (Vi.th t (mem t ht).1).1 n.1,up (Vi.th t (mem t ht).1).2 n.2⟩
   ·refine⟨?_,fun t ht=>Vi.small.2 t (mem t ht).1⟩
    show lv.length<100
    have:=V.small.1;exact jxg hll this
  have hcS: ∀{o o'},Chg [H.h] Y (((Y'.set H.h o).alloc (.dict [])).set H.h o'):=A.chg.nil (((Chg.set (S:=[H.h]) in1).to (.alloc _ _)).to (.set in1))
  refine rd Vi.h (rd gh (rd gh2 (jcr (f:=fun t=>PV.ref t.loc) lv (fun i Z' Y''=>∃x mo,Z'= [some (.ref H.h),some (.ref lm),some (.int g),some (.ref Y.sz),x]/\Hv Y'' (jdC H Y.sz Y'.sz mo ((lv.take i).map (jah mv g)++lv.drop i) (((lv.take i).map (jah mv g)).map jay) (jhG ((lv.take i).map (jah mv g))))/\Chg (H.h::H.th.map (·.loc)) Y Y'') (fun i Z' Y'' ⟨_,_,_,V3,_⟩=>?_) ⟨x',H.moved,rfl,by rw[set_set,jan];exact V2,by rw[set_set];exact hcS.cut fun l hl=>.inl (mem_singleton.mp hl▸in1)⟩ ?_ ?_)))
  ·have e:=jhh (l:=lv) (i:=i) (jah mv g) (fun t=>PV.ref t.loc) fun t=>by rw[(ja5 mv g t).1]
   have this:Y''.get Y.sz=some (.list (((lv.take i).map (jah mv g)++lv.drop i).map fun t=>PV.ref t.loc)):=V3.tl
   rw[e]at this
   exact this
  ·intro i t Z' Y'' ht zu7;refine jaT zu7 fun x' mo zq8 V3 c3=>?_;clear zu7;subst zq8
   have htm:=mem t (mem_of_getElem? ht)
   have N3:=N2 i mo (((lv.take i).map (jah mv g)).map jay) (jhG ((lv.take i).map (jah mv g)))
   refine jgi (m:=m) (H:=jdC H Y.sz Y'.sz mo ((lv.take i).map (jah mv g)++lv.drop i) (((lv.take i).map (jah mv g)).map jay) (jhG ((lv.take i).map (jah mv g)))) V3 N3 (jpR ht _) ?_ ?_ htm.2 fun mo' az V4 c4=>?_
   ·refine c3.get hm fun h=>?_
    simp only[mem_cons,mem_map]at h
    rcases h with h | ⟨u,hu,h⟩
    ·exact hlm (by walk_at "l")
    ·exact hlm (by rw[jaq,<-h];exact mem_append_right _ (jbj hu).1)
   ·intro h
    rw[jaq]at h
    rcases mem_append.mp h with h | h
    ·have h:lm∈ [H.h,Y.sz,Y'.sz,H.cl,H.fl,H.rl]:=h
     simp only[mem_cons,not_mem_nil,or_false]at h
     rcases h with h | h | h | h | h | h
     ·exact hlm (by walk_at "l")
     ·exact o25 lmlt h
     ·exact jxh lmlt hsz h
     ·exact hlm (by walk_at "l")
     ·exact hlm (by walk_at "l")
     ·exact hlm (by walk_at "l")
    ·have h:lm∈jaA ((lv.take i).map (jah mv g)++lv.drop i):=h
     rw[jjA]at h
     exact hlm (by rw[jaq];exact mem_append_right _ (sub.subset h))
   ·have V4':Hv az (jdC H Y.sz Y'.sz mo' ((lv.take (i+1)).map (jah mv g)++lv.drop (i+1)) (((lv.take i).map (jah mv g)).map jay) (jhG ((lv.take i).map (jah mv g)))):=by
     have e:=ji5 ht (jah mv g)
     rw[<- e];exact V4
    have N4:=N2 (i+1) mo' (((lv.take i).map (jah mv g)).map jay) (jhG ((lv.take i).map (jah mv g)))
    have V5:=V4'.setAt N4 (((lv.take (i+1)).map (jah mv g)).map jay)
    have N5:=N2 (i+1) mo' (((lv.take (i+1)).map (jah mv g)).map jay) (jhG ((lv.take i).map (jah mv g)))
    have tm:jah mv g t∈(lv.take (i+1)).map (jah mv g)++lv.drop (i+1):=by rw[ja9 ht];simp
    have fresh: ∀p∈((lv.take i).map (jah mv g)).map jay,p.1≠(jah mv g t).addr:=fun p hp=>by
     refine jaj (mem_map.mp hp) fun u hu zq0=>?_;subst zq0
     refine jaj (mem_map.mp hu) fun w hw zq1=>?_;subst zq1
     obtain⟨j,hj,hjw⟩:=List.mem_take_iff_getElem.mp hw
     have hi:=(List.getElem?_eq_some_iff.mp ht).1
     have:=pairwise_iff_getElem.mp hd j i (by rw[length_map];exact o31 hj hi) (by rw[length_map];exact o21 hi) (o74 hj hi)
     rw[List.getElem_map,List.getElem_map,hjw,(List.getElem?_eq_some_iff.mp ht).2]at this
     exact this
    have e5:jhO (atE (((lv.take i).map (jah mv g)).map jay)) (jah mv g t).addr (.ref t.loc)=atE (((lv.take (i+1)).map (jah mv g)).map jay):=by
     rw[jlq fresh,ja9 ht,map_append]
     congr 2
     unfold jay
     simp[(ja5 mv g t).1]
    rw[<- e5]at V5
    have V6:=V5.setH N5 (jhG ((lv.take (i+1)).map (jah mv g))) H.limit H.fresh mo' H.made
    have hp:=(V4'.th _ tm).1
    rw[(ja5 mv g t).1]at hp
    have hp5:=(V5.th _ tm).1
    rw[(ja5 mv g t).1]at hp5
    have hil:=(List.getElem?_eq_some_iff.mp ht).1
    have lena:(atE (((lv.take i).map (jah mv g)).map jay)).length<1000:=by unfold atE;simp only[length_map,length_take];exact jxi hll hil V.small.1
    have e6:=joO ((lv.take i).map (jah mv g)) (jah mv g t)
    rw[<- ja9 ht]at e6
    rw[e6]at V6
    refine rd V4'.h (rd hp (rd V4'.al (gI (jas lena) (rd hp5 (rd hp5 (rd V5.h ⟨_,mo',rfl,?_,?_⟩))))))
    ·rw[e6];exact V6
    ·refine(((c3.trans c4 (fun _ h=>h) fun l hl=>?_).setNew (o43 hsz)).to (.set in1))
     have hl:l∈ [H.h,t.loc]:=hl
     simp only[mem_cons,not_mem_nil,or_false]at hl
     left
     rcases hl with h | h
     ·simp[h]
     ·exact .tail _ (h▸mem_map_of_mem htm.1)
  ·intro Z' Y'' zu2;refine jaT zu2 fun x' mo zq3 V3 c3=>?_;clear zu2;subst zq3
   rw[take_length,List.drop_length,append_nil]at V3
   exact k Y.sz Y'.sz mo _ (le_refl _) (o43 hsz) (o1 hsz) V3 c3
noncomputable def jmy(H:Hp):Nat×List Val:=(H.rl,H.rdy.map .ref)
theorem jnD{Y:AHeap}{H:Hp}(V:Hv Y H):Y.get (jmy H).1=some (.list ((jmy H).2.map Val.pv)):=by
 unfold jmy
 rw[V.rl,map_map];rfl
theorem jjw{m:Nat}{H:Hp}{lr:Nat}{ls:List (Nat×List Val)}{Y:AHeap}{Q:PV->AHeap->Prop}(V:Hv Y H)(L:Lv Y lr ls)(hz:ls.length<1000)
  (k: ∀l Y',Chg [] Y Y'->Y.sz<=l->Lv Y' l (ls++ [jmy H])->Q (.ref l) Y'):C (m+1) 43 [.ref H.h,.ref lr,.none] Y Q:=by
 refine jap rfl rfl (jpD (o:=3) (i:=4) rfl rfl (by decide) AccL.start ((L.ext (.alloc _ _)).lr) (by exact o1 (jac L.lr)) (rl' (jas hz)) fun x au A c=>?_)
 have C3:Chg [] Y (au.set Y.sz (.list (ls.map (fun p=>.ref p.1)++ [.ref H.rl]))):=A.chg.setNew (le_refl _)
 refine rd A.at_ (rd (V.ext A.chg).h (rd A.at_ (gI (rl' (jas hz)) (k _ _ C3 (le_refl _) ⟨?_,fun p hp=>?_⟩))))
 ·rw[jad (jac A.at_),map_append];rfl
 ·rcases mem_append.mp hp with hp | hp
  ·exact(L.ext C3).each p hp
  ·rw[mem_singleton.mp hp];exact jnD (V.ext C3)
structure Sep (H:Hp) (lr:Nat) (ls:List (Nat×List Val)):Prop where
 nd:Nd H
 r1:lr∉H.locs
 r2:lr∉ls.map (·.1)
 l1: ∀x∈ls.map (·.1),x∉H.locs
 l2:(ls.map (·.1)).Nodup
theorem joH{th:List Th}(h:(jaA th).Nodup):(th.map (·.sl)).Nodup:=by
 rw[nodup_iff_pairwise_ne,pairwise_map]
 rw[pairwise_iff_getElem]
 intro i j hi hj hij
 exact(jgJ h (getElem?_eq_getElem hi) (getElem?_eq_getElem hj) (o1 hij)).2.2.2
noncomputable def jew(H:Hp)(mv:List (Int×Int))(t:Th):Th:={t with slots:=t.slots.map (Val.mv H mv)}
noncomputable def jbm(H:Hp)(mv:List (Int×Int))(ls:List (Nat×List Val)):List (Nat×List Val):=ls.map fun p=>(p.1,p.2.map (Val.mv H mv))
noncomputable def jav(H:Hp)(mv:List (Int×Int))(g:Int):List Th:=(jbb H mv g).map fun t=>jah mv g (jew H mv t)
noncomputable def jfs(H:Hp)(mv:List (Int×Int))(g:Int)(tl al fl:Nat)(mo:Int):Hp:={H with tl:=tl,al:=al,fl:=fl,moved:=mo,fin:=H.fin.map (fwd mv),rdy:=H.rdy.map (fwd mv),th:=jav H mv g,at_:=(jav H mv g).map jay,top:=jhG (jav H mv g)}
theorem jjr{m:Nat}{l lm h:Nat}{Y:AHeap}{Q:PV->AHeap->Prop}(hg:Y.get l=some (.inst .words [none,none]))(k:Q .none (Y.set l (.inst .words [some (.ref h),some (.ref lm)]))):C (m+1) 81 [.ref l,.ref h,.ref lm] Y Q:=by
 refine jap rfl rfl (rd hg (rd (jad (jac hg)) ?_))
 show Q .none ((Y.set l _).set l _)
 rw[set_set]
 exact k
noncomputable def jaV(H:Hp)(mv:List (Int×Int))(g:Int)(ls:List (Nat×List Val)):List (Nat×List Val):=ls++ [jmy H]++(jbb H mv g).map fun t=>(t.sl,t.slots)
theorem jom{H:Hp}{lr:Nat}{ls:List (Nat×List Val)}(S:Sep H lr ls)(mv:List (Int×Int))(g:Int):((jaV H mv g ls).map (·.1)).Nodup:=by
 unfold jaV
 rw[map_append,map_append,map_map]
 have h1:(map ((fun x:Nat×List Val=>x.1)∘fun t:Th=>(t.sl,t.slots)) (jbb H mv g))=(jbb H mv g).map (·.sl):=rfl
 rw[h1,nodup_append,nodup_append]
 refine⟨⟨S.l2,by simp,fun a ha b hb=>?_⟩,joH (S.nd.th.sublist (jbP _ _)),fun a ha b hb=>?_⟩
 ·rw[List.map_singleton,mem_singleton]at hb
  intro e
  exact S.l1 a ha (by rw[e,hb];simp[Hp.locs,jmy])
 ·refine jaj (mem_map.mp hb) fun t ht zq8=>?_;subst zq8
  have htm:=(mem_filter.mp ht).1
  have h2:=jbj htm
  rcases mem_append.mp ha with ha | ha
  ·exact fun e=>S.l1 a ha (by rw[e,jaq];exact mem_append_right _ h2.2)
  ·rw[List.map_singleton,mem_singleton]at ha
   exact fun e=>(S.nd.thne htm (x:=H.rl) (by simp)).2 (by rw[<- e,ha];rfl)
theorem jcP{H:Hp}{mv:List (Int×Int)}{g:Int}{ls:List (Nat×List Val)}{x:Nat}(h:x∈(jaV H mv g ls).map (·.1)):x∈ls.map (·.1)\/x=H.rl\/∃t∈H.th,jbd mv g t=true/\x=t.sl:=by
 unfold jaV at h
 rw[map_append,map_append,map_map]at h
 rcases mem_append.mp h with h | h
 ·rcases mem_append.mp h with h | h
  ·exact .inl h
  ·rw[List.map_singleton,mem_singleton]at h
   exact .inr (.inl h)
 ·refine jaj (mem_map.mp h) fun t ht zq9=>?_;subst zq9
  have:=mem_filter.mp ht
  exact .inr (.inr ⟨t,this.1,this.2,rfl⟩)
noncomputable def jb8(H:Hp)(mv:List (Int×Int))(g:Int)(t:Th):Th:=if jbd mv g t=true then jew H mv t else t
noncomputable def jli(H:Hp)(mv:List (Int×Int))(g:Int):Hp:={H with rdy:=H.rdy.map (fwd mv),th:=H.th.map (jb8 H mv g)}
theorem jbM(H:Hp)(mv:List (Int×Int))(g:Int)(t:Th):(jb8 H mv g t).loc=t.loc/\(jb8 H mv g t).sl=t.sl/\jbd mv g (jb8 H mv g t)=jbd mv g t/\(jb8 H mv g t).slots.length=t.slots.length:=by
 unfold jb8
 split
 ·exact⟨rfl,rfl,rfl,by simp[jew]⟩
 ·exact⟨rfl,rfl,rfl,rfl⟩
theorem jlj(mv:List (Int×Int))(g:Int)(H:Hp): ∀th:List Th,(th.map (jb8 H mv g)).filter (jbd mv g)=(th.filter (jbd mv g)).map (jew H mv)
 | []=>rfl
 | t::r=>by
  have ih:=jlj mv g H r
  rw[map_cons,filter_cons,filter_cons,(jbM H mv g t).2.2.1,ih]
  cases h:jbd mv g t
  ·simp
  ·simp[jb8,h]
theorem jel(H:Hp)(mv:List (Int×Int))(g:Int)(th:List Th):jaA (th.map (jb8 H mv g))=jaA th:=by
 unfold jaA
 rw[List.flatMap_map]
 congr 1
 funext t
 rw[(jbM H mv g t).1,(jbM H mv g t).2.1]
theorem jfV(H:Hp)(mv:List (Int×Int))(g:Int):jaA (jav H mv g)=jaA (jbb H mv g):=by
 unfold jaA jav
 rw[List.flatMap_map]
 congr 1
 funext t
 rw[(ja5 mv g _).1,(ja5 mv g _).2.1];rfl
theorem jrm{H:Hp}{lr:Nat}{ls:List (Nat×List Val)}{mv:List (Int×Int)}{g:Int}{Y Y':AHeap}(V:Hv Y H)(S:Sep H lr ls)(c:Chg ((jaV H mv g ls).map (·.1)) Y Y')(h: ∀p∈jaV H mv g ls,Y'.get p.1=some (.list ((p.2.map (Val.mv H mv)).map Val.pv))):Hv Y' (jli H mv g):=by
 have N:=S.nd
 have out: ∀x∈ [H.h,H.tl,H.al,H.cl,H.fl],x∉(jaV H mv g ls).map (·.1):=fun x hx hm=>by
  refine jgk N.ne fun zv0 zv1 zv2 zv3 e=>?_;obtain⟨a1,a2,a3,a4,a5⟩:=zv0;obtain⟨b1,b2,b3,b4⟩:=zv1;obtain⟨c1,c2,c3⟩:=zv2;obtain⟨d1,d2⟩:=zv3
  rcases jcP hm with h | h | ⟨t,ht,_,h⟩
  ·refine S.l1 x h ?_
   simp only[mem_cons,not_mem_nil,or_false]at hx
   rcases hx with rfl | rfl | rfl | rfl | rfl<;>walk_at "l"
  ·simp only[mem_cons,not_mem_nil,or_false]at hx
   rcases hx with rfl | rfl | rfl | rfl | rfl
   ·exact a5 h
   ·exact b4 h
   ·exact c3 h
   ·exact d2 h
   ·exact e h
  ·refine(N.thne ht (x:=x) ?_).2 h.symm
   simp only[mem_cons,not_mem_nil,or_false]at hx ⊢
   rcases hx with rfl | rfl | rfl | rfl | rfl<;>simp
 have hmap:(H.th.map (jb8 H mv g)).map (fun t=>PV.ref t.loc)=H.th.map fun t=>PV.ref t.loc:=by
  rw[map_map]
  exact map_congr_left fun t _=>by show PV.ref (jb8 H mv g t).loc=_;rw[(jbM H mv g t).1]
 refine⟨c.get V.h (out H.h (by simp)),?_,c.get V.al (out H.al (by simp)),c.get V.cl (out H.cl (by simp)),c.get V.fl (out H.fl (by simp)),?_,fun u hu=>?_,?_⟩
 ·show _=some (PObj.list ((H.th.map (jb8 H mv g)).map _))
  rw[hmap]
  exact c.get V.tl (out H.tl (by simp))
 ·have:=h (jmy H) (by simp[jaV])
  show Y'.get H.rl=_
  unfold jmy at this
  rw[this]
  simp[jli,Val.mv]
 ·refine jaj (mem_map.mp (show u∈H.th.map (jb8 H mv g) from hu)) fun t ht zq4=>?_;subst zq4
  have hp:=V.th t ht
  have ml:=jbM H mv g t
  have n1:t.loc∉(jaV H mv g ls).map (·.1):=fun hm=>by
   rcases jcP hm with h | h | ⟨u,hu,_,h⟩
   ·exact S.l1 _ h (by rw[jaq];exact mem_append_right _ (jbj ht).1)
   ·exact(N.thne ht (x:=H.rl) (by simp)).1 h
   ·obtain⟨i,hi⟩:=mem_iff_getElem?.mp ht
    obtain⟨j,hj⟩:=mem_iff_getElem?.mp hu
    by_cases e:i=j
    ·subst e
     rw[hi]at hj;cases hj
     exact jhE N.th ht h
    ·exact(jgJ N.th hi hj e).2.1 h
  cases hst:jbd mv g t with
  | true=>
   have e:jb8 H mv g t=jew H mv t:=by unfold jb8;rw[if_pos hst]
   rw[e]
   refine⟨c.get hp.1 n1,?_⟩
   exact h (t.sl,t.slots) (by unfold jaV;exact mem_append_right _ (mem_map.mpr ⟨t,mem_filter.mpr ⟨ht,hst⟩,rfl⟩))
  | false=>
   have e:jb8 H mv g t=t:=by unfold jb8;rw[if_neg (by rw[hst];decide)]
   rw[e]
   refine⟨c.get hp.1 n1,c.get hp.2 fun hm=>?_⟩
   rcases jcP hm with h | h | ⟨u,hu,h2,h⟩
   ·exact S.l1 _ h (by rw[jaq];exact mem_append_right _ (jbj ht).2)
   ·exact(N.thne ht (x:=H.rl) (by simp)).2 h
   ·obtain⟨i,hi⟩:=mem_iff_getElem?.mp ht
    obtain⟨j,hj⟩:=mem_iff_getElem?.mp hu
    by_cases e:i=j
    ·subst e
     rw[hi]at hj;cases hj
     rw[hst]at h2;cases h2
    ·exact(jgJ N.th hi hj e).2.2.2 h
 ·refine⟨?_,fun u hu=>?_⟩
  ·show(H.th.map (jb8 H mv g)).length<100
   rw[length_map];exact V.small.1
  ·refine jaj (mem_map.mp (show u∈H.th.map (jb8 H mv g) from hu)) fun t ht zq5=>?_;subst zq5
   rw[(jbM H mv g t).2.2.2];exact V.small.2 t ht
theorem jl0{H:Hp}{mv:List (Int×Int)}{g:Int}{z tl al fl:Nat}{mo:Int}(h1:z<=tl)(h2:z<=al)(h3:z<=fl): ∀x∈(jfs H mv g tl al fl mo).locs,x∈H.locs\/z<=x:=fun x hx=>by
 have sub:(jaA (jav H mv g)).Sublist (jaA H.th):=by rw[jfV];exact jbP _ _
 rw[jaq]at hx
 rcases mem_append.mp hx with hx | hx
 ·have hx:x∈ [H.h,tl,al,H.cl,fl,H.rl]:=hx
  simp only[mem_cons,not_mem_nil,or_false]at hx
  rcases hx with rfl | rfl | rfl | rfl | rfl | rfl
  ·left;walk_at "l"
  ·exact .inr h1
  ·exact .inr h2
  ·left;walk_at "l"
  ·exact .inr h3
  ·left;walk_at "l"
 ·left
  rw[jaq];exact mem_append_right _ (sub.subset hx)
theorem jnj{H:Hp}{lr:Nat}{ls:List (Nat×List Val)}{mv:List (Int×Int)}{g:Int}{z tl al fl:Nat}{mo:Int}(S:Sep H lr ls)(hlt: ∀l∈H.locs,l<z)(h1:z<=tl)(h2:z<=al)(h3:z<=fl)(h4:tl≠al)(h5:tl≠fl)(h6:al≠fl)(hr:lr<z)(hl: ∀x∈ls.map (·.1),x<z):Sep (jfs H mv g tl al fl mo) lr (jbm H mv ls):=by
 refine jgk S.nd.ne fun zv6 zv7 zv8 zv9 e=>?_;obtain⟨a1,a2,a3,a4,a5⟩:=zv6;obtain⟨b1,b2,b3,b4⟩:=zv7;obtain⟨c1,c2,c3⟩:=zv8;obtain⟨d1,d2⟩:=zv9
 have q1:=hlt H.h (by walk_at "l")
 have q2:=hlt H.cl (by walk_at "l")
 have q3:=hlt H.rl (by walk_at "l")
 have sub:(jaA (jav H mv g)).Sublist (jaA H.th):=by rw[jfV];exact jbP _ _
 have locs: ∀x∈(jfs H mv g tl al fl mo).locs,x∈H.locs\/z<=x:=fun x hx=>by
  rw[jaq]at hx
  rcases mem_append.mp hx with hx | hx
  ·have hx:x∈ [H.h,tl,al,H.cl,fl,H.rl]:=hx
   simp only[mem_cons,not_mem_nil,or_false]at hx
   rcases hx with rfl | rfl | rfl | rfl | rfl | rfl
   ·left;walk_at "l"
   ·exact .inr h1
   ·exact .inr h2
   ·left;walk_at "l"
   ·exact .inr h3
   ·left;walk_at "l"
  ·left
   rw[jaq];exact mem_append_right _ (sub.subset hx)
 have el:(jbm H mv ls).map (·.1)=ls.map (·.1):=by unfold jbm;rw[map_map];rfl
 refine⟨S.nd.re sub ?_ fun x hx=>?_,fun h=>?_,?_,fun x hx h=>?_,?_⟩
 ·show [H.h,tl,al,H.cl,fl,H.rl].Nodup
  refine nd6.mpr ?_
  refine⟨⟨?_,?_,a3,?_,a5⟩,⟨h4,?_,h5,?_⟩,⟨?_,h6,?_⟩,⟨?_,d2⟩,?_⟩<;>walk_at "o"
 ·have hx:x∈ [H.h,tl,al,H.cl,fl,H.rl]:=hx
  have nl: ∀y,z<=y->y∉H.locs:=fun y hy h=>by have:=hlt y h;exact o15 hy this
  simp only[mem_cons,not_mem_nil,or_false]at hx ⊢
  rcases hx with h | h | h | h | h | h
  ·simp[h]
  ·exact .inr (nl x (o75 h1 h))
  ·exact .inr (nl x (o75 h2 h))
  ·simp[h]
  ·exact .inr (nl x (o75 h3 h))
  ·simp[h]
 ·rcases locs _ h with h | h
  ·exact S.r1 h
  ·exact o46 hr h
 ·rw[el];exact S.r2
 ·rw[el]at hx
  rcases locs _ h with h | h
  ·exact S.l1 x hx h
  ·have:=hl x hx;exact o15 h this
 ·rw[el];exact S.l2
theorem jmn{m:Nat}{H:Hp}{g:Int}{lr lm:Nat}{mv:List (Int×Int)}{ls:List (Nat×List Val)}{Y:AHeap}{Q:PV->AHeap->Prop}(V:Hv Y H)(S:Sep H lr ls)(L:Lv Y lr ls)(hs:Srt H)(hl:jn6 H)(hm:Y.get lm=some (.dict (mvE mv)))(hlm:lm∉H.locs)(hp1: ∀p∈ls,∀v∈p.2,joz H v)(hp2: ∀t∈H.th,∀v∈t.slots,joz H v)(hz1:ls.length<100)(hz2: ∀p∈ls,p.2.length<1000)(hz3:H.rdy.length<1000)(hz4:H.fin.length<1000)(hd:(jav H mv g).Pairwise fun a b=>a.addr≠b.addr)
  (k: ∀tl al fl mo Y',Hv Y' (jfs H mv g tl al fl mo)->Lv Y' lr (jbm H mv ls)->Sep (jfs H mv g tl al fl mo) lr (jbm H mv ls)->(∀ x∈(jfs H mv g tl al fl mo).locs,x∈H.locs\/Y.sz<=x)->Chg (H.locs++ls.map (·.1)) Y Y'->Q .none Y'):C (m+9) 42 [.ref H.h,.ref lr,.ref lm,.int g] Y Q:=by
 have szl:=(by decide:(100200:Nat)<sizeLine)
 have lt:=V.lt
 have hlr:=jac L.lr
 have hlmlt:=jac hm
 have hth:=V.small.1
 have body: ∀aC,Chg [] Y aC->Wd aC H Y.sz lm mv->aC.sz=Y.sz+1->jp9 4 [some (.ref H.h),some (.ref lr),some (.ref lm),some (.int g),none,none,none,none] (sq (jfO jgn 1).r (m+8) (cl Q)) (.ref Y.sz) aC:=fun aC bh dp cQ=>by
  refine jpD (o:=5) (i:=6) rfl rfl (by decide) AccL.start ((L.ext (bh.to (.alloc _ _))).lr) (fun e=>by rw[cQ]at e;exact o23 hlr e) (rl' (jtM hz1 szl)) fun x az A3 c3=>?_
  have nz:lr<aC.sz:=lt_of_lt_of_le hlr bh.1
  have V3:=V.ext (bh.to A3.chg)
  have A4:=A3.put (.ref H.rl)
  have V4:=V.ext (bh.to A4.chg)
  refine rd A3.at_ (rd V3.h (rd A3.at_ (gI (rl' (jtM hz1 szl)) (rd V4.h (jcr H.th (fun i Z' Y'=>∃y,Z'= [some (.ref H.h),some (.ref lr),some (.ref lm),some (.int g),some (.ref Y.sz),some (.ref aC.sz),x,y]/\AccL aC aC.sz (ls.map (fun p=>.ref p.1)++ [.ref H.rl]++((H.th.take i).filter (jbd mv g)).map fun t=>.ref t.sl) Y') (fun i Z' Y' ⟨_,_,A⟩=>(V.ext (bh.to A.chg)).tl) ⟨none,rfl,by simpa using A4⟩ ?_ ?_)))))
  ·intro i t Z' Y' ht zu0;refine jaj zu0 fun y' zq1 A=>?_;clear zu0;subst zq1
   have hp:=((V.ext (bh.to A.chg)).th t (mem_of_getElem? ht)).1
   refine jnR (m:=m+7) ((bh.to A.chg).get0 hm) hp (jL A (.ref t.sl) (jbd mv g t) (fun j' j=>cB (fun h=>rd A.at_ (rd hp (rd A.at_ (gI (o19 (by simp only[length_append,length_map,length_cons,length_nil];exact jxj hz1 szl hth (jcQ H.th i (jbd mv g)))) (j h))))) j') fun ai A2 _=>⟨_,rfl,?_⟩)
   rw[jbL ht,jfr,<-append_assoc];exact A2
  ·intro Z' aM zu3;refine jaj zu3 fun y' zq4 A=>?_;clear zu3;subst zq4
   rw[take_length]at A
   have c5:=bh.to A.chg
   have V5:=V.ext c5
   have L5:=L.ext c5
   have W5:=dp.ext A.chg
   have le5:aC.sz∉(jaV H mv g ls).map (·.1):=fun h=>by
    rw[cQ]at h
    rcases jcP h with h | h | ⟨t,ht,_,h⟩
    ·refine jaj (mem_map.mp h) fun p hp e=>?_
     have:=jac (L.each p hp);exact jxk e this
    ·have:=lt H.rl (by walk_at "l");exact jtN h this
    ·have:=jac (V.th t ht).2;exact jtN h this
   have E5:Lv aM aC.sz (jaV H mv g ls):=by
    refine⟨?_,fun p hp=>?_⟩
    ·rw[A.at_];unfold jaV;rw[map_append,map_append,map_map];rfl
    ·unfold jaV at hp
     rcases mem_append.mp hp with hp | hp
     ·rcases mem_append.mp hp with hp | hp
      ·exact L5.each p hp
      ·rw[mem_singleton.mp hp];exact jnD V5
     ·refine jaj (mem_map.mp hp) fun t ht zq5=>?_;subst zq5
      exact(V5.th t (mem_filter.mp ht).1).2
   have elen:(jaV H mv g ls).length<1000:=by
    unfold jaV jbb
    have:=length_filter_le (jbd mv g) H.th
    simp only[length_append,length_map,length_cons,length_nil]
    exact jxl hz1 hth this
   have eok: ∀p∈jaV H mv g ls,(∀ v∈p.2,joz H v)/\p.2.length<1000:=fun p hp=>by
    unfold jaV at hp
    rcases mem_append.mp hp with hp | hp
    ·rcases mem_append.mp hp with hp | hp
     ·exact⟨hp1 p hp,hz2 p hp⟩
     ·rw[mem_singleton.mp hp]
      refine⟨fun v hv=>?_,by unfold jmy;rw[length_map];exact hz3⟩
      refine jaj (mem_map.mp hv) fun a _ zq6=>?_;subst zq6
      trivial
    ·refine jaj (mem_map.mp hp) fun t ht zq7=>?_;subst zq7
     have:=(mem_filter.mp ht).1
     exact⟨hp2 t this,lt_trans (V.small.2 t this) (by decide)⟩
   refine jkL (m:=m) V5 hs hl W5 E5 (fun p hp=>(eok p hp).1) (fun p hp=>(eok p hp).2) elen fun l' fr aN c6 hl' F hfr hnew=>?_
   have frlen:fr.length=(jaV H mv g ls).length:=by have:=congrArg length hfr;simpa using this
   have frat: ∀(i:Nat) (p q:Nat×List Val),(jaV H mv g ls)[i]? =some p->fr[i]? =some q->q.2=p.2.map (Val.mv H mv):=fun i p q hp hq=>by
    have h1:(fr.map (·.2))[i]? =some q.2:=by rw[getElem?_map,hq];rfl
    rw[hfr,getElem?_map,hp]at h1
    exact(Option.some.inj h1).symm
   have small: ∀x∈(jaV H mv g ls).map (·.1),x<aM.sz:=fun x hx=>by
    refine jaj (mem_map.mp hx) fun p hp zq8=>?_;subst zq8
    exact jac (E5.each p hp)
   refine jkN (m:=m+7) (E5.ext c6) F frlen (fun i p q hp hq=>by rw[frat i p q hp hq,length_map]) (fun p hp=>(eok p hp).2) elen (jom S mv g) le5 (fun h=>by have:=small _ h;exact o15 hl' this) (fun q hq h=>by have:=small _ h;have:=hnew q hq;walk_at "o") fun aS c7 h7=>?_
   have at7: ∀p∈jaV H mv g ls,aS.get p.1=some (.list ((p.2.map (Val.mv H mv)).map Val.pv)):=fun p hp=>by
    obtain⟨i,hi⟩:=mem_iff_getElem?.mp hp
    have hil:=(List.getElem?_eq_some_iff.mp hi).1
    obtain⟨q,hq⟩: ∃q,fr[i]? =some q:=⟨_,getElem?_eq_getElem (o45 frlen hil)⟩
    rw[h7 i p q hi hq,frat i p q hi hq]
   have V7:=jrm (V5.ext c6) S c7 at7
   have lmn:lm∉(jaV H mv g ls).map (·.1):=fun h=>by
    refine jaj (mem_map.mp h) fun p hp e=>?_
    have:=E5.each p hp
    rw[e,W5.m]at this
    cases this
   have hm7:aS.get lm=some (.dict (mvE mv)):=c7.get (c6.get0 W5.m) lmn
   have z7:Y.sz<=aS.sz:=le_trans c5.1 (le_trans c6.1 c7.1)
   refine rd V7.h (jhB (m:=m+7) hm7 V7.fl hz4 fun fl bl A8=>?_)
   have flz:=A8.new
   have V8:=V7.ext A8.chg
   have Nm:Nd (jli H mv g):=by
    refine S.nd.re ?_ S.nd.six fun x hx=>.inl hx
    show(jaA (H.th.map _)).Sublist _
    rw[jel];exact Sublist.refl _
   have mlocs:(jli H mv g).locs=H.locs:=by
    rw[jaq,jaq]
    show _++jaA (H.th.map _)=_
    rw[jel];rfl
   have nfl:fl∉(jli H mv g).locs:=fun h=>by rw[mlocs]at h;have:=lt _ h;exact jxm z7 flz this
   have V9:=V8.newFl Nm A8.at_ nfl
   have V9':Hv (bl.set H.h (ja0 {jli H mv g with fl:=fl,fin:=H.fin.map (fwd mv)})) {jli H mv g with fl:=fl,fin:=H.fin.map (fwd mv)}:=V9
   have N9:Nd {jli H mv g with fl:=fl,fin:=H.fin.map (fwd mv)}:=by
    refine jgk S.nd.ne fun zv9 zv0 zv1 zv2 e=>?_;obtain⟨a1,a2,a3,a4,a5⟩:=zv9;obtain⟨b1,b2,b3,b4⟩:=zv0;obtain⟨c1,c2,c3⟩:=zv1;obtain⟨d1,d2⟩:=zv2
    have nm: ∀x∈H.locs,x≠fl:=fun x hx e=>by have:=lt x hx;walk_at "o"
    refine Nm.re (Sublist.refl _) ?_ fun x hx=>?_
    ·show [H.h,H.tl,H.al,H.cl,fl,H.rl].Nodup
     refine nd6.mpr ?_
     have n1:=nm H.h (by walk_at "l")
     have n2:=nm H.tl (by walk_at "l")
     have n3:=nm H.al (by walk_at "l")
     have n4:=nm H.cl (by walk_at "l")
     have n5:=nm H.rl (by walk_at "l")
     exact⟨⟨a1,a2,a3,n1,a5⟩,⟨b1,b2,n2,b4⟩,⟨c1,n3,c3⟩,⟨n4,d2⟩,Ne.symm n5⟩
    ·have hx:x∈ [H.h,H.tl,H.al,H.cl,fl,H.rl]:=hx
     show x∈ [H.h,H.tl,H.al,H.cl,H.fl,H.rl]\/_
     simp only[mem_cons,not_mem_nil,or_false]at hx ⊢
     rcases hx with h | h | h | h | h | h
     ·simp[h]
     ·simp[h]
     ·simp[h]
     ·simp[h]
     ·right;rw[h];exact nfl
     ·simp[h]
   have live9:jbb {jli H mv g with fl:=fl,fin:=H.fin.map (fwd mv)} mv g=(jbb H mv g).map (jew H mv):=jlj mv g H H.th
   have set9:((jbb {jli H mv g with fl:=fl,fin:=H.fin.map (fwd mv)} mv g).map (jah mv g))=jav H mv g:=by
    rw[live9,map_map];rfl
   have hm9:(bl.set H.h (ja0 {jli H mv g with fl:=fl,fin:=H.fin.map (fwd mv)})).get lm=some (.dict (mvE mv)):=by
    rw[jaa (fun e=>hlm (by walk_at "l"))]
    exact A8.chg.get0 hm7
   refine rd V8.h (jfT (m:=m+6) (H:={jli H mv g with fl:=fl,fin:=H.fin.map (fwd mv)}) V9' N9 hm9 ?_ (by rw[set9];exact hd) fun tl al mo Y' htl hal hne V10 c10=>?_)
   ·intro h
    rw[jaq]at h
    rcases mem_append.mp h with h | h
    ·have h:lm∈ [H.h,H.tl,H.al,H.cl,fl,H.rl]:=h
     have lmfl:lm≠fl:=jtO hlmlt z7 flz
     simp only[mem_cons,not_mem_nil,or_false]at h
     rcases h with h | h | h | h | h | h
     ·exact hlm (by walk_at "l")
     ·exact hlm (by walk_at "l")
     ·exact hlm (by walk_at "l")
     ·exact hlm (by walk_at "l")
     ·exact lmfl h
     ·exact hlm (by walk_at "l")
    ·have h:lm∈jaA (H.th.map (jb8 H mv g)):=h
     rw[jel]at h
     exact hlm (by rw[jaq];exact mem_append_right _ h)
   ·rw[set9]at V10
    rw[jan]at htl hal
    have flt:=jac A8.at_
    have cS:Chg (H.locs++ls.map (·.1)) Y Y':=by
     have d1:Chg ((jaV H mv g ls).map (·.1)) Y aS:=(c5.to c6).nil c7
     have d2:Chg (H.locs++ls.map (·.1)) Y aS:=d1.cut fun l hl=>by
      left
      rcases jcP hl with h | h | ⟨t,ht,_,h⟩
      ·exact mem_append_right _ h
      ·exact mem_append_left _ (by walk_at "l")
      ·exact mem_append_left _ (by rw[jaq,h];exact mem_append_right _ (jbj ht).2)
     have d3:=(d2.thenNil A8.chg).to (.set (m:=H.h) (o:=ja0 {jli H mv g with fl:=fl,fin:=H.fin.map (fwd mv)}) (mem_append_left _ (lh H)))
     refine d3.trans c10 (fun _ h=>h) fun l hl=>.inl ?_
     rcases mem_cons.mp hl with h | h
     ·exact mem_append_left _ (by rw[h];exact lh H)
     ·refine jaj (mem_map.mp h) fun u hu zq3=>?_;subst zq3
      refine jaj (mem_map.mp (show u∈H.th.map (jb8 H mv g) from hu)) fun t ht zq4=>?_;subst zq4
      rw[(jbM H mv g t).1]
      exact mem_append_left _ (by rw[jaq];exact mem_append_right _ (jbj ht).1)
    have lsz: ∀x∈ls.map (·.1),x<Y.sz:=fun x hx=>by
     refine jaj (mem_map.mp hx) fun p hp zq5=>?_;subst zq5
     exact jac (L.each p hp)
    refine k tl al fl mo Y' V10 ⟨?_,fun p hp=>?_⟩ (jnj S lt (o34 z7 flz htl flt) (o34 z7 flz hal flt) (o24 z7 flz) hne (o11 htl flt) (o11 hal flt) hlr lsz) (jl0 (o34 z7 flz htl flt) (o34 z7 flz hal flt) (o24 z7 flz)) cS
    ·have nlr:lr∉H.locs++ls.map (·.1):=fun h=>by
      rcases mem_append.mp h with h | h
      ·exact S.r1 h
      ·exact S.r2 h
     rw[cS.get L.lr nlr]
     unfold jbm;rw[map_map];rfl
    ·unfold jbm at hp
     refine jaj (mem_map.mp hp) fun q hq zq6=>?_;subst zq6
     have h7:=at7 q (by unfold jaV;exact mem_append_left _ (mem_append_left _ hq))
     have hqn:q.1∉H.locs:=S.l1 _ (mem_map_of_mem hq)
     have h9:(bl.set H.h (ja0 {jli H mv g with fl:=fl,fin:=H.fin.map (fwd mv)})).get q.1=some (.list ((q.2.map (Val.mv H mv)).map Val.pv)):=by
      rw[jaa (fun e=>hqn (by rw[<- e];walk_at "l"))]
      exact A8.chg.get0 h7
     refine c10.get h9 fun h=>hqn ?_
     rcases mem_cons.mp h with h | h
     ·rw[h];exact lh H
     ·refine jaj (mem_map.mp h) fun u hu e=>?_
      refine jaj (mem_map.mp (show u∈H.th.map (jb8 H mv g) from hu)) fun t ht zq7=>?_;subst zq7
      rw[(jbM H mv g t).1]at e
      rw[<- e,jaq];exact mem_append_right _ (jbj ht).1
 have bh: ∀{o},Chg [] Y ((Y.alloc o).set Y.sz (.inst .words [some (.ref H.h),some (.ref lm)])):=(Chg.alloc _ _).setNew (le_refl _)
 exact jap rfl rfl (jjr (m:=m+7) get_alloc_new ⟨rfl,body _ bh ⟨jad (by rw[jai];exact o2),bh.get0 hm⟩ (by rw[jan,jai])⟩)
end
noncomputable section
noncomputable def Lay:Int->Int->List Th->Prop
 | _,_,[]=>True
 | e,g,t::r=>t.addr=e/\t.gen<=g/\0<=t.gen/\t.size=szF t.slots.length/\t.slots.length<=3/\Lay (e+t.size) t.gen r
noncomputable def jca:Int->List Th->Int
 | e,[]=>e
 | e,t::r=>jca (e+t.size) r
theorem jlv(n:Nat):3<=szF n/\(2:Int)+n<=szF n:=by unfold szF;split<;>walk_at "o"
theorem jrT{n:Nat}(h:n<=3):szF n<=5:=by unfold szF;split<;>walk_at "o"
theorem Lay.mem: ∀{th:List Th} {e g:Int},Lay e g th->∀t∈th,e<=t.addr/\t.addr+t.size<=jca e th/\3<=t.size/\t.size=szF t.slots.length/\t.slots.length<=3/\0<=t.gen/\t.gen<=g
 | [],_,_,_,t,ht=>by cases ht
 | a::r,e,g,h,t,ht=>by
  refine jmz h fun h1 h2 h3 h4 h5 h6=>?_;clear h
  have:=(jlv a.slots.length).1
  have en: ∀(r:List Th) (e g:Int),Lay e g r->e<=jca e r:=by
   intro r
   induction r with
   | nil=>intro e g _;exact Int.le_refl _
   | cons b r ih=>
    intro e g ⟨_,_,_,q,_,q2⟩
    have:=ih _ _ q2
    have:=(jlv b.slots.length).1
    unfold jca;walk_at "o"
  rcases mem_cons.mp ht with rfl | ht
  ·have:=en _ _ _ h6
   unfold jca
   refine⟨by walk_at "o",by walk_at "o",by walk_at "o",h4,h5,h3,h2⟩
  ·have ih:=h6.mem t ht
   unfold jca
   refine⟨by exact jxn h4 this ih,ih.2.1,ih.2.2.1,ih.2.2.2.1,ih.2.2.2.2.1,ih.2.2.2.2.2.1,by exact jxo h2 ih⟩
theorem Lay.endle: ∀{th:List Th} {e g:Int},Lay e g th->e<=jca e th/\jca e th<=e+5*th.length
 | [],e,_,_=>by unfold jca;simp
 | a::r,e,g,h=>by
  refine jmz h fun h1 h2 h3 h4 h5 h6=>?_;clear h
  have:=(jlv a.slots.length).1
  have:=jrT h5
  have:=h6.endle
  unfold jca
  simp only[length_cons]
  walk_at "o"
noncomputable def Dj(th:List Th):Prop:=th.Pairwise fun a b=>a.addr+a.size<=b.addr
theorem Lay.dj: ∀{th:List Th} {e g:Int},Lay e g th->Dj th
 | [],_,_,_=>.nil
 | a::r,e,g,h=>by
  refine jmz h fun h1 h2 h3 h4 h5 h6=>?_;clear h
  refine .cons (fun b hb=>?_) h6.dj
  have:=(h6.mem b hb).1
  exact ju1 h1 this
theorem Lay.gens: ∀{th:List Th} {e g:Int},Lay e g th->th.Pairwise fun a b=>b.gen<=a.gen
 | [],_,_,_=>.nil
 | a::r,e,g,h=>by
  refine jmz h fun h1 h2 h3 h4 h5 h6=>?_;clear h
  exact .cons (fun b hb=>(h6.mem b hb).2.2.2.2.2.2) h6.gens
noncomputable def jcJ(H:Hp)(a:Int):Prop:=a=0\/∃t∈H.th,t.addr=a
noncomputable def jcb(t:Th)(w:Int):Prop:=t.addr<=w/\w<t.addr+t.size
noncomputable def jfX(H:Hp):Val->Prop
 | .ref a=>jcJ H a
 | .i4 _=>True
 | .one a=>jcJ H a
 | .two a b=>jcJ H a/\jcJ H b
 | _=>False
noncomputable def jfG(H:Hp):Val->Prop
 | .pl w _=>∃t∈H.th,jcb t w
 | v=>jfX H v
structure Inv (H:Hp) (ls:List (Nat×List Val)):Prop where
 lay:Lay 16 2 H.th
 top:H.top=jca 16 H.th
 at_:jhP H
 slots: ∀t∈H.th,∀v∈t.slots,jfX H v
 roots: ∀p∈ls,∀v∈p.2,jfG H v
 fin: ∀a∈H.fin,∃t∈H.th,t.addr=a
 rdy: ∀a∈H.rdy,∃t∈H.th,t.addr=a
 cards:jfv H= []
 bits:Bits H
 len:H.th.length<100
structure First (H:Hp) (ls:List (Nat×List Val)):Prop where
 th: ∃t r,H.th=t::r/\t.slots.length=2
 ls: ∃l0 l1 a b c d,ls= [(l0,[a,b]),(l1,[c,d,.ref 16])]
theorem jj3{H:Hp}{A B:List Th}{t:Th}{w:Int}(h:H.th=A++t::B)(h1: ∀a∈A,a.addr<=w)(h2:t.addr<=w)(h3: ∀b∈B,w<b.addr):jj2 H w=A++ [t]:=by
 unfold jj2
 rw[h,List.takeWhile_append_of_pos fun a ha=>by simpa using h1 a ha,List.takeWhile_cons,if_pos (by simpa using h2)]
 congr 2
 cases B with
 | nil=>rfl
 | cons b r=>
  rw[List.takeWhile_cons,if_neg]
  have:=h3 b (by simp)
  simp;exact ju2 this
theorem jeT{H:Hp}{w:Int}{l:Nat}(h:H.at_.lookup w=some l):ja8 H w=some l:=by unfold ja8;rw[h]
theorem jdv{H:Hp}{A B:List Th}{t:Th}{w:Int}(h:H.th=A++t::B)(h1: ∀a∈A,a.addr<=w)(h2:t.addr<=w)(h3: ∀b∈B,w<b.addr)(hl:H.at_.lookup w=none):ja8 H w=if w<t.addr+t.size then some t.loc else none:=by
 unfold ja8
 rw[hl,jj3 h h1 h2 h3]
 simp
theorem jaM{H:Hp}{A B:List Th}{t:Th}{w:Int}(h:H.th=A++t::B)(h1: ∀a∈A,a.addr<=w)(h2:jcb t w)(h3: ∀b∈B,w<b.addr):(ja8 H w).isSome=true:=by
 cases e:H.at_.lookup w with
 | some l=>rw[jeT e];rfl
 | none=>rw[jdv h h1 h2.1 h3 e,if_pos h2.2];rfl
structure Dj3 (th:List Th):Prop where
 dj:Dj th
 sz: ∀t∈th,3<=t.size
theorem Lay.dj3{th:List Th}{e g:Int}(h:Lay e g th):Dj3 th:=⟨h.dj,fun t ht=>(h.mem t ht).2.2.1⟩
theorem Dj3.split{th:List Th}(d:Dj3 th){t:Th}(ht:t∈th): ∃A B,th=A++t::B/\(∀ a∈A,a.addr+a.size<=t.addr/\3<=a.size)/\(∀ b∈B,t.addr+t.size<=b.addr):=by
 refine jqR (append_of_mem ht) fun A B e=>?_
 have dj:=d.dj
 unfold Dj at dj
 rw[e,pairwise_append]at dj
 refine⟨A,B,e,fun a ha=>⟨dj.2.2 a ha t (by simp),d.sz a (by rw[e];simp[ha])⟩,fun b hb=>(pairwise_cons.mp dj.2.1).1 b hb⟩
theorem Dj3.uniq{th:List Th}(d:Dj3 th){t u:Th}(ht:t∈th)(hu:u∈th){w:Int}(h1:jcb t w)(h2:jcb u w):t=u:=by
 refine jaT (d.split ht) fun A B e hA hB=>?_
 rw[e]at hu
 unfold jcb at h1 h2
 rcases mem_append.mp hu with h | h
 ·have:=hA u h;exact jxp h1 h2 this
 ·rcases mem_cons.mp h with h | h
  ·exact h.symm
  ·have:=hB u h;exact jxq h1 h2 this
theorem Dj3.addr{th:List Th}(d:Dj3 th){t u:Th}(ht:t∈th)(hu:u∈th)(h:t.addr=u.addr):t=u:=by
 have h1:=d.sz t ht
 have h2:=d.sz u hu
 exact d.uniq (w:=t.addr) ht hu (by unfold jcb;exact jtP h1) (by unfold jcb;exact jxr h h2)
theorem jfU{th:List Th}(d:Dj3 th){t:Th}(ht:t∈th):jcK th t.addr=some t:=by
 cases e:jcK th t.addr with
 | none=>
  have:=List.find?_eq_none.mp e t ht
  simp at this
 | some u=>
  have:=jdd e
  rw[d.addr this.1 ht this.2]
theorem jjz{th:List Th}{a:Int}(h: ∀t∈th,t.addr≠a):jcK th a=none:=by
 unfold jcK
 rw[List.find?_eq_none]
 intro t ht
 simpa using h t ht
theorem jgP{H:Hp}(ha:jhP H)(a:Int):H.at_.lookup a=(jcK H.th a).map (·.loc):=by rw[show H.at_=_ from ha];exact jhe _ _
theorem jbV{H:Hp}(ha:jhP H)(d:Dj3 H.th){t:Th}{w:Int}(ht:t∈H.th)(h:jcb t w):ja8 H w=some t.loc:=by
 refine jaT (d.split ht) fun A B e hA hB=>?_
 cases hw:H.at_.lookup w with
 | some l=>
  rw[jeT hw]
  rw[jgP ha]at hw
  cases hu:jcK H.th w with
  | none=>rw[hu]at hw;cases hw
  | some u=>
   rw[hu]at hw
   obtain⟨h1,h2⟩:=jdd hu
   have h3:=d.sz u h1
   have:=d.uniq ht h1 h (by unfold jcb;exact jtQ h2 h3)
   rw[this,<-Option.some.inj hw]
 | none=>
  unfold jcb at h
  rw[jdv e (fun a h=>by have:=hA a h;walk_at "o") h.1 (fun b h=>by have:=hB b h;walk_at "o") hw,if_pos h.2]
theorem jm1{H:Hp}(ha:jhP H)(d:Dj3 H.th){w:Int}(h: ∀t∈H.th,¬jcb t w):ja8 H w=none:=by
 have hl:H.at_.lookup w=none:=by
  rw[jgP ha]
  cases hu:jcK H.th w with
  | none=>rfl
  | some u=>
   obtain⟨h1,h2⟩:=jdd hu
   have h3:=d.sz u h1
   exact absurd (by unfold jcb;exact jtQ h2 h3) (h u h1)
 unfold ja8
 rw[hl]
 cases e:(jj2 H w).getLast? with
 | none=>rfl
 | some t=>
  have hm:=List.mem_of_getLast? e
  have h1:t∈H.th:=(List.takeWhile_sublist _).subset hm
  have h2:t.addr<=w:=by
   have:=all_eq_true.mp (List.all_takeWhile (l:=H.th) (p:=fun t:Th=>decide (t.addr<=w))) t hm
   simpa using this
  dsimp only
  rw[if_neg]
  intro h3
  exact h t h1 ⟨h2,h3⟩
section
variable{H:Hp}{ls:List (Nat×List Val)}
theorem Inv.d(I:Inv H ls):Dj3 H.th:=I.lay.dj3
theorem Inv.srt(I:Inv H ls):Srt H:=by
 have:=I.lay.dj
 refine Pairwise.imp_of_mem (fun ha hb h=>?_) this
 have:=I.d.sz _ ha
 exact o35 h this
theorem Inv.in_(I:Inv H ls): ∀t∈H.th,In t.addr/\t.addr+t.size<1000/\16<=t.addr:=fun t ht=>by
 have h1:=I.lay.mem t ht
 have h2:=I.lay.endle
 have h3:=I.len
 unfold In
 exact jxs h1 h2 h3
theorem Inv.valid_ref(I:Inv H ls){a:Int}(h:jcJ H a):jhK H a:=by
 rcases h with h | ⟨t,ht,rfl⟩
 ·exact .inl h
 ·have:=I.d.sz t ht
  exact .inr ⟨t,ht,jbV I.at_ I.d ht (by unfold jcb;exact jtP this)⟩
theorem jcn{v:Val}(h:jfX H v): ∀w∈jaf v,jcJ H w:=fun w hw=>by
 cases v with
 | ref a=>simp[jaf]at hw;rw[hw];exact h
 | i4 n=>simp[jaf,jal]at hw
 | lc=>exact h.elim
 | pl w z=>exact h.elim
 | one a=>
  simp only[jaf,jal]at hw
  split at hw
  ·cases hw
  ·rw[mem_singleton.mp hw];exact h
 | two a b=>
  simp only[jaf,jal]at hw
  rcases mem_append.mp hw with hw | hw
  ·split at hw
   ·cases hw
   ·rw[mem_singleton.mp hw];exact h.1
  ·split at hw
   ·cases hw
   ·rw[mem_singleton.mp hw];exact h.2
theorem jqf{v:Val}(h:jfX H v):joz H v:=by
 cases v<;>first | trivial | exact h.elim
theorem Inv.slot_valid(I:Inv H ls){v:Val}(h:jfX H v): ∀w∈jaf v,jhK H w:=fun w hw=>I.valid_ref (jcn h w hw)
theorem Inv.root_valid(I:Inv H ls){v:Val}(h:jfG H v): ∀w∈jaf v,jhK H w:=fun w hw=>by
 cases v with
 | pl p z=>
  refine jaj h fun t ht hi=>?_;clear h
  simp[jaf]at hw
  rw[hw]
  exact .inr ⟨t,ht,jbV I.at_ I.d ht hi⟩
 | ref a=>exact I.slot_valid (v:=.ref a) h w hw
 | i4 a=>exact I.slot_valid (v:=.i4 a) h w hw
 | one a=>exact I.slot_valid (v:=.one a) h w hw
 | two a b=>exact I.slot_valid (v:=.two a b) h w hw
 | lc=>exact I.slot_valid (v:=.lc) h w hw
theorem Inv.root_pl(I:Inv H ls){v:Val}(h:jfG H v):joz H v:=by
 cases v with
 | pl p z=>
  refine jaj h fun t ht hi=>?_;clear h
  exact⟨t,ht,jbV I.at_ I.d ht hi⟩
 | _=>trivial
theorem Nd.loc1(N:Nd H):jn6 H:=fun t ht u hu e=>by
 obtain⟨i,hi⟩:=mem_iff_getElem?.mp ht
 obtain⟨j,hj⟩:=mem_iff_getElem?.mp hu
 by_cases h:i=j
 ·subst h;rw[hi]at hj;exact Option.some.inj hj
 ·exact absurd e (jgJ N.th hi hj h).1
theorem Inv.okv(I:Inv H ls)(N:Nd H):Okv H:=⟨I.srt,N.loc1,fun t ht u hu h=>I.d.addr ht hu h,fun t ht v hv=>I.slot_valid (I.slots t ht v hv)⟩
end
theorem jbh{ah aR:Type}{f:ah->List aR}{n:Nat}: ∀{l:List ah},(∀ x∈l,(f x).length<=n)->(l.flatMap f).length<=n*l.length
 | [],_=>by simp
 | a::r,h=>by
  have ih:=jbh (f:=f) (n:=n) (l:=r) fun x hx=>h x (.tail _ hx)
  have:=h a (by simp)
  rw[flatMap_cons,length_append,length_cons,Nat.mul_add]
  exact jxt ih this
theorem Inv.ylen{H:Hp}{ls:List (Nat×List Val)}(I:Inv H ls):(jaE H).length<=3*H.th.length:=jbh fun t ht=>le_trans (jkT H t) (I.lay.mem t ht).2.2.2.2.1
theorem Inv.olen{H:Hp}{ls:List (Nat×List Val)}(I:Inv H ls)(g:Int):(jcC H g).length<=3*H.th.length:=jbh fun t ht=>by
 have:=(I.lay.mem t ht).2.2.2.2.1
 unfold oSl
 split
 ·rw[length_map]
  refine le_trans (length_filter_le _ _) ?_
  rw[length_range];exact this
 ·simp
structure Marks (H:Hp) (g:Int) (ls:List (Nat×List Val)) (M M':List Int):Prop where
 sub: ∀a∈M,a∈M'
 ok:MOk H g M'
 cl:Cl H g M' []
 roots:jlr H g M' (ls++ [jmy H])
 old:g<2->jsk H g M' (jcC H g)
 dead: ∀a∈H.fin.filter (jbr H M g),hand H g M' a
theorem Inv.rdy_valid{H:Hp}{ls:List (Nat×List Val)}(I:Inv H ls): ∀p∈ls++ [jmy H],∀v∈p.2,∀w∈jaf v,jhK H w:=fun p hp v hv w hw=>by
 rcases mem_append.mp hp with hp | hp
 ·exact I.root_valid (I.roots p hp v hv) w hw
 ·rw[mem_singleton.mp hp]at hv
  refine jaj (mem_map.mp hv) fun a ha zq8=>?_;subst zq8
  exact I.slot_valid (v:=.ref a) (.inr (I.rdy a ha)) w hw
theorem jhz{m:Nat}{H:Hp}{g:Int}{lr:Nat}{ls:List (Nat×List Val)}{Y:AHeap}{Q:PV->AHeap->Prop}(V:Hv Y H)(I:Inv H ls)(S:Sep H lr ls)(L:Lv Y lr ls)(hz:ls.length<100)(hf:H.fin.length+H.rdy.length<1000)
  (k: ∀l lf M M' Y',Hv Y' (jcH H lf M g)->Marks H g ls M M'->Y'.get l=some (.dict (jaG M'))->Y.sz<=l->Y.sz<=lf->l≠lf->Chg [H.h,H.rl] Y Y'->Q (.ref l) Y'):C (m+6) 44 [.ref H.h,.ref lr,.none,.int g] Y Q:=by
 refine jap rfl rfl ?_
 have N:=S.nd
 have ae:=I.okv N
 have lt:=V.lt
 have hin: ∀t∈H.th,In t.addr:=fun t ht=>(I.in_ t ht).1
 have hol:=I.olen g
 have hlen:=I.len
 refine jjw (m:=m+4) V L (o3 hz) fun l1 aC c1 hl1 L1=>?_
 refine jrU (V.ext c1) ae L1 I.bits hin I.rdy_valid (jxu hol hlen) fun lm M au c2 hlm hM mok cl ro old hb=>?_
 have V2:=V.ext (c1.to c2)
 have z1:=c1.1
 have z2:=c2.1
 have nlm:lm∉H.locs:=fun h=>by have:=lt _ h;exact jxv hlm z1 this
 refine jhC (m:=m+3) V2 N I.at_ hM nlm hf fun lf lp az hlf hlp V3 hP c3=>?_
 have lmlt:=jac hM
 have lm3:lm∉ [H.h,H.rl]:=fun h=>by
  simp only[mem_cons,not_mem_nil,or_false]at h
  rcases h with h | h
  ·exact nlm (by walk_at "l")
  ·exact nlm (by walk_at "l")
 have hM3:=c3.get hM lm3
 have nl3:lm∉(jcH H lf M g).locs:=fun h=>by
  rw[jaq]at h
  rcases mem_append.mp h with h | h
  ·have h:lm∈ [H.h,H.tl,H.al,H.cl,lf,H.rl]:=h
   simp only[mem_cons,not_mem_nil,or_false]at h
   rcases h with h | h | h | h | h | h
   ·exact nlm (by walk_at "l")
   ·exact nlm (by walk_at "l")
   ·exact nlm (by walk_at "l")
   ·exact nlm (by walk_at "l")
   ·exact jxw hlf lmlt h
   ·exact nlm (by walk_at "l")
  ·exact nlm (by rw[jaq];exact mem_append_right _ h)
 have hun:un H M<1000:=lt_of_le_of_lt List.countP_le_length (o3 hlen)
 refine jjv (m:=m) (H:=jcH H lf M g) V3 ⟨ae.srt,ae.loc,ae.addr,ae.val⟩ hM3 nl3 hP (fun a ha=>?_) mok cl hb hun fun M' ay s4 mok4 cl4 h4 hM4 c4=>?_
 ·have:=(mem_filter.mp ha).1
  exact I.valid_ref (.inr (I.fin a this))
 ·try simp only[wq]
  refine k lm lf M M' ay ?_ ⟨s4,mok4,cl4,fun p hp v hv w hw=>(ro p hp v hv w hw).mono s4,fun hg p hp v hv w hw=>(old hg p hp v hv w hw).mono s4,h4⟩ hM4 (jtR hlm z1) (jxx hlm z1 hlf lmlt) (o36 hlf lmlt) ?_
  ·exact V3.keep c4 fun l hl h=>nl3 (by rw[<- mem_singleton.mp h];exact hl)
  ·exact(((c1.to c2).nil c3).trans c4 (fun _ h=>h) fun l hl=>by rw[mem_singleton.mp hl];right;exact jtR hlm z1)
noncomputable def jag(H:Hp)(g:Int)(M':List Int):List (Int×Int):=jby M' g H.th (jaI g H.th 16)
theorem Sep.cl{H:Hp}{lr:Nat}{ls:List (Nat×List Val)}(S:Sep H lr ls){l:Nat}{c:List Int}(h1:l∉H.locs)(h2:l≠lr)(h3:l∉ls.map (·.1)):Sep {H with cl:=l,cards:=c} lr ls:=by
 have key: ∀x,x∈({H with cl:=l,cards:=c}:Hp).locs->x∈H.locs\/x=l:=fun x hx=>by
  rw[jaq]at hx
  rcases mem_append.mp hx with hx | hx
  ·have hx:x∈ [H.h,H.tl,H.al,l,H.fl,H.rl]:=hx
   simp only[mem_cons,not_mem_nil,or_false]at hx
   rcases hx with h | h | h | h | h | h
   ·left;walk_at "l"
   ·left;walk_at "l"
   ·left;walk_at "l"
   ·exact .inr h
   ·left;walk_at "l"
   ·left;walk_at "l"
  ·left;rw[jaq];exact mem_append_right _ hx
 refine⟨S.nd.newCl h1,fun h=>?_,S.r2,fun x hx h=>?_,S.l2⟩
 ·rcases key _ h with h | h
  ·exact S.r1 h
  ·exact h2 h.symm
 ·rcases key _ h with h | h
  ·exact S.l1 x hx h
  ·exact h3 (h▸hx)
theorem Sep.pick{H:Hp}{lr lf:Nat}{ls:List (Nat×List Val)}{M:List Int}{g:Int}(S:Sep H lr ls)(h1:lf∉H.locs)(h2:lf≠lr)(h3:lf∉ls.map (·.1)):Sep (jcH H lf M g) lr ls:=by
 have key: ∀x,x∈(jcH H lf M g).locs->x∈H.locs\/x=lf:=fun x hx=>by
  rw[jaq]at hx
  rcases mem_append.mp hx with hx | hx
  ·have hx:x∈ [H.h,H.tl,H.al,H.cl,lf,H.rl]:=hx
   simp only[mem_cons,not_mem_nil,or_false]at hx
   rcases hx with h | h | h | h | h | h
   ·left;walk_at "l"
   ·left;walk_at "l"
   ·left;walk_at "l"
   ·left;walk_at "l"
   ·exact .inr h
   ·left;walk_at "l"
  ·left;rw[jaq];exact mem_append_right _ hx
 refine jgk S.nd.ne fun zv9 zv0 zv1 zv2 e=>?_;obtain⟨a1,a2,a3,a4,a5⟩:=zv9;obtain⟨b1,b2,b3,b4⟩:=zv0;obtain⟨c1,c2,c3⟩:=zv1;obtain⟨d1,d2⟩:=zv2
 have nm: ∀x∈H.locs,x≠lf:=fun x hx e=>h1 (e▸hx)
 refine⟨S.nd.re (Sublist.refl _) ?_ fun x hx=>?_,fun h=>?_,S.r2,fun x hx h=>?_,S.l2⟩
 ·show [H.h,H.tl,H.al,H.cl,lf,H.rl].Nodup
  refine nd6.mpr ?_
  have n1:=nm H.h (by walk_at "l")
  have n2:=nm H.tl (by walk_at "l")
  have n3:=nm H.al (by walk_at "l")
  have n4:=nm H.cl (by walk_at "l")
  have n5:=nm H.rl (by walk_at "l")
  exact⟨⟨a1,a2,a3,n1,a5⟩,⟨b1,b2,n2,b4⟩,⟨c1,n3,c3⟩,⟨n4,d2⟩,Ne.symm n5⟩
 ·have hx:x∈ [H.h,H.tl,H.al,H.cl,lf,H.rl]:=hx
  simp only[mem_cons,not_mem_nil,or_false]at hx ⊢
  rcases hx with h | h | h | h | h | h
  ·simp[h]
  ·simp[h]
  ·simp[h]
  ·simp[h]
  ·right;rw[h];exact h1
  ·simp[h]
 ·rcases key _ h with h | h
  ·exact S.r1 h
  ·exact h2 h.symm
 ·rcases key _ h with h | h
  ·exact S.l1 x hx h
  ·exact h3 (h▸hx)
noncomputable def Con:Int->List Th->Prop
 | _,[]=>True
 | e,t::r=>t.addr=e/\t.size=szF t.slots.length/\t.slots.length<=3/\Con (e+t.size) r
theorem Lay.con: ∀{th:List Th} {e g:Int},Lay e g th->Con e th
 | [],_,_,_=>trivial
 | t::r,e,g,h=>by
  refine jmz h fun h1 h2 h3 h4 h5 h6=>?_;clear h
  exact⟨h1,h4,h5,h6.con⟩
theorem Con.lay: ∀{th:List Th} {e g:Int},Con e th->(th.Pairwise fun a b=>b.gen<=a.gen)->(∀ t∈th,0<=t.gen/\t.gen<=g)->Lay e g th
 | [],_,_,_,_,_=>trivial
 | t::r,e,g,h,hp,hb=>by
  refine jjF h fun h1 h4 h5 h6=>?_;clear h
  obtain⟨p1,p2⟩:=pairwise_cons.mp hp
  exact⟨h1,(hb t (by simp)).2,(hb t (by simp)).1,h4,h5,h6.lay p2 fun u hu=>⟨(hb u (.tail _ hu)).1,p1 u hu⟩⟩
theorem jd0: ∀{A B:List Th} {e:Int},Con e (A++B)<->Con e A/\Con (jca e A) B
 | [],B,e=>by simp[Con,jca]
 | t::r,B,e=>by
  simp only[cons_append,Con,jca]
  rw[jd0]
  constructor
  ·intro zu3;refine jgk zu3 fun a b c d e=>?_;clear zu3;exact⟨⟨a,b,c,d⟩,e⟩
  ·rintro⟨⟨a,b,c,d⟩,e⟩;exact⟨a,b,c,d,e⟩
theorem jjl{g:Int}: ∀{th:List Th},(th.Pairwise fun a b=>b.gen<=a.gen)->∃A B,th=A++B/\(∀ a∈A,a.gen>g)/\∀b∈B,b.gen<=g
 | [],_=>⟨[],[],rfl,by simp,by simp⟩
 | t::r,h=>by
  obtain⟨p1,p2⟩:=pairwise_cons.mp h
  by_cases hg:t.gen>g
  ·obtain⟨A,B,e,hA,hB⟩:=jjl p2
   refine⟨t::A,B,by rw[e];rfl,fun a ha=>?_,hB⟩
   rcases mem_cons.mp ha with rfl | ha
   ·exact hg
   ·exact hA a ha
  ·refine⟨[],t::r,rfl,by simp,fun b hb=>?_⟩
   rcases mem_cons.mp hb with rfl | hb
   ·exact o52 hg
   ·have:=p1 b hb;exact jxy hg this
theorem jgq(g:Int): ∀(A B:List Th) (e:Int),jaI g (A++B) e=jaI g B (jaI g A e)
 | [],_,_=>rfl
 | t::r,B,e=>by simp only[cons_append,jaI];exact jgq g r B _
theorem jgr{g:Int}: ∀{A:List Th} {e:Int},Con e A->(∀ a∈A,a.gen>g)->jaI g A e=jca e A
 | [],_,_,_=>rfl
 | t::r,e,h,hg=>by
  refine jjF h fun h1 h4 h5 h6=>?_;clear h
  have:=(jlv t.slots.length).1
  simp only[jaI,jca]
  rw[if_pos ⟨hg t (by simp),by exact jxz h1 h4 this⟩,h1]
  exact jgr h6 fun a ha=>hg a (.tail _ ha)
theorem jer{g:Int}: ∀{B:List Th} {e:Int},(∀ b∈B,b.gen<=g)->jaI g B e=e
 | [],_,_=>rfl
 | t::r,e,hg=>by
  simp only[jaI]
  rw[if_neg fun h=>by have:=hg t (by simp);exact jxA h this]
  exact jer fun a ha=>hg a (.tail _ ha)
theorem jjg{M:List Int}{g:Int}: ∀{A B:List Th} {e:Int},(∀ a∈A,a.gen>g)->jby M g (A++B) e=jby M g B e
 | [],_,_,_=>rfl
 | t::r,B,e,hg=>by
  simp only[cons_append,jby]
  rw[if_neg fun h=>by have:=hg t (by simp);exact jxB h this]
  exact jjg fun a ha=>hg a (.tail _ ha)
theorem jgy{l:List (Int×Int)}(h:l.Pairwise fun p q=>p.1≠q.1): ∀p∈l,l.lookup p.1=some p.2:=by
 induction l with
 | nil=>intro p hp;cases hp
 | cons q r ih=>
  intro p hp
  obtain⟨p1,p2⟩:=pairwise_cons.mp h
  rw[show q=(q.1,q.2) from rfl,lookup_cons]
  rcases mem_cons.mp hp with rfl | hp
  ·simp
  ·have:(p.1==q.1)=false:=by simpa using (Ne.symm (p1 p hp))
   rw[this];exact ih p2 p hp
theorem jfp{l:List (Int×Int)}{a b:Int}(h:l.lookup a=some b):(a,b)∈l:=by
 induction l with
 | nil=>cases h
 | cons q r ih=>
  rw[show q=(q.1,q.2) from rfl,lookup_cons]at h
  split at h
  ·rename_i e
   have:a=q.1:=by simpa using e
   cases h
   rw[this];simp
  ·exact .tail _ (ih h)
theorem jdQ{M:List Int}{g:Int}: ∀{th:List Th} {e:Int},(th.Pairwise fun a b=>a.addr≠b.addr)->(jby M g th e).Pairwise fun p q=>p.1≠q.1
 | [],_,_=>.nil
 | t::r,e,h=>by
  obtain⟨p1,p2⟩:=pairwise_cons.mp h
  simp only[jby]
  split
  ·refine .cons (fun q hq=>?_) (jdQ p2)
   refine jkV (jc8 hq) fun u hu _ _ e=>?_
   rw[e];exact p1 u hu
  ·exact jdQ p2
theorem jhr{M:List Int}{g:Int}: ∀{th:List Th} {e:Int} {t:Th},t∈th->t.gen<=g->t.addr∈M->∃b,(t.addr,b)∈jby M g th e
 | [],_,_,h,_,_=>by cases h
 | u::r,e,t,h,hg,hm=>by
  simp only[jby]
  rcases mem_cons.mp h with rfl | h
  ·rw[if_pos ⟨hg,hm⟩];exact⟨e,by simp⟩
  ·split
   ·obtain⟨b,hb⟩:=jhr (e:=e+u.size) h hg hm
    exact⟨b,.tail _ hb⟩
   ·exact jhr h hg hm
section
variable{H:Hp}{ls:List (Nat×List Val)}{g:Int}{M:List Int}
theorem Inv.apart(I:Inv H ls):H.th.Pairwise fun a b=>a.addr≠b.addr:=by
 refine Pairwise.imp_of_mem (fun ha hb h=>?_) I.lay.dj
 have:=I.d.sz _ ha
 exact jtS h this
theorem jgz(I:Inv H ls){t:Th}(ht:t∈H.th):((jag H g M).lookup t.addr).isSome=true<->t.gen<=g/\t.addr∈M:=by
 constructor
 ·intro h
  obtain⟨b,hb⟩:=Option.isSome_iff_exists.mp h
  refine jkV (jc8 (jfp hb)) fun u hu h1 h2 e=>?_
  have:=I.d.addr ht hu e
  subst this
  exact⟨h1,h2⟩
 ·rintro⟨h1,h2⟩
  obtain⟨b,hb⟩:=jhr (M:=M) (e:=jaI g H.th 16) ht h1 h2
  have:=jgy (jdQ I.apart) _ hb
  unfold jag
  rw[this];rfl
theorem jdc(I:Inv H ls){t:Th}(ht:t∈H.th):jbd (jag H g M) g t=true<->t.gen>g\/t.addr∈M:=by
 unfold jbd
 rw[or_eq_true,jgz I ht,decide_eq_true_iff]
 constructor
 ·rintro(h | h)
  ·exact .inl h
  ·exact .inr h.2
 ·intro h
  by_cases hg:t.gen>g
  ·exact .inl hg
  ·exact .inr ⟨by exact o52 hg,h.resolve_left hg⟩
theorem jm7(I:Inv H ls){t:Th}(ht:t∈H.th)(h:t.gen>g):fwd (jag H g M) t.addr=t.addr:=by
 unfold fwd
 cases e:(jag H g M).lookup t.addr with
 | none=>rfl
 | some b=>
  have:=(jgz (g:=g) (M:=M) I ht).mp (by rw[e];rfl)
  exact jxC h this
theorem jk6(I:Inv H ls):fwd (jag H g M) 0=0:=by
 unfold fwd
 cases e:(jag H g M).lookup 0 with
 | none=>rfl
 | some b=>
  refine jkV (jc8 (jfp e)) fun u hu _ _ e=>?_
  have:=(I.in_ u hu).2.2
  simp at e;exact jxD e this
noncomputable def jdB(H:Hp)(g:Int)(M:List Int)(t:Th):Th:=jah (jag H g M) g (jew H (jag H g M) t)
theorem jaK(I:Inv H ls){t:Th}(ht:t∈H.th):(jdB H g M t).addr=fwd (jag H g M) t.addr/\(jdB H g M t).size=t.size/\(jdB H g M t).slots=t.slots.map (Val.mv H (jag H g M))/\(jdB H g M t).gen=(if t.gen>g then t.gen else if t.gen<2 then t.gen+1 else t.gen)/\(jdB H g M t).loc=t.loc:=by
 unfold jdB jah jew
 split
 ·rename_i h
  have h:t.gen>g:=h
  exact⟨(jm7 I ht h).symm,rfl,rfl,rfl,rfl⟩
 ·rename_i h
  have h: ¬t.gen>g:=h
  exact⟨rfl,rfl,rfl,rfl,rfl⟩
theorem jbZ:jav H (jag H g M) g=(jbb H (jag H g M) g).map (jdB H g M):=rfl
theorem jfe(I:Inv H ls): ∀{B:List Th} {e:Int},(∀ b∈B,b∈H.th/\b.gen<=g)->(∀ b∈B,b.size=szF b.slots.length/\b.slots.length<=3)->(∀ p∈jby M g B e,(jag H g M).lookup p.1=some p.2)->Con e ((B.filter (jbd (jag H g M) g)).map (jdB H g M))
 | [],_,_,_,_=>trivial
 | t::r,e,h1,h2,h3=>by
  have ht:=h1 t (by simp)
  have hf:=jaK (g:=g) (M:=M) I ht.1
  simp only[jby]at h3
  rw[filter_cons]
  by_cases hm:t.addr∈M
  ·rw[if_pos ((jdc I ht.1).mpr (.inr hm))]
   rw[if_pos ⟨ht.2,hm⟩]at h3
   have e1:=h3 _ (by simp:(t.addr,e)∈_)
   have e2:fwd (jag H g M) t.addr=e:=by unfold fwd;rw[e1];rfl
   rw[map_cons]
   have h2t:=h2 t (by simp)
   refine⟨by rw[hf.1,e2],by rw[hf.2.1,hf.2.2.1,length_map];exact h2t.1,by rw[hf.2.2.1,length_map];exact h2t.2,?_⟩
   rw[hf.2.1]
   exact jfe I (fun b hb=>h1 b (.tail _ hb)) (fun b hb=>h2 b (.tail _ hb)) fun p hp=>h3 p (.tail _ hp)
  ·rw[if_neg fun h=>?_]
   ·rw[if_neg fun h=>hm h.2]at h3
    exact jfe I (fun b hb=>h1 b (.tail _ hb)) (fun b hb=>h2 b (.tail _ hb)) h3
   ·rcases (jdc I ht.1).mp h with h | h
    ·have:=ht.2;exact jxE ht h
    ·exact hm h
theorem jmY(I:Inv H ls): ∀{A:List Th} {e:Int},Con e A->(∀ a∈A,a∈H.th/\a.gen>g)->Con e ((A.filter (jbd (jag H g M) g)).map (jdB H g M))/\jca e ((A.filter (jbd (jag H g M) g)).map (jdB H g M))=jca e A
 | [],_,_,_=>⟨trivial,rfl⟩
 | t::r,e,h,h1=>by
  have ht:=h1 t (by simp)
  have hf:=jaK (g:=g) (M:=M) I ht.1
  refine jjF h fun q1 q4 q5 q6=>?_;clear h
  obtain⟨i1,i2⟩:=jmY I q6 fun a ha=>h1 a (.tail _ ha)
  rw[filter_cons,if_pos ((jdc I ht.1).mpr (.inl ht.2)),map_cons]
  refine⟨⟨by rw[hf.1,jm7 I ht.1 ht.2,q1],by rw[hf.2.1,hf.2.2.1,length_map];exact q4,by rw[hf.2.2.1,length_map];exact q5,?_⟩,?_⟩
  ·rw[hf.2.1];exact i1
  ·simp only[jca]
   rw[hf.2.1];exact i2
theorem jdN(I:Inv H ls):Lay 16 2 (jav H (jag H g M) g):=by
 refine jaT (jjl (g:=g) I.lay.gens) fun A B e hA hB=>?_
 have con:=I.lay.con
 rw[e,jd0]at con
 have mem: ∀t,t∈A\/t∈B->t∈H.th:=fun t h=>by rw[e];exact mem_append.mpr h
 have ho:=jmY (g:=g) (M:=M) I con.1 fun a ha=>⟨mem a (.inl ha),hA a ha⟩
 refine Con.lay ?_ ?_ fun t ht=>?_
 ·rw[jbZ]
  unfold jbb
  rw[e,filter_append,map_append,jd0]
  refine⟨ho.1,?_⟩
  rw[ho.2]
  refine jfe I (fun b hb=>⟨mem b (.inr hb),hB b hb⟩) (fun b hb=>?_) fun p hp=>?_
  ·have:=I.lay.mem b (mem b (.inr hb))
   exact⟨this.2.2.2.1,this.2.2.2.2.1⟩
  ·have hk:=jdQ (M:=M) (g:=g) (e:=jaI g H.th 16) I.apart
   have em:jag H g M=jby M g B (jca 16 A):=by
    unfold jag
    conv=>lhs;rw[e]
    rw[jjg hA,jgq,jgr con.1 hA,jer hB]
   unfold jag at em
   unfold jag
   rw[em]at hk ⊢
   exact jgy hk p hp
 ·rw[jbZ,pairwise_map]
  have hp:(jbb H (jag H g M) g).Pairwise fun a b=>b.gen<=a.gen:=I.lay.gens.sublist List.filter_sublist
  refine Pairwise.imp_of_mem (fun ha hb h=>?_) hp
  have ha':=(mem_filter.mp ha).1
  have hb':=(mem_filter.mp hb).1
  rw[(jaK I ha').2.2.2.1,(jaK I hb').2.2.2.1]
  split<;>split
  all_goals (try split)
  all_goals (try split)
  all_goals walk_at "o"
 ·rw[jbZ]at ht
  refine jaj (mem_map.mp ht) fun u hu zq4=>?_;subst zq4
  have hu':=(mem_filter.mp hu).1
  have:=I.lay.mem u hu'
  rw[(jaK I hu').2.2.2.1]
  split
  ·exact jxF this
  ·split<;>walk_at "o"
end
theorem jnU(a b:Th)(r:List Th):jhG (a::b::r)=jhG (b::r):=by
 unfold jhG;rw[List.getLast?_cons_cons]
theorem jlx: ∀{T:List Th} {e:Int},Con e T->T≠ []->jhG T=jca e T
 | [],_,_,h=>absurd rfl h
 | [a],e,h,_=>by
  show a.addr+a.size=e+a.size
  rw[h.1]
 | a::b::r,e,h,_=>by
  rw[jnU]
  exact jlx h.2.2.2 (by simp)
theorem jlR{H:Hp}{H0:Hp}(h:H.cards=jaB H0 (jaE H))(hb:H.bits=H0.bits):jfv H= []:=by
 unfold jfv
 rw[filter_eq_nil_iff]
 intro p hp
 have:jbq H (p.1.addr+2+p.2)∈H.cards:=by
  rw[h]
  unfold jaB
  refine jdm H0 _ _ _ (.inr ⟨p,hp,?_⟩)
  unfold jbq;rw[hb]
 simpa using this
section
variable{H:Hp}{ls:List (Nat×List Val)}{g:Int}{M M0:List Int}
theorem jci(I:Inv H ls)(N:Nd H){t:Th}{w:Int}(ht:t∈H.th)(hw:jcb t w)(h0:w≠0)(h:hand H g M w):jbd (jag H g M) g t=true:=by
 rcases h with h | ⟨u,hu,hf,h⟩
 ·exact absurd h h0
 ·have e:=jbV I.at_ I.d ht hw
  rw[e]at hf
  have:=N.loc1 t ht u hu (Option.some.inj hf)
  subst this
  exact(jdc I ht).mpr h
theorem jbw(I:Inv H ls){t:Th}(ht:t∈H.th):jcb t t.addr/\t.addr≠0:=by
 have h1:=I.d.sz t ht
 have h2:=(I.in_ t ht).2.2
 unfold jcb
 exact jxG h1 h2
theorem jhx{t:Th}(ht:t∈H.th)(h:jbd (jag H g M) g t=true):jdB H g M t∈jav H (jag H g M) g:=by
 rw[jbZ]
 exact mem_map_of_mem (mem_filter.mpr ⟨ht,h⟩)
theorem jre(I:Inv H ls)(N:Nd H){H':Hp}(hth:H'.th=jav H (jag H g M) g){a:Int}(hr:jcJ H a)(h:hand H g M a):jcJ H' (fwd (jag H g M) a):=by
 rcases hr with rfl | ⟨t,ht,rfl⟩
 ·left;exact jk6 I
 ·right
  have sf:=jbw I ht
  have st:=jci I N ht sf.1 sf.2 h
  exact⟨_,by rw[hth];exact jhx ht st,(jaK I ht).1⟩
theorem jjJ(I:Inv H ls){H':Hp}(hth:H'.th=jav H (jag H g M) g){t:Th}(ht:t∈H.th)(st:jbd (jag H g M) g t=true): ∃u∈H'.th,u.addr=fwd (jag H g M) t.addr:=
 ⟨_,by rw[hth];exact jhx ht st,(jaK I ht).1⟩
theorem jda(I:Inv H ls)(N:Nd H){H':Hp}(hth:H'.th=jav H (jag H g M) g){v:Val}(hv:jfX H v)(h: ∀w∈jaf v,hand H g M w):jfX H' (v.mv H (jag H g M)):=by
 have z: ∀a,jcJ H a->(a≠0->hand H g M a)->jcJ H' (fwd (jag H g M) a):=fun a h1 h2=>by
  by_cases h0:a=0
  ·rw[h0];left;exact jk6 I
  ·exact jre I N hth h1 (h2 h0)
 cases v with
 | i4 n=>trivial
 | lc=>exact hv.elim
 | pl w z=>exact hv.elim
 | ref a=>exact z a hv fun h0=>h a (by simp[jaf])
 | one a=>exact z a hv fun h0=>h a (by simp[jaf,jal,h0])
 | two a b=>exact⟨z a hv.1 fun h0=>h a (by simp[jaf,jal,h0]),z b hv.2 fun h0=>h b (by simp[jaf,jal,h0])⟩
theorem joD(I:Inv H ls)(N:Nd H){H':Hp}(hth:H'.th=jav H (jag H g M) g){v:Val}(hv:jfG H v)(h: ∀w∈jaf v,hand H g M w):jfG H' (v.mv H (jag H g M)):=by
 cases v with
 | pl w z=>
  refine jaj hv fun t ht hi=>?_;clear hv
  have h16:=(I.in_ t ht).2.2
  have st:=jci I N ht hi (by unfold jcb at hi;exact jxH hi h16) (h w (by simp[jaf]))
  have hf:=jaK (g:=g) (M:=M) I ht
  refine⟨jdB H g M t,by rw[hth];exact jhx ht st,?_⟩
  have e:=jrr (mv:=jag H g M) N.loc1 ht (jbV I.at_ I.d ht hi)
  unfold jcb at hi ⊢
  rw[e,hf.1,hf.2.1]
  exact jxI hi
 | ref a=>exact jda (v:=.ref a) I N hth hv h
 | i4 a=>exact jda (v:=.i4 a) I N hth hv h
 | one a=>exact jda (v:=.one a) I N hth hv h
 | two a b=>exact jda (v:=.two a b) I N hth hv h
 | lc=>exact jda (v:=.lc) I N hth hv h
theorem jnf(I:Inv H ls)(N:Nd H)(K:Marks H g ls M0 M){t:Th}(ht:t∈H.th)(st:jbd (jag H g M) g t=true){v:Val}(hv:v∈t.slots): ∀w∈jaf v,hand H g M w:=fun w hw=>by
 by_cases hg:t.gen>g
 ·have hsl:=I.slots t ht v hv
  rcases jcn hsl w hw with h0 | ⟨u,hu,rfl⟩
  ·exact .inl h0
  ·have su:=jbw I hu
   by_cases hug:u.gen>g
   ·exact .inr ⟨u,hu,jbV I.at_ I.d hu su.1,.inl hug⟩
   ·obtain⟨k,hk⟩:=mem_iff_getElem?.mp hv
    have hkl:=(List.getElem?_eq_some_iff.mp hk).1
    have hrefs:u.addr∈jal v:=by
     cases v with
     | ref a=>
      simp[jaf]at hw
      have ha:a≠0:=by rw[<- hw];exact su.2
      simp[jal,ha,hw]
     | i4 n=>exact hw
     | lc=>cases hw
     | pl w z=>exact hsl.elim
     | one a=>exact hw
     | two a b=>exact hw
    have hy:jbA H t.gen v=true:=by
     unfold jbA
     rw[any_eq_true]
     refine⟨u.addr,hrefs,?_⟩
     unfold yng
     rw[jfU I.d hu]
     simp;exact jxJ hg hug
    have tg:=I.lay.mem t ht
    have ug:=I.lay.mem u hu
    have hys:(t,k)∈jaE H:=by
     unfold jaE
     refine mem_flatMap.mpr ⟨t,ht,?_⟩
     unfold ySl
     rw[if_pos (jxK hg hug tg ug)]
     refine mem_map.mpr ⟨k,mem_filter.mpr ⟨by simpa using hkl,?_⟩,rfl⟩
     unfold yF;rw[hk];exact hy
    have hc:cF H t k=true:=by
     have:=I.cards
     unfold jfv at this
     rw[filter_eq_nil_iff]at this
     have:=this _ hys
     unfold cF
     simpa using this
    have hg2:g<2:=by exact jxL hg tg
    exact K.old hg2 (t,k) (oSlots_mem.mpr ⟨ht,hkl,hg,hc⟩) v hk _ hw
 ·have hm:=((jdc I ht).mp st).resolve_left hg
  rcases K.cl t ht (o52 hg) hm with h | h
  ·cases h
  ·exact h v hv w hw
theorem jol(I:Inv H ls)(N:Nd H)(K:Marks H g ls M0 M){H':Hp}(h1:H'.th=jav H (jag H g M) g)(h2:H'.at_=(jav H (jag H g M) g).map jay)(h3:H'.top=jhG (jav H (jag H g M) g))(h4:H'.fin=(H.fin.filter (fun a=> !jbr H M0 g a)).map (fwd (jag H g M)))(h5:H'.rdy=(H.rdy++H.fin.filter (jbr H M0 g)).map (fwd (jag H g M)))(h6:H'.bits=H.bits)(h7:jfv H'= []):Inv H' (jbm H (jag H g M) ls):=by
 have lay:=jdN (g:=g) (M:=M) I
 refine⟨by rw[h1];exact lay,?_,?_,fun t ht v hv=>?_,fun p hp v hv=>?_,fun a ha=>?_,fun a ha=>?_,h7,⟨by rw[h6];exact I.bits.lo,by rw[h6];exact I.bits.hi⟩,?_⟩
 ·rw[h1,h3]
  by_cases e:jav H (jag H g M) g= []
  ·rw[e];rfl
  ·exact jlx lay.con e
 ·unfold jhP
  rw[h2,h1];rfl
 ·rw[h1,jbZ]at ht
  refine jaj (mem_map.mp ht) fun u hu zq5=>?_;subst zq5
  obtain⟨hu,st⟩:=mem_filter.mp hu
  rw[(jaK I hu).2.2.1]at hv
  refine jaj (mem_map.mp hv) fun w hw zq6=>?_;subst zq6
  exact jda I N h1 (I.slots u hu w hw) (jnf I N K hu st hw)
 ·unfold jbm at hp
  refine jaj (mem_map.mp hp) fun q hq zq7=>?_;subst zq7
  refine jaj (mem_map.mp hv) fun w hw zq8=>?_;subst zq8
  exact joD I N h1 (I.roots q hq w hw) (K.roots q (mem_append_left _ hq) w hw)
 ·rw[h4]at ha
  refine jaj (mem_map.mp ha) fun b hb zq9=>?_;subst zq9
  obtain⟨hb,hd⟩:=mem_filter.mp hb
  refine jaj (I.fin b hb) fun t ht zq0=>?_;subst zq0
  refine jjJ I h1 ht ((jdc I ht).mpr ?_)
  unfold jbr at hd
  rw[jfU I.d ht]at hd
  simp only[Bool.not_eq_true',Bool.and_eq_false_iff,decide_eq_false_iff_not,Bool.not_eq_false']at hd
  rcases hd with hd | hd
  ·left;exact jxM hd
  ·right
   exact K.sub _ (by simpa using hd)
 ·rw[h5]at ha
  refine jaj (mem_map.mp ha) fun b hb zq1=>?_;subst zq1
  rcases mem_append.mp hb with hb | hb
  ·refine jaj (I.rdy b hb) fun t ht zq2=>?_;subst zq2
   have sf:=jbw I ht
   refine jjJ I h1 ht (jci I N ht sf.1 sf.2 ?_)
   exact K.roots (jmy H) (by simp) (.ref t.addr) (mem_map_of_mem hb) _ (by simp[jaf])
  ·have hd:=K.dead b hb
   refine jaj (I.fin b (mem_filter.mp hb).1) fun t ht zq3=>?_;subst zq3
   have sf:=jbw I ht
   exact jjJ I h1 ht (jci I N ht sf.1 sf.2 hd)
 ·rw[h1]
  unfold jav jbb
  rw[length_map]
  exact lt_of_le_of_lt (length_filter_le _ _) I.len
theorem jlT(I:Inv H ls)(N:Nd H)(F:First H ls)(K:Marks H g ls M0 M){H':Hp}(h1:H'.th=jav H (jag H g M) g):First H' (jbm H (jag H g M) ls):=by
 obtain⟨⟨t,r,e,h2⟩,l0,l1,a,b,c,d,els⟩:=F
 have ht:t∈H.th:=by rw[e];simp
 have h16:t.addr=16:=by have:=I.lay;rw[e]at this;exact this.1
 have sf:=jbw I ht
 have st:jbd (jag H g M) g t=true:=by
  refine jci I N ht sf.1 sf.2 ?_
  rw[h16]
  exact K.roots (l1,[c,d,.ref 16]) (by rw[els];simp) (.ref 16) (by simp) _ (by simp[jaf])
 have hf:=jaK (g:=g) (M:=M) I ht
 have hm:jav H (jag H g M) g=jdB H g M t::(r.filter (jbd (jag H g M) g)).map (jdB H g M):=by
  rw[jbZ]
  unfold jbb
  rw[e,filter_cons,if_pos st,map_cons]
 have hl:=jdN (g:=g) (M:=M) I
 rw[hm]at hl
 have ha:fwd (jag H g M) 16=16:=by rw[<- h16,<-hf.1,h16];exact hl.1
 refine⟨⟨_,_,by rw[h1];exact hm,by rw[hf.2.2.1,length_map];exact h2⟩,l0,l1,a.mv H (jag H g M),b.mv H (jag H g M),c.mv H (jag H g M),d.mv H (jag H g M),?_⟩
 rw[els]
 unfold jbm
 simp only[map_cons,map_nil]
 show _=_
 have:Val.mv H (jag H g M) (.ref 16)= .ref 16:=by show Val.ref (fwd _ 16)=_;rw[ha]
 rw[this]
end
structure Cnt (H:Hp) (a f c:Nat):Prop where
 th:H.th.length<=a
 fr:H.fin.length+H.rdy.length<=f
 cl:H.cards.length<=c
structure Keep (Y:AHeap) (H:Hp) (lr:Nat) (ls:List (Nat×List Val)):Prop where
 e: ∃ns:List Int,ns.length<=8/\Y.get 2=some (.list (ns.map .int))
 h:2∉H.locs
 r:2≠lr
 l:2∉ls.map (·.1)
theorem Keep.lt{Y:AHeap}{H:Hp}{lr:Nat}{ls:List (Nat×List Val)}(K:Keep Y H lr ls):2<Y.sz:=by
 refine jaj K.e fun ns _ h=>?_
 exact jac h
theorem Keep.step{Y Y':AHeap}{H H':Hp}{lr:Nat}{ls ls':List (Nat×List Val)}{X:List Nat}(K:Keep Y H lr ls)(c:Chg X Y Y')(hX:2∉X)(h1: ∀x∈H'.locs,x∈H.locs\/Y.sz<=x)(h2:ls'.map (·.1)=ls.map (·.1)):Keep Y' H' lr ls':=by
 have hlt:=K.lt
 refine jaj K.e fun ns hz hg=>?_
 refine⟨⟨ns,hz,c.get hg hX⟩,fun h=>?_,K.r,by rw[h2];exact K.l⟩
 rcases h1 2 h with h | h
 ·exact K.h h
 ·exact jxN hlt h
theorem jnx{H:Hp}{lf:Nat}{M:List Int}{g:Int}: ∀x,x∈(jcH H lf M g).locs->x∈H.locs\/x=lf:=fun x hx=>by
 rw[jaq]at hx
 rcases mem_append.mp hx with hx | hx
 ·have hx:x∈ [H.h,H.tl,H.al,H.cl,lf,H.rl]:=hx
  simp only[mem_cons,not_mem_nil,or_false]at hx
  rcases hx with h | h | h | h | h | h
  ·left;walk_at "l"
  ·left;walk_at "l"
  ·left;walk_at "l"
  ·left;walk_at "l"
  ·exact .inr h
  ·left;walk_at "l"
 ·left;rw[jaq];exact mem_append_right _ hx
theorem jpA{H:Hp}{l:Nat}{c:List Int}{a b:Int}: ∀x,x∈({H with cl:=l,cards:=c,limit:=a,fresh:=b}:Hp).locs->x∈H.locs\/x=l:=fun x hx=>by
 rw[jaq]at hx
 rcases mem_append.mp hx with hx | hx
 ·have hx:x∈ [H.h,H.tl,H.al,l,H.fl,H.rl]:=hx
  simp only[mem_cons,not_mem_nil,or_false]at hx
  rcases hx with h | h | h | h | h | h
  ·left;walk_at "l"
  ·left;walk_at "l"
  ·left;walk_at "l"
  ·exact .inr h
  ·left;walk_at "l"
  ·left;walk_at "l"
 ·left;rw[jaq];exact mem_append_right _ hx
structure Stt (Y:AHeap) (h lr a f c:Nat) (H:Hp) (ls:List (Nat×List Val)):Prop where
 hh:H.h=h
 V:Hv Y H
 I:Inv H ls
 S:Sep H lr ls
 L:Lv Y lr ls
 F:First H ls
 C:Cnt H a f c
 K:Keep Y H lr ls
theorem jes{ah:Type}(p:ah->Bool): ∀l:List ah,(l.filter fun a=> !p a).length+(l.filter p).length=l.length
 | []=>rfl
 | x::r=>by
  have ih:=jes p r
  rw[filter_cons,filter_cons]
  cases p x<;>simp<;>walk_at "o"
noncomputable def jpb(ls:List (Nat×List Val))(x:Int):Prop:=∃p∈ls,Val.ref x∈p.2
theorem jdX{m:Nat}{H:Hp}{g:Int}{h lr a f c:Nat}{ls:List (Nat×List Val)}{Y:AHeap}{Q:PV->AHeap->Prop}(T:Stt Y h lr a f c H ls)(hf:f<1000)(hc:3*a<=c)
  (k: ∀H' ls' r Y',Stt Y' h lr a f c H' ls'->(∀ t∈H.th,jpb ls t.addr->∃u∈H'.th,u.loc=t.loc/\u.slots.length=t.slots.length/\jpb ls' u.addr)->Q (.int r) Y'):C (m+10) 45 [.ref h,.ref lr,.none,.int g] Y Q:=by
 obtain⟨rfl,V,I,S,L,F,C,KK⟩:=T
 refine jap rfl rfl ?_
 have N:=S.nd
 have lt:=V.lt
 have szl:=(by decide:(100200:Nat)<sizeLine)
 have hlen:=I.len
 have hfr:=C.fr
 refine joW F.ls fun l0 l1 va vb vc vd els=>?_
 have lsl:ls.length<100:=by rw[els];simp
 have lsv: ∀p∈ls,p.2.length<1000:=fun p hp=>by
  rw[els]at hp
  simp only[mem_cons,not_mem_nil,or_false]at hp
  rcases hp with rfl | rfl<;>simp
 refine rd V.h (rd V.tl (gI (by rw[length_map];exact o37 szl hlen) ?_))
 refine jhz (m:=m+3) V I S L lsl (jxO hf hfr) fun lm lf M0 M aC V1 K hM hlm hlf hne c1=>?_
 have lslt: ∀x∈ls.map (·.1),x<Y.sz:=fun x hx=>by
  refine jaj (mem_map.mp hx) fun p hp zq4=>?_;subst zq4
  exact jac (L.each p hp)
 have lrlt:=jac L.lr
 have S1:Sep (jcH H lf M0 g) lr ls:=S.pick (fun h=>by have:=lt _ h;exact o15 hlf this) (o11 hlf lrlt) fun h=>by have:=lslt _ h;exact o15 hlf this
 have L1:Lv aC lr ls:=by
  have n1: ∀x,x∈ [H.h,H.rl]->x∈H.locs:=fun x hx=>by
   simp only[mem_cons,not_mem_nil,or_false]at hx
   rcases hx with rfl | rfl<;>walk_at "l"
  refine⟨c1.get L.lr fun h=>S.r1 (n1 _ h),fun p hp=>c1.get (L.each p hp) fun h=>S.l1 _ (mem_map_of_mem hp) (n1 _ h)⟩
 refine jju (m:=m+7) (H:=jcH H lf M0 g) V1 hM I.apart fun lv au c2 hlv hmv=>?_
 have V2:=V1.ext c2
 have L2:=L1.ext c2
 have z1:=c1.1
 have z2:=c2.1
 have lv1:=V1.lt
 have hmd:(jav (jcH H lf M0 g) (jby M g (jcH H lf M0 g).th (jaI g (jcH H lf M0 g).th 16)) g).Pairwise fun a b=>a.addr≠b.addr:=by
  have ly:=jdN (g:=g) (M:=M) I
  refine Pairwise.imp_of_mem (fun ha hb h=>?_) ly.dj
  have:=ly.dj3.sz _ ha
  exact jtS h this
 refine jmn (m:=m) (H:=jcH H lf M0 g) V2 S1 L2 I.srt N.loc1 hmv (fun h=>by have:=lv1 _ h;exact o15 hlv this) (fun p hp v hv=>I.root_pl (I.roots p hp v hv)) (fun t ht v hv=>jqf (I.slots t ht v hv)) lsl lsv ?_ ?_ hmd fun tl al fl mo az V3 L3 S3 n3 c3=>?_
 ·show(H.rdy++H.fin.filter (jbr H M0 g)).length<1000
  have:=length_filter_le (jbr H M0 g) H.fin
  rw[length_append];exact jxP hf hfr this
 ·show(H.fin.filter _).length<1000
  have:=length_filter_le (fun a=> !jbr H M0 g a) H.fin
  exact jxQ hf hfr this
 ·have lay3:Lay 16 2 (jav H (jag H g M) g):=jdN I
  have llen:(jav H (jag H g M) g).length<=H.th.length:=by
   unfold jav jbb;rw[length_map];exact length_filter_le _ _
  have in3: ∀t∈jav H (jag H g M) g,In t.addr:=fun t ht=>by
   have h1:=lay3.mem t ht
   have h2:=lay3.endle
   unfold In;exact jxR hlen llen h1 h2
  generalize hH3:jfs (jcH H lf M0 g) (jby M g (jcH H lf M0 g).th (jaI g (jcH H lf M0 g).th 16)) g tl al fl mo=H3 at V3 S3 n3
  have e_h:H.h=H3.h:=by rw[<- hH3];rfl
  have e_th:H3.th=jav H (jag H g M) g:=by rw[<- hH3];rfl
  have e_at:H3.at_=(jav H (jag H g M) g).map jay:=by rw[<- hH3];rfl
  have e_top:H3.top=jhG (jav H (jag H g M) g):=by rw[<- hH3];rfl
  have e_fin:H3.fin=(H.fin.filter (fun a=> !jbr H M0 g a)).map (fwd (jag H g M)):=by rw[<- hH3];rfl
  have e_rdy:H3.rdy=(H.rdy++H.fin.filter (jbr H M0 g)).map (fwd (jag H g M)):=by rw[<- hH3];rfl
  have e_bits:H3.bits=H.bits:=by rw[<- hH3];rfl
  have L3:Lv az lr (jbm H (jag H g M) ls):=L3
  have S3:Sep H3 lr (jbm H (jag H g M) ls):=S3
  have hy:(jaE H3).length<=3*H3.th.length:=jbh fun t ht=>by
   rw[e_th]at ht
   exact le_trans (jkT _ t) (lay3.mem t ht).2.2.2.2.1
  have ato:jhP H3:=by unfold jhP;rw[e_at,e_th];rfl
  have bit3:Bits H3:=⟨by rw[e_bits];exact I.bits.lo,by rw[e_bits];exact I.bits.hi⟩
  rw[<- e_th]at llen
  rw[e_h]
  refine jhD (m:=m+5) V3 S3.nd ato bit3 (by rw[e_th];exact in3) (jxS hlen llen hy) fun cl ay hcl V4 c4=>?_
  have lt3:=V3.lt
  have S4:=S3.cl (l:=cl) (c:=jaB H3 (jaE H3)) (fun h=>by have:=lt3 _ h;exact o15 hcl this) (fun e=>by have:=jac L3.lr;exact jxT hcl e this) fun h=>by
   refine jaj (mem_map.mp h) fun p hp e=>?_
   have:=jac (L3.each p hp);exact jxU hcl e this
  have hp3:H3.h∈H3.locs:=by walk_at "l"
  have L4:Lv ay lr (jbm H (jag H g M) ls):=by
   refine⟨c4.get L3.lr fun h=>S3.r1 ?_,fun p hp=>c4.get (L3.each p hp) fun h=>S3.l1 _ (mem_map_of_mem hp) ?_⟩
   ·rw[mem_singleton.mp h];exact hp3
   ·rw[mem_singleton.mp h];exact hp3
  refine jeO (m:=m+7) (H:={H3 with cl:=cl,cards:=jaB H3 (jaE H3)}) V4 S4.nd fun lim aM V5 c5=>?_
  have L5:Lv aM lr (jbm H (jag H g M) ls):=by
   refine⟨c5.get L4.lr fun h=>S3.r1 ?_,fun p hp=>c5.get (L4.each p hp) fun h=>S3.l1 _ (mem_map_of_mem hp) ?_⟩
   ·rw[mem_singleton.mp h];exact hp3
   ·rw[mem_singleton.mp h];exact hp3
  have h5:=V5.h
  have t5:=V5.tl
  have l5:H3.th.length<1000:=by exact jxV hlen llen
  have co:=jlR (H:={H3 with cl:=cl,cards:=jaB H3 (jaE H3),limit:=lim,fresh:=0}) (H0:=H3) rfl rfl
  refine rd h5 (rd t5 (gI (by rw[length_map];exact ja4 l5) (k {H3 with cl:=cl,cards:=jaB H3 (jaE H3),limit:=lim,fresh:=0} (jbm H (jag H g M) ls) _ aM ⟨e_h.symm,V5,jol I N K e_th e_at e_top e_fin e_rdy e_bits co,⟨⟨S4.nd.six,S4.nd.th,S4.nd.ap⟩,S4.r1,S4.r2,S4.l1,S4.l2⟩,L5,jlT I N F K e_th,?_,?_⟩ fun t ht ⟨p,hp,hv⟩=>?_)))
  ·refine⟨le_trans llen C.th,?_,?_⟩
   ·show H3.fin.length+H3.rdy.length<=f
    have:=jes (jbr H M0 g) H.fin
    rw[e_fin,e_rdy]
    simp only[length_map,length_append]
    exact jxW hfr this
   ·show(jaB H3 (jaE H3)).length<=c
    have h1:=jce H3 (jaE H3) []
    have h2:=C.th
    unfold jaB
    simp only[length_nil]at h1
    exact jxX hc llen hy h1 h2
  ·have k1:=KK.step (H':=jcH H lf M0 g) (ls':=ls) c1 (fun h=>KK.h (by
    simp only[mem_cons,not_mem_nil,or_false]at h
    rcases h with h | h
    ·rw[h];walk_at "l"
    ·rw[h];walk_at "l")) (fun x hx=>(jnx x hx).imp id (jtT hlf)) rfl
   have k2:=k1.step (H':=jcH H lf M0 g) (ls':=ls) c2 (by simp) (fun x hx=>.inl hx) rfl
   have k3:=k2.step (H':=H3) (ls':=jbm H (jag H g M) ls) c3 (fun h=>by
    rcases mem_append.mp h with h | h
    ·exact k1.h h
    ·exact k1.l h) n3 (by unfold jbm;rw[map_map];rfl)
   have nh3:2∉ [H3.h]:=fun h=>k3.h (by rw[mem_singleton.mp h];exact hp3)
   have k4:=k3.step (H':=H3) (ls':=jbm H (jag H g M) ls) c4 nh3 (fun x hx=>.inl hx) rfl
   exact k3.step (H':={H3 with cl:=cl,cards:=jaB H3 (jaE H3),limit:=lim,fresh:=0}) (ls':=jbm H (jag H g M) ls) (c4.to c5) nh3 (fun x hx=>(jpA x hx).imp id (jtT hcl)) rfl
  ·have sf:=jbw I ht
   have st:=jci I N ht sf.1 sf.2 (K.roots p (mem_append_left _ hp) _ hv _ (by simp[jaf]))
   have hf:=jaK (g:=g) (M:=M) I ht
   refine⟨jdB H g M t,by show _∈H3.th;rw[e_th];exact jhx ht st,hf.2.2.2.2,by rw[hf.2.2.1,length_map],(p.1,p.2.map (Val.mv H (jag H g M))),mem_map_of_mem (f:=fun p:Nat×List Val=>(p.1,p.2.map (Val.mv H (jag H g M)))) hp,?_⟩
   rw[hf.1]
   exact mem_map_of_mem (f:=Val.mv H (jag H g M)) hv
end
noncomputable section
theorem jfQ{m:Nat}{v:PV}{Y:AHeap}{Q:PV->AHeap->Prop}(k:Q (jnA v) Y):C (m+1) 52 [v] Y Q:=jap rfl rfl k
theorem jdY{m:Nat}{v w:PV}{Y:AHeap}{Q:PV->AHeap->Prop}(k:Q (.tup [.int 5,.int 31,.tup [v,jnA w]]) Y):C (m+2) 53 [v,w] Y Q:=jap rfl rfl (jfQ k)
theorem ja6{m:Nat}{H:Hp}{z:Int}{Y:AHeap}{Q:PV->AHeap->Prop}(V:Hv Y H)(hne:H.th≠ [])(k: ∀(i:Nat) (t:Th),H.th[i]? =some t->(i:Int)=z%H.th.length->Q (.ref t.loc) Y):C (m+1) 54 [.ref H.h,.int z] Y Q:=by
 have hpos:0<H.th.length:=length_pos_iff.mpr hne
 have h1:0<=z%H.th.length:=emod_nonneg _ (jtU hpos)
 have h2:z%H.th.length<H.th.length:=emod_lt_of_pos _ (o16 hpos)
 obtain⟨i,hi⟩: ∃i:Nat,(i:Int)=z%H.th.length:=⟨(z%H.th.length).toNat,by exact jxY h1⟩
 obtain⟨t,ht⟩: ∃t,H.th[i]? =some t:=⟨_,getElem?_eq_getElem (jxZ h2 hi)⟩
 have e:z%((H.th.map fun t=>PV.ref t.loc).length:Int)=(i:Int):=by rw[length_map];exact hi.symm
 exact jap rfl rfl (rd V.h (rd V.h (rd V.tl (gI (by rw[length_map];exact ja4 (o3 V.small.1)) (gI (by rw[length_map];exact o16 hpos) (rd V.tl (gI (nn e) (oI (it ht e) (k i t ht hi)))))))))
theorem jBd(z:Int):z%6=0\/z%6=1\/z%6=2\/z%6=3\/z%6=4\/z%6=5:=by exact jx0
theorem jBc(z:Int):z%4=0\/z%4=1\/z%4=2\/z%4=3:=by exact jx1
theorem jBb(z:Int):z%3=0\/z%3=1\/z%3=2:=by exact jx2
theorem jfR{m:Nat}{H:Hp}{z:Int}{Y:AHeap}{Q:PV->AHeap->Prop}(V:Hv Y H)(hne:H.th≠ [])(k: ∀v:Val,jfX H v->Q v.pv Y):C (m+3) 55 [.ref H.h,.int z] Y Q:=by
 refine jap rfl rfl (ja6 (m:=m+1) V hne fun i1 t1 ht1 _=>?_)
 have m1:=mem_of_getElem? ht1
 refine rd (V.th t1 m1).1 (ja6 (m:=m+1) V hne fun i2 t2 ht2 _=>?_)
 have m2:=mem_of_getElem? ht2
 have r1:jcJ H t1.addr:=.inr ⟨t1,m1,rfl⟩
 have r2:jcJ H t2.addr:=.inr ⟨t2,m2,rfl⟩
 refine rd (V.th t2 m2).1 (jfQ (m:=m+1) (jdY (m:=m) (gI (jx3 (a0:=z)) (gL3 (jx4 (a0:=z)) ?_))))
 rcases jBd z with h | h | h | h | h | h<;>rw[h]
 ·exact k (.ref 0) (.inl rfl)
 ·exact k (.ref t1.addr) r1
 ·exact k (.one t1.addr) r1
 ·exact k (.two t2.addr t1.addr) ⟨r2,r1⟩
 ·exact k (.i4 (16+z%40)) trivial
 ·exact k (.ref t1.addr) r1
structure noneW (H:Hp) (w:Int):Prop where
 in_:In w
 nz:w≠0
 no: ∀t∈H.th,t.addr≠w
theorem Inv.tophi{H:Hp}{ls:List (Nat×List Val)}(I:Inv H ls):16<=H.top/\H.top<=600:=by
 have h1:=I.lay.endle
 have h2:=I.len
 rw[I.top];exact jx5 h1 h2
theorem jbF{m:Nat}{H:Hp}{ls:List (Nat×List Val)}{z:Int}{Y:AHeap}{Q:PV->AHeap->Prop}(V:Hv Y H)(I:Inv H ls)(hne:H.th≠ [])(k: ∀w,noneW H w->Q (.int w) Y):C (m+2) 61 [.ref H.h,.int z] Y Q:=by
 refine jap rfl rfl (ja6 (m:=m) V hne fun i t ht _=>?_)
 have mt:=mem_of_getElem? ht
 have i1:=I.in_ t mt
 have i2:=I.d.sz t mt
 have tp:=I.tophi
 have tt:=I.top
 have inn:=I.in_
 have nx: ∀w,jcb t w->w≠t.addr->noneW H w:=fun w h1 h2=>by
  unfold jcb at h1
  refine⟨by unfold In;exact jx6 i1 h1 h2,by exact jx7 i1 h1 h2,fun u hu e=>?_⟩
  have su:=jbw I hu
  have:=I.d.uniq mt hu (w:=w) h1 (by rw[<- e];exact su.1)
  rw[this]at h2;exact h2 e.symm
 refine rd V.h (rd (V.th t mt).1 (rd (V.th t mt).1 (gI (jsP (a0:=z)) (gL3 (jx8 (a0:=z)) ?_))))
 rcases jBc z with h | h | h | h<;>rw[h]
 ·refine k _ ⟨by unfold In;exact jx9 tp,by exact jya tp,fun u hu e=>?_⟩
  have h1:=I.lay.mem u hu
  exact jyb tt e h1
 ·refine k _ ⟨by unfold In;exact jtV,by exact jyc,fun u hu e=>?_⟩
  have h1:=(I.in_ u hu).2.2
  exact jyd e h1
 ·exact k _ (nx _ (by unfold jcb;exact jye i2) (jtW))
 ·exact k _ (nx _ (by unfold jcb;exact jyf i2) (jyg))
theorem Lv.set{Y:AHeap}{lr:Nat}{ls:List (Nat×List Val)}(L:Lv Y lr ls)(r2:lr∉ls.map (·.1))(l2:(ls.map (·.1)).Nodup){i:Nat}{p:Nat×List Val}(hp:ls[i]? =some p)(vs:List Val):Lv (Y.set p.1 (.list (vs.map Val.pv))) lr (ls.set i (p.1,vs)):=by
 have hm:=mem_of_getElem? hp
 have hil:=(List.getElem?_eq_some_iff.mp hp).1
 have hne:p.1≠lr:=fun e=>r2 (e▸mem_map_of_mem hm)
 have hmap:(ls.set i (p.1,vs)).map (fun p=>PV.ref p.1)=ls.map fun p=>PV.ref p.1:=by
  rw[map_set]
  exact jbi (by rw[getElem?_map,hp];rfl)
 refine⟨by rw[jaa hne,hmap];exact L.lr,fun q hq=>?_⟩
 obtain⟨j,hj⟩:=mem_iff_getElem?.mp hq
 rw[getElem?_set]at hj
 by_cases h:i=j
 ·rw[if_pos h,if_pos hil]at hj
  cases hj
  exact jad (jac (L.each p hm))
 ·rw[if_neg h]at hj
  have hjl:=(List.getElem?_eq_some_iff.mp hj).1
  have:p.1≠q.1:=fun e=>by
   have h1:(ls.map (·.1))[i]? =some p.1:=by rw[getElem?_map,hp];rfl
   have h2:(ls.map (·.1))[j]? =some q.1:=by rw[getElem?_map,hj];rfl
   rw[e,<-h2]at h1
   exact h ((List.getElem?_inj (by simpa using hil) l2).mp h1)
  rw[jaa this]
  exact L.each q (mem_of_getElem? hj)
theorem jaQ{m:Nat}{lr:Nat}{ls:List (Nat×List Val)}{c:Int}{i j:Nat}{p:Nat×List Val}{w v:Val}{Y:AHeap}{Q:PV->AHeap->Prop}(L:Lv Y lr ls)(hi:c/2=i)(hj:c%2=j)(hp:ls[i]? =some p)(hw:p.2[j]? =some w)(k:Q w.pv (Y.set p.1 (.list ((p.2.set j v).map Val.pv)))):C (m+1) 56 [.ref lr,.int c,v.pv] Y Q:=by
 have hjl:=(List.getElem?_eq_some_iff.mp hw).1
 have e:=L.each p (mem_of_getElem? hp)
 rw[map_set]at k
 have ej:(c%2).toNat=j:=by rw[hj,Int.toNat_natCast]
 rw[<- ej]at k
 exact jap rfl rfl (rd L.lr (gI (nn hi) (oI (it hp hi) (rd e (gI (nn hj) (oI (it hw hj) (rd L.lr (gI (nn hi) (oI (it hp hi) (rd e (gI (nn hj) (gI (by rw[hj];exact ilt hjl (length_map _)) k))))))))))))
theorem Inv.reroot{H:Hp}{ls ls':List (Nat×List Val)}(I:Inv H ls)(h: ∀p∈ls',∀v∈p.2,jfG H v):Inv H ls':=⟨I.lay,I.top,I.at_,I.slots,h,I.fin,I.rdy,I.cards,I.bits,I.len⟩
theorem Sep.relist{H:Hp}{lr:Nat}{ls ls':List (Nat×List Val)}(S:Sep H lr ls)(h:ls'.map (·.1)=ls.map (·.1)):Sep H lr ls':=⟨S.nd,S.r1,by rw[h];exact S.r2,by rw[h];exact S.l1,by rw[h];exact S.l2⟩
theorem jnL{ls:List (Nat×List Val)}{i:Nat}{p:Nat×List Val}(hp:ls[i]? =some p)(vs:List Val):(ls.set i (p.1,vs)).map (·.1)=ls.map (·.1):=by
 rw[map_set]
 exact jbi (by rw[getElem?_map,hp];rfl)
theorem Stt.root{Y:AHeap}{h lr a f c:Nat}{H:Hp}{ls:List (Nat×List Val)}(T:Stt Y h lr a f c H ls){i j:Nat}{p:Nat×List Val}{v:Val}(hp:ls[i]? =some p)(hj:j<2)(hv:jfG H v):Stt (Y.set p.1 (.list ((p.2.set j v).map Val.pv))) h lr a f c H (ls.set i (p.1,p.2.set j v)):=by
 obtain⟨rfl,V,I,S,L,F,C,K⟩:=T
 have hm:=mem_of_getElem? hp
 refine⟨rfl,V.keep (S:=[p.1]) (.set (by simp)) fun l hl h=>?_,I.reroot fun q hq u hu=>?_,S.relist (jnL hp _),L.set S.r2 S.l2 hp _,⟨F.th,?_⟩,C,K.step (.set (S:=[p.1]) (by simp)) (fun h=>K.l (by rw[mem_singleton.mp h];exact mem_map_of_mem hm)) (fun x hx=>.inl hx) (jnL hp _)⟩
 ·rw[mem_singleton.mp h]at hl
  exact S.l1 p.1 (mem_map_of_mem hm) hl
 ·rcases mem_or_eq_of_mem_set hq with hq | rfl
  ·exact I.roots q hq u hu
  ·rcases mem_or_eq_of_mem_set hu with hu | rfl
   ·exact I.roots p hm u hu
   ·exact hv
 ·refine joW F.ls fun l0 l1 va vb vc vd els=>?_
  subst els
  have hil:=(List.getElem?_eq_some_iff.mp hp).1
  simp only[length_cons,length_nil]at hil
  have:i=0\/i=1:=by exact jyh hil
  have hj2:j=0\/j=1:=by exact jyi hj
  rcases this with rfl | rfl<;>rcases hj2 with rfl | rfl<;>(simp at hp;subst hp;exact⟨_,_,_,_,_,_,rfl⟩)
theorem First.cell{H:Hp}{ls:List (Nat×List Val)}(F:First H ls){c:Int}(h0:0<=c)(h4:c<4): ∃(i j:Nat) (p:Nat×List Val) (w:Val),c/2=i/\c%2=j/\ls[i]? =some p/\p.2[j]? =some w/\j<2:=by
 refine joW F.ls fun l0 l1 va vb vc vd els=>?_
 subst els
 have:c=0\/c=1\/c=2\/c=3:=by exact jtX h0 h4
 rcases this with rfl | rfl | rfl | rfl
 ·exact⟨0,0,_,_,rfl,rfl,rfl,rfl,by decide⟩
 ·exact⟨0,1,_,_,rfl,rfl,rfl,rfl,by decide⟩
 ·exact⟨1,0,_,_,rfl,rfl,rfl,rfl,by decide⟩
 ·exact⟨1,1,_,_,rfl,rfl,rfl,rfl,by decide⟩
theorem jnI{m:Nat}{Y:AHeap}{h lr a f c:Nat}{H:Hp}{ls:List (Nat×List Val)}(T:Stt Y h lr a f c H ls){cell:Int}{v:Val}{Q:PV->AHeap->Prop}(h0:0<=cell)(h4:cell<4)(hv:jfG H v)(k: ∀w Y' ls',Stt Y' h lr a f c H ls'->Q w Y'):C (m+1) 56 [.ref lr,.int cell,v.pv] Y Q:=by
 refine jmC (T.F.cell h0 h4) fun i j p w hi hj hp hw hj2=>?_
 exact jaQ T.L hi hj hp hw (k _ _ _ (T.root hp hj2 hv))
theorem jqg{H:Hp}{v:Val}(h:jfX H v):jfG H v:=by
 cases v with
 | pl w z=>exact h.elim
 | _=>exact h
theorem jc9{m:Nat}{Y:AHeap}{h lr a f c:Nat}{H:Hp}{ls:List (Nat×List Val)}(T:Stt Y h lr a f c H ls){x:Int}{Q:PV->AHeap->Prop}(hx: ∃t∈H.th,t.addr=x)(hf:f<1000)(k: ∀Y',Stt Y' h lr a (f+1) c {H with fin:=H.fin++ [x]} ls->Q .none Y'):C (m+1) 31 [.ref h,.int x] Y Q:=by
 obtain⟨rfl,V,I,S,L,F,C,K⟩:=T
 have hfr:=C.fr
 refine jmp V S.nd (jyj hf hfr) fun Y' V' c'=>k Y' ⟨rfl,V',⟨I.lay,I.top,I.at_,I.slots,I.roots,fun y hy=>?_,I.rdy,I.cards,⟨I.bits.lo,I.bits.hi⟩,I.len⟩,⟨⟨S.nd.six,S.nd.th,S.nd.ap⟩,S.r1,S.r2,S.l1,S.l2⟩,?_,⟨F.th,F.ls⟩,⟨C.th,?_,C.cl⟩,K.step (H':={H with fin:=H.fin++ [x]}) c' (fun h=>K.h (by rw[mem_singleton.mp h];walk_at "l")) (fun x hx=>.inl hx) rfl⟩
 ·rcases mem_append.mp hy with hy | hy
  ·exact I.fin y hy
  ·rw[mem_singleton.mp hy];exact hx
 ·have hin:H.fl∈H.locs:=by walk_at "l"
  exact⟨c'.get L.lr fun h=>S.r1 (mem_singleton.mp h▸hin),fun p hp=>c'.get (L.each p hp) fun h=>S.l1 _ (mem_map_of_mem hp) (mem_singleton.mp h▸hin)⟩
 ·show(H.fin++ [x]).length+H.rdy.length<=f+1
  rw[length_append,length_singleton];exact jyk hfr
theorem joN{th:List Th}{i:Nat}{t t':Th}(hi:th[i]? =some t)(ha:t'.addr=t.addr)(hg:t'.gen=t.gen)(x:Int):(jcK (th.set i t') x).map (·.gen)=(jcK th x).map (·.gen):=by
 induction th generalizing i with
 | nil=>simp at hi
 | cons u r ih=>
  cases i with
  | zero=>
   simp at hi;subst hi
   unfold jcK
   rw[set_cons_zero,find?_cons,find?_cons,ha]
   split
   ·simp[hg]
   ·rfl
  | succ i=>
   unfold jcK at ih ⊢
   rw[set_cons_succ,find?_cons,find?_cons]
   split
   ·rfl
   ·exact ih (by simpa using hi)
theorem jpe{H:Hp}{g a:Int}:yng H g a=match (jcK H.th a).map (·.gen)with
 | some u=>decide (u<g)
 | none=>false:=by
 unfold yng
 cases jcK H.th a<;>rfl
theorem jmG: ∀{th:List Th} {e g:Int} {i:Nat} {t t':Th},Lay e g th->th[i]? =some t->t'.addr=t.addr->t'.gen=t.gen->t'.size=t.size->t'.slots.length=t.slots.length->Lay e g (th.set i t')
 | [],_,_,_,_,_,_,h,_,_,_,_=>by simp at h
 | u::r,e,g,0,t,t',h,hi,h1,h2,h3,h4=>by
  simp at hi;subst hi
  refine jmz h fun q1 q2 q3 q4 q5 q6=>?_;clear h
  rw[set_cons_zero]
  exact⟨by rw[h1];exact q1,by rw[h2];exact q2,by rw[h2];exact q3,by rw[h3,h4];exact q4,by rw[h4];exact q5,by rw[h3,h2];exact q6⟩
 | u::r,e,g,i+1,t,t',h,hi,h1,h2,h3,h4=>by
  refine jmz h fun q1 q2 q3 q4 q5 q6=>?_;clear h
  rw[set_cons_succ]
  exact⟨q1,q2,q3,q4,q5,jmG q6 (by simpa using hi) h1 h2 h3 h4⟩
theorem jk3: ∀{th:List Th} {e:Int} {i:Nat} {t t':Th},th[i]? =some t->t'.size=t.size->jca e (th.set i t')=jca e th
 | [],_,_,_,_,h,_=>by simp at h
 | u::r,e,0,t,t',hi,h3=>by
  simp at hi;subst hi
  rw[set_cons_zero]
  simp only[jca,h3]
 | u::r,e,i+1,t,t',hi,h3=>by
  rw[set_cons_succ]
  simp only[jca]
  exact jk3 (by simpa using hi) h3
theorem jou{v:Val}{a:Int}(h:a∈jal v):jet v=true:=by
 cases v with
 | ref b=>
  have:=jkA h
  simp only[jal]at h
  split at h
  ·cases h
  ·rename_i hb
   unfold jet
   simp[hb]
 | one b=>unfold jet;cases e:jal (.one b)with
  | nil=>rw[e]at h;cases h
  | cons x y=>simp[e]
 | two b d=>unfold jet;cases e:jal (.two b d)with
  | nil=>rw[e]at h;cases h
  | cons x y=>simp[e]
 | i4 n=>simp[jal]at h
 | pl w z=>simp[jal]at h
 | lc=>simp[jal]at h
noncomputable def jpE(H:Hp):Prop:=∀t∈H.th,∀(k:Nat) (v:Val),t.slots[k]? =some v->t.gen>0->jbA H t.gen v=true->jbq H (t.addr+2+k)∈H.cards
theorem ySlots_iff{H:Hp}{t:Th}{k:Nat}:(t,k)∈jaE H<->t∈H.th/\t.gen>0/\∃v,t.slots[k]? =some v/\jbA H t.gen v=true:=by
 constructor
 ·intro h
  refine jjF (jeo h) fun h1 h2 h3 h4=>?_
  refine⟨h1,h3,?_⟩
  unfold yF at h4
  dsimp only at h4 h2
  rw[getElem?_eq_getElem h2]at h4
  exact⟨_,getElem?_eq_getElem h2,h4⟩
 ·intro zu5;refine jdo zu5 fun h1 h2 zu6=>?_;clear zu5;refine jaj zu6 fun v hv hy=>?_;clear zu6
  have hkl:=(List.getElem?_eq_some_iff.mp hv).1
  unfold jaE
  refine mem_flatMap.mpr ⟨t,h1,?_⟩
  unfold ySl
  rw[if_pos h2]
  refine mem_map.mpr ⟨k,mem_filter.mpr ⟨by simpa using hkl,?_⟩,rfl⟩
  unfold yF;rw[hv];exact hy
theorem open_nil{H:Hp}:jfv H= []<->jpE H:=by
 unfold jfv
 rw[filter_eq_nil_iff]
 constructor
 ·intro h t ht k v hv hg hy
  have:=h (t,k) (ySlots_iff.mpr ⟨ht,hg,v,hv,hy⟩)
  simpa using this
 ·rintro h ⟨t,k⟩ hp
  refine jdo (ySlots_iff.mp hp) fun h1 h2 zu7=>?_;refine jaj zu7 fun v hv hy=>?_;clear zu7
  have:=h t h1 k v hv h2 hy
  simpa using this
theorem putC_in{l:List Int}{c x:Int}:x∈jdE l c<->x∈l\/x=c:=by
 have:=jht (l:=l) (c:=c) (a:=x)
 rw[<- contains_iff_mem,this]
 simp
theorem jkU{H H':Hp}(h: ∀x,(jcK H'.th x).map (·.gen)=(jcK H.th x).map (·.gen))(g:Int)(v:Val):jbA H' g v=jbA H g v:=by
 unfold jbA
 congr 1
 funext a
 rw[jpe,jpe,h]
theorem jeX{H H':Hp}(h: ∀t∈H.th,∃u∈H'.th,u.addr=t.addr/\u.size=t.size){a:Int}(r:jcJ H a):jcJ H' a:=by
 rcases r with r | ⟨t,ht,rfl⟩
 ·exact .inl r
 ·refine jcs (h t ht) fun u hu e _=>?_
  exact .inr ⟨u,hu,e⟩
theorem jcg{H H':Hp}(h: ∀t∈H.th,∃u∈H'.th,u.addr=t.addr/\u.size=t.size){v:Val}(r:jfX H v):jfX H' v:=by
 cases v with
 | ref a=>exact jeX h r
 | i4 n=>trivial
 | one a=>exact jeX h r
 | two a b=>exact⟨jeX h r.1,jeX h r.2⟩
 | pl w z=>exact r.elim
 | lc=>exact r.elim
theorem jnH{H H':Hp}(h: ∀t∈H.th,∃u∈H'.th,u.addr=t.addr/\u.size=t.size){v:Val}(r:jfG H v):jfG H' v:=by
 cases v with
 | pl w z=>
  refine jaj r fun t ht hi=>?_;clear r
  refine jcs (h t ht) fun u hu e1 e2=>?_
  exact⟨u,hu,by unfold jcb at hi ⊢;exact jyl hi e1 e2⟩
 | ref a=>exact jcg (v:=.ref a) h r
 | i4 n=>trivial
 | one a=>exact jcg (v:=.one a) h r
 | two a b=>exact jcg (v:=.two a b) h r
 | lc=>exact r.elim
theorem jnO{H:Hp}{ls:List (Nat×List Val)}(I:Inv H ls){i k:Nat}{t:Th}{v:Val}(hi:H.th[i]? =some t)(hv:jfX H v):Inv (jbn H i t k v) ls:=by
 have hil:=(List.getElem?_eq_some_iff.mp hi).1
 have ht:=mem_of_getElem? hi
 have same: ∀u∈H.th,∃w∈(jbn H i t k v).th,w.addr=u.addr/\w.size=u.size:=fun u hu=>by
  obtain⟨j,hj⟩:=mem_iff_getElem?.mp hu
  by_cases h:i=j
  ·subst h
   rw[hi]at hj;cases hj
   exact⟨{t with slots:=t.slots.set k v},mem_iff_getElem?.mpr ⟨i,by show(H.th.set i _)[i]? =_;rw[getElem?_set,if_pos rfl,if_pos hil]⟩,rfl,rfl⟩
  ·exact⟨u,mem_iff_getElem?.mpr ⟨j,by show(H.th.set i _)[j]? =_;rw[getElem?_set,if_neg h];exact hj⟩,rfl,rfl⟩
 have gens: ∀x,(jcK (jbn H i t k v).th x).map (·.gen)=(jcK H.th x).map (·.gen):=fun x=>joN (t':={t with slots:=t.slots.set k v}) hi rfl rfl x
 refine⟨jmG I.lay hi rfl rfl rfl (by simp),?_,?_,fun u hu w hw=>?_,fun p hp w hw=>jnH same (I.roots p hp w hw),fun a ha=>?_,fun a ha=>?_,?_,⟨I.bits.lo,I.bits.hi⟩,?_⟩
 ·show H.top=jca 16 (H.th.set i _)
  rw[jk3 (t':={t with slots:=t.slots.set k v}) hi rfl];exact I.top
 ·show H.at_=(H.th.set i _).map _
  rw[map_set,jbi (by rw[getElem?_map,hi];rfl)]
  exact I.at_
 ·have hu:u∈H.th.set i {t with slots:=t.slots.set k v}:=hu
  rcases mem_or_eq_of_mem_set hu with hu | rfl
  ·exact jcg same (I.slots u hu w hw)
  ·rcases mem_or_eq_of_mem_set hw with hw | rfl
   ·exact jcg same (I.slots t ht w hw)
   ·exact jcg same hv
 ·refine jaj (I.fin a ha) fun u hu e=>?_
  refine jcs (same u hu) fun w hw e2 _=>?_
  exact⟨w,hw,by rw[e2,e]⟩
 ·refine jaj (I.rdy a ha) fun u hu e=>?_
  refine jcs (same u hu) fun w hw e2 _=>?_
  exact⟨w,hw,by rw[e2,e]⟩
 ·rw[open_nil]
  have cov:=open_nil.mp I.cards
  intro u hu k' v' hv' hg hy
  rw[jkU gens]at hy
  have sub: ∀x∈H.cards,x∈(jbn H i t k v).cards:=fun x hx=>by
   unfold jbn
   dsimp only
   split
   ·exact putC_in.mpr (.inl hx)
   ·exact hx
  have hu:u∈H.th.set i {t with slots:=t.slots.set k v}:=hu
  rcases mem_or_eq_of_mem_set hu with hu | rfl
  ·exact sub _ (cov u hu k' v' hv' hg hy)
  ·have hv':(t.slots.set k v)[k']? =some v':=hv'
   rw[getElem?_set]at hv'
   by_cases h:k=k'
   ·subst h
    rw[if_pos rfl]at hv'
    split at hv'
    ·cases hv'
     unfold jbA at hy
     refine jaj (any_eq_true.mp hy) fun a ha _=>?_
     have hh:=jou ha
     unfold jbn
     dsimp only
     rw[if_pos ⟨hg,hh⟩]
     exact putC_in.mpr (.inr rfl)
    ·cases hv'
   ·rw[if_neg h]at hv'
    exact sub _ (cov t ht k' v' hv' hg hy)
 ·show(H.th.set i _).length<100
  rw[length_set];exact I.len
theorem jhv{m:Nat}{Y:AHeap}{h lr a f c:Nat}{H:Hp}{ls:List (Nat×List Val)}(T:Stt Y h lr a f c H ls){i k:Nat}{t:Th}{v:Val}{Q:PV->AHeap->Prop}(hi:H.th[i]? =some t)(hk:k<t.slots.length)(hv:jfX H v)(hc:c<1000)(kk: ∀Y',Stt Y' h lr a f (c+1) (jbn H i t k v) ls->Q .none Y'):C (m+3) 12 [.ref h,.ref t.loc,.int k,v.pv] Y Q:=by
 obtain⟨rfl,V,I,S,L,F,C,K⟩:=T
 have ht:=mem_of_getElem? hi
 have hcl:=C.cl
 have elocs:(jbn H i t k v).locs=H.locs:=by
  rw[jaq,jaq]
  show _++jaA (H.th.set i _)=_
  rw[jjB (t':={t with slots:=t.slots.set k v}) hi rfl rfl];rfl
 have ml: ∀x∈ [t.sl,H.cl],x∈H.locs:=fun x hx=>by
  simp only[mem_cons,not_mem_nil,or_false]at hx
  rcases hx with rfl | rfl
  ·rw[jaq];exact mem_append_right _ (jbj ht).2
  ·walk_at "l"
 refine jjx V S.nd I.bits hi hk (I.in_ t ht).1 (jtH hc hcl) fun Y' V' c'=>kk Y' ⟨rfl,V',jnO I hi hv,⟨?_,by rw[elocs];exact S.r1,S.r2,by rw[elocs];exact S.l1,S.l2⟩,⟨c'.get L.lr fun h=>S.r1 (ml _ h),fun p hp=>c'.get (L.each p hp) fun h=>S.l1 _ (mem_map_of_mem hp) (ml _ h)⟩,⟨?_,F.ls⟩,⟨?_,C.fr,?_⟩,K.step (H':=jbn H i t k v) c' (fun h=>K.h (ml _ h)) (fun x hx=>.inl (by rw[elocs]at hx;exact hx)) rfl⟩
 ·have:=S.nd.setTh hi (t':={t with slots:=t.slots.set k v}) rfl rfl
  exact⟨this.six,this.th,this.ap⟩
 ·refine jdp F.th fun u r e h2=>?_
  cases i with
  | zero=>
   rw[e]at hi
   simp at hi;subst hi
   refine⟨{u with slots:=u.slots.set k v},r,?_,by simpa using h2⟩
   show H.th.set 0 _=_
   rw[e];rfl
  | succ i=>
   refine⟨u,r.set i {t with slots:=t.slots.set k v},?_,h2⟩
   show H.th.set (i+1) _=_
   rw[e];rfl
 ·show(H.th.set i _).length<=a
  rw[length_set];exact C.th
 ·show(jbn H i t k v).cards.length<=c+1
  unfold jbn
  dsimp only
  split
  ·unfold jdE
   split
   ·exact o14 hcl
   ·rw[length_append,length_singleton];exact o44 hcl
  ·exact o14 hcl
theorem jmF: ∀{th:List Th} {e g:Int} {t:Th},Lay e g th->0<=g->t.addr=jca e th->t.gen=0->t.size=szF t.slots.length->t.slots.length<=3->Lay e g (th++ [t])
 | [],e,g,t,_,h0,h1,h2,h3,h4=>⟨h1,by exact jym h0 h2,by exact jyn h2,h3,h4,trivial⟩
 | u::r,e,g,t,h,h0,h1,h2,h3,h4=>by
  refine jmz h fun q1 q2 q3 q4 q5 q6=>?_;clear h
  exact⟨q1,q2,q3,q4,q5,jmF q6 q3 h1 h2 h3 h4⟩
theorem jk2: ∀{th:List Th} {e:Int} {t:Th},jca e (th++ [t])=jca e th+t.size
 | [],e,t=>rfl
 | u::r,e,t=>by
  simp only[cons_append,jca]
  exact jk2
theorem joM{th:List Th}{t:Th}{x:Int}(h:x≠t.addr):jcK (th++ [t]) x=jcK th x:=by
 unfold jcK
 rw[List.find?_append]
 cases e:List.find? (fun u=>decide (u.addr=x)) th with
 | some u=>rfl
 | none=>simp[Ne.symm h]
theorem jmK{H:Hp}{ls:List (Nat×List Val)}(I:Inv H ls){loc sl:Nat}{kd:Int}{s:List Val}(hs: ∀v∈s,jfX H v)(hl:s.length<=3)(hn:H.th.length<99):Inv (jaD H (jcj H loc sl kd s)) ls:=by
 have same: ∀u∈H.th,∃w∈(jaD H (jcj H loc sl kd s)).th,w.addr=u.addr/\w.size=u.size:=fun u hu=>⟨u,mem_append_left _ hu,rfl,rfl⟩
 have htop:=I.top
 refine⟨?_,?_,?_,fun u hu w hw=>?_,fun p hp w hw=>jnH same (I.roots p hp w hw),fun a ha=>?_,fun a ha=>?_,?_,⟨I.bits.lo,I.bits.hi⟩,?_⟩
 ·exact jmF I.lay (by decide) htop rfl rfl hl
 ·show H.top+szF s.length=jca 16 (H.th++ [jcj H loc sl kd s])
  rw[jk2,htop];rfl
 ·show H.at_++ [(H.top,loc)]=(H.th++ [jcj H loc sl kd s]).map _
  rw[map_append,show H.at_=_ from I.at_];rfl
 ·rcases mem_append.mp hu with hu | hu
  ·exact jcg same (I.slots u hu w hw)
  ·rw[mem_singleton.mp hu]at hw
   exact jcg same (hs w hw)
 ·refine jaj (I.fin a ha) fun u hu e=>?_
  exact⟨u,mem_append_left _ hu,e⟩
 ·refine jaj (I.rdy a ha) fun u hu e=>?_
  exact⟨u,mem_append_left _ hu,e⟩
 ·rw[open_nil]
  have cov:=open_nil.mp I.cards
  intro u hu k' v' hv' hg hy
  have hu:u∈H.th++ [jcj H loc sl kd s]:=hu
  rcases mem_append.mp hu with hu | hu
  ·refine cov u hu k' v' hv' hg ?_
   have hsl:=I.slots u hu v' (mem_of_getElem? hv')
   unfold jbA at hy ⊢
   refine jaj (any_eq_true.mp hy) fun a ha hya=>?_
   refine any_eq_true.mpr ⟨a,ha,?_⟩
   have hnz:=jkA ha
   have hw:a∈jaf v':=by
    cases v' with
    | ref b=>
     simp only[jal]at ha
     split at ha
     ·cases ha
     ·simpa [jaf]using ha
    | i4 n=>exact ha
    | one b=>exact ha
    | two b d=>exact ha
    | pl w z=>exact hsl.elim
    | lc=>exact hsl.elim
   rcases jcn hsl a hw with h0 | ⟨z,hz,rfl⟩
   ·exact absurd h0 hnz
   ·have h1:=I.lay.mem z hz
    have:z.addr≠(jcj H loc sl kd s).addr:=by show z.addr≠H.top;exact jyo htop h1
    unfold yng at hya ⊢
    rw[show (jaD H (jcj H loc sl kd s)).th=H.th++ [jcj H loc sl kd s] from rfl,joM this]at hya
    exact hya
  ·rw[mem_singleton.mp hu]at hg
   exact absurd hg (by show ¬((0:Int)>0);decide)
 ·show(H.th++ [jcj H loc sl kd s]).length<100
  rw[length_append,length_singleton];exact jtE hn
theorem jmL{H:Hp}{lr:Nat}{ls:List (Nat×List Val)}(S:Sep H lr ls){loc sl:Nat}{kd:Int}{s:List Val}(h1:loc∉H.locs)(h2:loc≠lr)(h3:loc∉ls.map (·.1))(h4:sl∉H.locs)(h5:sl≠lr)(h6:sl∉ls.map (·.1))(h7:loc≠sl):Sep (jaD H (jcj H loc sl kd s)) lr ls:=by
 have et:jaA (jaD H (jcj H loc sl kd s)).th=jaA H.th++ [loc,sl]:=by
  show jaA (H.th++ [jcj H loc sl kd s])=_
  unfold jaA
  rw[flatMap_append];rfl
 have el:(jaD H (jcj H loc sl kd s)).locs=H.locs++ [loc,sl]:=by
  rw[jaq,et,jaq,append_assoc];rfl
 have h1':=h1
 have h4':=h4
 rw[jaq,mem_append,not_or]at h1 h4
 refine⟨⟨S.nd.six,?_,fun x hx h=>?_⟩,fun h=>?_,S.r2,fun x hx h=>?_,S.l2⟩
 ·rw[et,nodup_append]
  refine⟨S.nd.th,by simp[h7],fun x hx y hy e=>?_⟩
  simp only[mem_cons,not_mem_nil,or_false]at hy
  rcases hy with rfl | rfl
  ·exact h1.2 (e▸hx)
  ·exact h4.2 (e▸hx)
 ·rw[et]at hx
  rcases mem_append.mp hx with hx | hx
  ·exact S.nd.ap x hx h
  ·simp only[mem_cons,not_mem_nil,or_false]at hx
   rcases hx with rfl | rfl
   ·exact h1.1 h
   ·exact h4.1 h
 ·rw[el]at h
  rcases mem_append.mp h with h | h
  ·exact S.r1 h
  ·simp only[mem_cons,not_mem_nil,or_false]at h
   rcases h with h | h
   ·exact h2 h.symm
   ·exact h5 h.symm
 ·rw[el]at h
  rcases mem_append.mp h with h | h
  ·exact S.l1 x hx h
  ·simp only[mem_cons,not_mem_nil,or_false]at h
   rcases h with rfl | rfl
   ·exact h3 hx
   ·exact h6 hx
structure Stp' (Y:AHeap) (h lr:Nat) (H:Hp) (ls:List (Nat×List Val)):Prop where
 hh:H.h=h
 V:Hv Y H
 I:Inv H ls
 S:Sep H lr ls
 L:Lv Y lr ls
 K:Keep Y H lr ls
theorem Stt.p{Y:AHeap}{h lr a f c:Nat}{H:Hp}{ls:List (Nat×List Val)}(T:Stt Y h lr a f c H ls):Stp' Y h lr H ls:=⟨T.hh,T.V,T.I,T.S,T.L,T.K⟩
theorem Stp'.ext{Y Y':AHeap}{h lr:Nat}{H:Hp}{ls:List (Nat×List Val)}(T:Stp' Y h lr H ls)(c:Chg [] Y Y'):Stp' Y' h lr H ls:=⟨T.hh,T.V.ext c,T.I,T.S,T.L.ext c,T.K.step c (by simp) (fun x hx=>.inl hx) rfl⟩
theorem Stt.ext{Y Y':AHeap}{h lr a f c:Nat}{H:Hp}{ls:List (Nat×List Val)}(T:Stt Y h lr a f c H ls)(c':Chg [] Y Y'):Stt Y' h lr a f c H ls:=⟨T.hh,T.V.ext c',T.I,T.S,T.L.ext c',T.F,T.C,T.K.step c' (by simp) (fun x hx=>.inl hx) rfl⟩
theorem jkB{m:Nat}{Y:AHeap}{h lr:Nat}{H:Hp}{ls:List (Nat×List Val)}(T:Stp' Y h lr H ls){sl:Nat}{kd:Int}{s:List Val}{Q:PV->AHeap->Prop}(hg:Y.get sl=some (.list (s.map Val.pv)))(hn2:2≠sl)(h4:sl∉H.locs)(h5:sl≠lr)(h6:sl∉ls.map (·.1))(hs: ∀v∈s,jfX H v)(hl:s.length<=3)(hn:H.th.length<99)
  (k: ∀t Y',t.loc=Y.sz->t.addr=H.top->t.slots=s->Stp' Y' h lr (jaD H t) ls->Q (.ref t.loc) Y'):C (m+3) 5 [.ref h,.int kd,.ref sl] Y Q:=by
 obtain⟨rfl,V,I,S,L,K⟩:=T
 have lt:=V.lt
 have lrlt:=jac L.lr
 have slt:=jac hg
 have lslt: ∀x∈ls.map (·.1),x<Y.sz:=fun x hx=>by
  refine jaj (mem_map.mp hx) fun p hp zq8=>?_;subst zq8
  exact jac (L.each p hp)
 refine jjo V S.nd hg h4 (jyp hl) hn ?_ (fun p hp=>?_) fun Y' V' c'=>k (jcj H Y.sz sl kd s) Y' rfl rfl rfl ⟨rfl,V',jmK I hs hl hn,jmL S (fun h=>by have:=lt _ h;exact o12 this) (o6 lrlt) (fun h=>by have:=lslt _ h;exact o12 this) h4 h5 h6 (o6 slt),?_,?_⟩
 ·rw[show H.at_=_ from I.at_,length_map];exact jtD hn
 ·rw[show H.at_=_ from I.at_]at hp
  refine jaj (mem_map.mp hp) fun u hu zq9=>?_;subst zq9
  have h1:=I.lay.mem u hu
  have h2:=I.top
  show u.addr≠H.top
  exact jyq h1 h2
 ·have ml: ∀x∈ [H.h,H.tl,H.al],x∈H.locs:=fun x hx=>by
   simp only[mem_cons,not_mem_nil,or_false]at hx
   rcases hx with rfl | rfl | rfl<;>walk_at "l"
  exact⟨c'.get L.lr fun h=>S.r1 (ml _ h),fun p hp=>c'.get (L.each p hp) fun h=>S.l1 _ (mem_map_of_mem hp) (ml _ h)⟩
 ·refine⟨?_,fun h=>?_,K.r,K.l⟩
  ·refine jaj K.e fun ns hz hg2=>?_
   refine⟨ns,hz,c'.get hg2 fun h=>K.h ?_⟩
   simp only[mem_cons,not_mem_nil,or_false]at h
   rcases h with h | h | h
   ·rw[h];walk_at "l"
   ·rw[h];walk_at "l"
   ·rw[h];walk_at "l"
  ·have k2:=K.lt
   rw[jaq]at h
   rcases mem_append.mp h with h | h
   ·exact K.h (by rw[jaq];exact mem_append_left _ h)
   ·have h:2∈jaA (H.th++ [jcj H Y.sz sl kd s]):=h
    unfold jaA at h
    rw[flatMap_append]at h
    rcases mem_append.mp h with h | h
    ·exact K.h (by rw[jaq];exact mem_append_right _ h)
    ·have h:2∈ [Y.sz,sl]:=by
      rw[flatMap_cons,List.flatMap_nil,append_nil]at h
      exact h
     simp only[mem_cons,not_mem_nil,or_false]at h
     rcases h with h | h
     ·exact jyr k2 h
     ·exact hn2 h
theorem Stt.weak{Y:AHeap}{h lr a f c a' f' c':Nat}{H:Hp}{ls:List (Nat×List Val)}(T:Stt Y h lr a f c H ls)(h1:a<=a')(h2:f<=f')(h3:c<=c'):Stt Y h lr a' f' c' H ls:=
 ⟨T.hh,T.V,T.I,T.S,T.L,T.F,⟨le_trans T.C.th h1,le_trans T.C.fr h2,le_trans T.C.cl h3⟩,T.K⟩
theorem First.ne{H:Hp}{ls:List (Nat×List Val)}(F:First H ls):H.th≠ []:=by
 refine jdp F.th fun t r e _=>?_
 rw[e];simp
theorem Stt.alloc{Y Y':AHeap}{h lr a f c:Nat}{H:Hp}{ls:List (Nat×List Val)}{t:Th}(T:Stt Y h lr a f c H ls)(ad:Stp' Y' h lr (jaD H t) ls):Stt Y' h lr (a+1) f c (jaD H t) ls:=by
 refine⟨ad.hh,ad.V,ad.I,ad.S,ad.L,⟨?_,T.F.ls⟩,⟨?_,T.C.fr,T.C.cl⟩,ad.K⟩
 ·refine jdp T.F.th fun u r e h2=>?_
  exact⟨u,r++ [t],by show H.th++ [t]=_;rw[e];rfl,h2⟩
 ·show(H.th++ [t]).length<=a+1
  have:=T.C.th
  rw[length_append,length_singleton];exact o44 this
theorem jkC{m:Nat}{Y:AHeap}{h lr a f c:Nat}{H:Hp}{ls:List (Nat×List Val)}{y:Int}{Q:PV->AHeap->Prop}(T:Stt Y h lr a f c H ls)(ha:a<90)(hf:f<900)
  (k: ∀r Y' H' ls',Stt Y' h lr (a+1) (f+1) c H' ls'->Q r Y'):C (m+4) 57 [.ref h,.ref lr,.int y] Y Q:=by
 obtain⟨n,hn⟩: ∃n:Nat,y%4=(n:Int):=⟨(y%4).toNat,by exact jys⟩
 have szl:=(by decide:(100200:Nat)<sizeLine)
 refine jap rfl rfl (juP (n:=n) (congrArg PV.int hn) (jyt hn) (fun i ys Y'=>ys=(replicate i (Val.ref 0)).map Val.pv/\Chg [] Y Y') ⟨rfl,.alloc _ _⟩ ?_ ?_)
 ·rintro i ys Y' hi hg ⟨rfl,c'⟩
  refine⟨hg,by rw[length_map,List.length_replicate];exact jyu hn szl hi,?_,c'.setNew (le_refl _)⟩
  show _++ [(Val.ref 0).pv]=_
  rw[List.map_replicate,List.map_replicate,List.replicate_succ']
 ·rintro ys au hg ⟨rfl,c2⟩
  have lt:=T.V.lt
  have lrlt:=jac T.L.lr
  refine jkB (m:=m) (s:=replicate n (Val.ref 0)) (T.p.ext c2) hg (by have:=T.K.lt;exact o77 this) (fun h=>by have:=lt _ h;exact o12 this) (o6 lrlt) (fun h=>?_) (fun v hv=>?_) (by rw[List.length_replicate];exact jyv hn) (by have:=T.C.th;exact jtY ha this) fun t az e1 e2 e3 ad=>?_
  ·refine jaj (mem_map.mp h) fun p hp e=>?_
   have:=jac (T.L.each p hp);exact jtZ e this
  ·rw[List.eq_of_mem_replicate hv];exact .inl rfl
  ·have T3:=T.alloc ad
   have mt:t∈(jaD H t).th:=mem_append_right _ (mem_singleton.mpr rfl)
   have rk:jfG (jaD H t) (.ref t.addr):=.inr ⟨t,mt,rfl⟩
   have last: ∀ay ls4,Stt ay h lr (a+1) f c (jaD H t) ls4->(jfO jep 2).r (m+3) [some (.ref h),some (.ref lr),some (.int y),some (.ref t.loc),none] ay (cl Q):=fun ay ls4 T4=>cD (fun _=>rd (T4.V.th t mt).1 (jc9 (m:=m+2) T4 ⟨t,mt,rfl⟩ (o54 hf) fun aM T5=>k _ _ _ _ T5)) fun _=>k _ _ _ _ (T4.weak (le_refl _) (o0) (le_refl _))
   refine cD (fun h4=>rd (T3.V.th t mt).1 (jnI (m:=m+2) (v:=.ref t.addr) T3 (jyw) (jyx h4) rk fun w ay ls4 T4=>last ay ls4 T4)) fun h4=>last az ls T3
theorem jkD{m:Nat}{Y:AHeap}{h lr a f c:Nat}{H:Hp}{ls:List (Nat×List Val)}{op y:Int}{Q:PV->AHeap->Prop}(T:Stt Y h lr a f c H ls)(hf:f<900)(hc:c<900)
  (k: ∀r Y' H' ls',Stt Y' h lr a (f+1) (c+1) H' ls'->Q r Y'):C (m+4) 59 [.ref h,.ref lr,.int op,.int y] Y Q:=by
 have eh:=T.hh
 subst eh
 have hne:=T.F.ne
 have V:=T.V
 have hl:=V.small.1
 have hpos:0<H.th.length:=length_pos_iff.mpr hne
 refine jap rfl rfl (ja6 (m:=m+2) V hne fun i t ht _=>?_)
 have mt:=mem_of_getElem? ht
 have hp:=V.th t mt
 have hts:=V.small.2 t mt
 have tsz:=T.I.d.sz t mt
 have szl:=(by decide:(100200:Nat)<sizeLine)
 have hsl:(t.slots.map Val.pv).length<=sizeLine:=by rw[length_map];exact jt0 hts szl
 refine rd V.h (rd V.tl (gI (by rw[length_map];exact jt0 hl szl) (gI (by rw[length_map];exact o16 hpos) ?_)))
 refine gL6 (by rw[length_map];exact jt1 hl) ?_
 refine(cD (fun h5=>rd hp.1 (rd hp.2 (gI hsl (cD (fun hpos2=>?_) fun hpos2=>?_)))) fun h5=>cD (fun h7=>rd hp.1 ?_) fun h7=>cD (fun hlt=>?_) fun hlt=>rd hp.1 (rd hp.1 (gI (jt3 tsz) ?_)))
 ·rw[length_map]at hpos2
  generalize y/((H.th.map fun t=>PV.ref t.loc).length:Int)=y'
  have pos:(0:Int)<((t.slots.map Val.pv).length:Int):=by rw[length_map];exact o78 hpos2
  refine rd hp.1 (rd hp.2 (gI hsl (gI pos (rd hp.1 (rd hp.2 (gI hsl (gI pos (gL6 (by rw[length_map];exact jt1 hts) (jfR (m:=m) V hne fun v hv=>?_)))))))))
  obtain⟨j,hj⟩: ∃j:Nat,y'%(t.slots.length:Int)=(j:Int):=⟨(y'%(t.slots.length:Int)).toNat,by have:=emod_nonneg y' (b:=(t.slots.length:Int)) (jyy hpos2);exact jt2 this⟩
  have hjl:j<t.slots.length:=by have:=emod_lt_of_pos y' (b:=(t.slots.length:Int)) (o78 hpos2);exact jyz hj this
  have go:=fun Q=>jhv (m:=m) (Q:=Q) T ht hjl hv (o54 hc)
  rw[<- hj,<-length_map (f:=Val.pv)]at go
  exact go _ fun au T2=>k _ _ _ _ (T2.weak (le_refl _) (o0) (le_refl _))
 ·exact k _ _ _ _ (T.weak (le_refl _) (o0) (o0))
 ·exact jc9 (m:=m+2) T ⟨t,mt,rfl⟩ (o54 hf) fun au T2=>k _ _ _ _ (T2.weak (le_refl _) (ju4) (o0))
 ·exact jfR (m:=m) V hne fun v hv=>jnI (m:=m+2) T (jyA) (jyB) (jqg hv) fun w au ls2 T2=>k _ _ _ _ (T2.weak (le_refl _) (o0) (o0))
 ·generalize hy':y/((H.th.map fun t=>PV.ref t.loc).length:Int)=y' at hlt ⊢
  have e1:=emod_nonneg (y'/12) (b:=t.size) (jyC tsz)
  have e2:=emod_lt_of_pos (y'/12) (b:=t.size) (jt3 tsz)
  exact jnI (m:=m+2) (v:=.pl (t.addr+y'/12%t.size) false) T jsP (emod_lt_of_pos y' (by decide)) ⟨t,mt,by unfold jcb;exact jyD e1 e2⟩ fun w au ls2 T2=>k _ _ _ _ (T2.weak (le_refl _) (o0) (o0))
theorem jmh{m:Nat}{Y:AHeap}{h lr a f c:Nat}{H:Hp}{ls:List (Nat×List Val)}{op y:Int}{Q:PV->AHeap->Prop}(T:Stt Y h lr a f c H ls)(ha:a<90)(hf:f<900)(hc:c<900)(h3:3*a<=c)
  (k: ∀r Y' H' ls',Stt Y' h lr (a+1) (f+1) (c+3) H' ls'->Q r Y'):C (m+11) 58 [.ref h,.ref lr,.int op,.int y] Y Q:=
 jap rfl rfl (cD (fun _=>jkC (m:=m+6) T ha hf fun r Y' H' ls' T'=>k _ _ _ _ (T'.weak (le_refl _) (le_refl _) (jt4)))
  fun _=>cD (fun _=>jdX (m:=m) T (o54 hf) h3 fun H' ls' r Y' T' _=>k _ _ _ _ (T'.weak (o0) (o0) (jt4)))
  fun _=>jkD (m:=m+6) T hf hc fun r Y' H' ls' T'=>k _ _ _ _ (T'.weak (o0) (le_refl _) (jyE)))
section
variable{Y:AHeap}{l m:Nat}{o x:PObj}
theorem jdg:((Y.alloc o).set l x).sz=Y.sz+1:=by rw[jan,jai]
theorem jdj(h:l≠m)(h2:m<Y.sz):((Y.alloc o).set l x).get m=Y.get m:=by rw[jaa h,jae h2]
theorem jhX(e:m=Y.sz)(h:l≠m):((Y.alloc o).set l x).get m=some o:=by rw[jaa h,e,get_alloc_new]
theorem jpj(h:l<Y.sz):((Y.alloc o).set l x).get l=some x:=jad (by rw[jai];exact o7 h)
end
noncomputable def H0(l z:Nat)(lim bits:Int):Hp:=⟨l,z,z+1,z+2,z+3,z+4,[],[],16,lim,bits,0,lim/4+1,0,0,[],[],[]⟩
theorem jkI{m:Nat}{l:Nat}{lim bits:Int}{Y:AHeap}{Q:PV->AHeap->Prop}(h:Y.get l=some (.inst .heap [none,none,none,none,none,none,none,none,none,none,none,none]))
  (k: ∀Y',Hv Y' (H0 l Y.sz lim bits)->Chg [l] Y Y'->Q .none Y'):C (m+1) 80 [.ref l,.int lim,.int bits] Y Q:=by
 have hl:=jac h
 have w2:Y.sz+1+1=Y.sz+2:=by exact jyF
 have w3:Y.sz+2+1=Y.sz+3:=by exact jyG
 have w4:Y.sz+3+1=Y.sz+4:=by exact jyH
 have n0:l≠Y.sz:=by exact o1 hl
 have n1:l≠Y.sz+1:=by exact o23 hl
 have n2:l≠Y.sz+2:=by exact jyI hl
 have n3:l≠Y.sz+3:=by exact jyJ hl
 have n4:l≠Y.sz+4:=by exact jyK hl
 have g: ∀{aO:AHeap} {o},l<aO.sz->(aO.set l o).get l=some o/\l<(aO.set l o).sz:=fun h=>⟨jad h,by rw[jan];exact h⟩
 have ga: ∀{aO:AHeap} {o x},(aO.get l=some x/\l<aO.sz)->(aO.alloc o).get l=some x/\l<(aO.alloc o).sz:=fun h=>⟨(jae h.2).trans h.1,by rw[jai];exact o7 h.2⟩
 have F0:Y.get l=some (.inst .heap [none,none,none,none,none,none,none,none,none,none,none,none])/\l<Y.sz:=⟨h,hl⟩
 refine jap rfl rfl<|rd (ga F0).1<|rd (ga (g (ga F0).2)).1<|rd (g (ga (g (ga F0).2)).2).1<|rd (g (g (ga (g (ga F0).2)).2).2).1<|rd (ga (g (g (g (ga (g (ga F0).2)).2).2).2)).1<|rd (g (ga (g (g (g (ga (g (ga F0).2)).2).2).2)).2).1<|rd (g (g (ga (g (g (g (ga (g (ga F0).2)).2).2).2)).2).2).1<|rd (g (g (g (ga (g (g (g (ga (g (ga F0).2)).2).2).2)).2).2).2).1<|rd (ga (g (g (g (g (ga (g (g (g (ga (g (ga F0).2)).2).2).2)).2).2).2).2)).1<|rd (ga (g (ga (g (g (g (g (ga (g (g (g (ga (g (ga F0).2)).2).2).2)).2).2).2).2)).2)).1<|rd (g (ga (g (ga (g (g (g (g (ga (g (g (g (ga (g (ga F0).2)).2).2).2)).2).2).2).2)).2)).2).1<|rd (g (g (ga (g (ga (g (g (g (g (ga (g (g (g (ga (g (ga F0).2)).2).2).2)).2).2).2).2)).2)).2).2).1<| ?_
 show Q .none _
 simp only[set_set]
 refine k _ ⟨?_,?_,?_,?_,?_,?_,fun t ht=>(by cases ht),⟨(by show(0:Nat)<100;decide),fun t ht=>(by cases ht)⟩⟩ ?_
 ·show AHeap.get _ l=_
  rw[jpj (by simp only[jdg];exact ju5 hl)]
  show some (PObj.inst Cls.heap [_,_,_,_,_,_,_,_,_,_,_,_])=_
  simp only[H0,w2,w3,w4,jdg]
 ·show AHeap.get _ Y.sz=_
  rw[jdj n0 (by simp only[jdg];exact jyL),jdj n0 (by simp only[jdg];exact jyM),jdj n0 (by simp only[jdg];exact o32),jdj n0 (by simp only[jdg];exact o2),jhX rfl n0];rfl
 ·show AHeap.get _ (Y.sz+1)=_
  rw[jdj n1 (by simp only[jdg];exact jyN),jdj n1 (by simp only[jdg];exact jyO),jdj n1 (by simp only[jdg];exact o47),jhX (by simp only[jdg]) n1];rfl
 ·show AHeap.get _ (Y.sz+2)=_
  rw[jdj n2 (by simp only[jdg];exact jyP),jdj n2 (by simp only[jdg];exact jyQ),jhX (by simp only[jdg]) n2];rfl
 ·show AHeap.get _ (Y.sz+3)=_
  rw[jdj n3 (by simp only[jdg];exact jyR),jhX (by simp only[jdg]) n3];rfl
 ·show AHeap.get _ (Y.sz+4)=_
  rw[jhX (by simp only[jdg]) n4];rfl
 ·exact((((((((((Chg.alloc _ _).to (.set (by simp))).to (.alloc _ _)).to (.set (by simp))).to (.alloc _ _)).to (.set (by simp))).to (.alloc _ _)).to (.set (by simp))).to (.alloc _ _)).to (.set (by simp)))
theorem jhi{m:Nat}{Y:AHeap}{h lr a f c:Nat}{H:Hp}{ls:List (Nat×List Val)}(T:Stt Y h lr a f c H ls){kd:Int}{xs:List PV}{s:List Val}{Q:PV->AHeap->Prop}(e:xs=s.map Val.pv)(hs: ∀v∈s,v=Val.ref 0)(hl:s.length<=3)(ha:a<90)
  (k: ∀t Y',t.slots=s->Stt Y' h lr (a+1) f c (jaD H t) ls->Q (.ref t.loc) Y'):C (m+3) 5 [.ref h,.int kd,.ref Y.sz] (Y.alloc (.list xs)) Q:=by
 have lt:=T.V.lt
 have lrlt:=jac T.L.lr
 refine jkB (s:=s) (T.p.ext (.alloc _ _)) (by rw[<- e];exact get_alloc_new) (by have:=T.K.lt;exact o77 this) (fun h=>by have:=lt _ h;exact o12 this) (o6 lrlt) (fun h=>?_) (fun v hv=>?_) hl (by have:=T.C.th;exact jtY ha this) fun t az e1 e2 e3 ad=>k t az e3 (T.alloc ad)
 ·refine jaj (mem_map.mp h) fun p hp e=>?_
  have:=jac (T.L.each p hp);exact jtZ e this
 ·rw[hs v hv];exact .inl rfl
theorem jni{H:Hp}{t:Th}(h:t∈H.th): ∃i:Nat,H.th[i]? =some t:=mem_iff_getElem?.mp h
theorem jkJ{m:Nat}{Y:AHeap}{h lr l0 l1:Nat}{H:Hp}{Q:PV->AHeap->Prop}(T0:Stp' Y h lr H [(l0,[.ref 0,.ref 0]),(l1,[.ref 0,.ref 0,.ref 0])])(e0:H.th= [])(et:H.top=16)(ef:H.fin= [])(er:H.rdy= [])(ec:H.cards= [])
  (k: ∀r Y' H' ls',Stt Y' h lr 5 2 15 H' ls'->Q r Y'):C (m+11) 77 [.ref h,.ref lr] Y Q:=by
 refine jap rfl rfl ?_
 have lt:=T0.V.lt
 have lrlt:=jac T0.L.lr
 have l0lt:=jac (T0.L.each (l0,[.ref 0,.ref 0]) (by simp))
 have l1lt:=jac (T0.L.each (l1,[.ref 0,.ref 0,.ref 0]) (by simp))
 dsimp only at l0lt l1lt
 refine jkB (m:=m+7) (s:=[.ref 0,.ref 0]) (T0.ext (.alloc _ _)) get_alloc_new (by have:=T0.K.lt;exact o77 this) (fun h=>by have:=lt _ h;exact o12 this) (o6 lrlt) (fun h=>by simp at h;exact jyS l0lt l1lt h) (fun v hv=>?_) (by simp) (by rw[e0];decide) fun ta aC _ ea1 ea2 U1=>?_
 ·have:v= .ref 0:=by simpa using hv
  rw[this];exact .inl rfl
 ·have ma:ta∈(jaD H ta).th:=mem_append_right _ (by simp)
  have hpa:=(U1.V.th ta ma).1
  have th1:(jaD H ta).th= [ta]:=by show H.th++ [ta]=_;rw[e0];rfl
  have lr1:=U1.L.lr
  have gl1:=U1.L.each (l1,[.ref 0,.ref 0,.ref 0]) (by simp)
  dsimp only at gl1
  rw[et]at ea1
  refine rd hpa (rd lr1 (rd gl1 ?_))
  have V1:=U1.V
  have T1:Stt (aC.set l1 (.list [Val.pv (.ref 0),Val.pv (.ref 0),.tup [.int 4,.int ta.addr]])) h lr 1 0 0 (jaD H ta) [(l0,[.ref 0,.ref 0]),(l1,[.ref 0,.ref 0,.ref 16])]:=by
   have hset:=U1.L.set U1.S.r2 U1.S.l2 (i:=1) (p:=(l1,[.ref 0,.ref 0,.ref 0])) rfl [.ref 0,.ref 0,.ref 16]
   refine⟨U1.hh,U1.V.keep (S:=[l1]) (.set (by simp)) fun l hl h=>U1.S.l1 l1 (by simp) (by rw[<- mem_singleton.mp h];exact hl),U1.I.reroot fun p hp v hv=>?_,U1.S.relist rfl,?_,⟨⟨ta,[],th1,by rw[ea2];rfl⟩,_,_,_,_,_,_,rfl⟩,⟨by rw[th1];simp,?_,?_⟩,U1.K.step (.set (S:=[l1]) (by simp)) (fun h=>U1.K.l (by rw[mem_singleton.mp h];simp)) (fun x hx=>.inl hx) rfl⟩
   ·have r0:jfG (jaD H ta) (.ref 0):=.inl rfl
    have r16:jfG (jaD H ta) (.ref 16):=.inr ⟨ta,ma,ea1⟩
    simp only[mem_cons,not_mem_nil,or_false]at hp
    rcases hp with rfl | rfl
    ·have:v= .ref 0:=by simpa using hv
     rw[this];exact r0
    ·simp only[mem_cons,not_mem_nil,or_false]at hv
     rcases hv with rfl | rfl | rfl
     ·exact r0
     ·exact r0
     ·exact r16
   ·have e:(map Val.pv [.ref 0,.ref 0,.ref 16])= [Val.pv (.ref 0),Val.pv (.ref 0),.tup [.int 4,.int ta.addr]]:=by rw[ea1];rfl
    rw[<- e]
    exact hset
   ·show H.fin.length+H.rdy.length<=0
    rw[ef,er];decide
   ·show H.cards.length<=0
    rw[ec];decide
  generalize jaD H ta=H1 at T1 th1
  refine jhi (m:=m+7) (s:=[.ref 0]) T1 (by rfl) (by simp) (by simp) (by decide) fun tb au eb T2=>?_
  have mb:tb∈(jaD H1 tb).th:=mem_append_right _ (by simp)
  have hpb:=(T2.V.th tb mb).1
  have hi2:(jaD H1 tb).th[0]? =some ta:=by show(H1.th++ [tb])[0]? =_;rw[th1];rfl
  have h1b:(jaD H1 tb).th[1]? =some tb:=by show(H1.th++ [tb])[1]? =_;rw[th1];rfl
  refine rd hpb ?_
  refine jhv (m:=m+7) (k:=0) (v:=.ref tb.addr) T2 hi2 (by rw[ea2];decide) (.inr ⟨tb,mb,rfl⟩) (by decide) fun az T3=>?_
  have mb3:tb∈(jbn (jaD H1 tb) 0 ta 0 (.ref tb.addr)).th:=by
   refine mem_iff_getElem?.mpr ⟨1,?_⟩
   show((jaD H1 tb).th.set 0 _)[1]? =_
   rw[getElem?_set_ne (by decide)];exact h1b
  have ma3:{ta with slots:=ta.slots.set 0 (.ref tb.addr)}∈(jbn (jaD H1 tb) 0 ta 0 (.ref tb.addr)).th:=by
   refine mem_iff_getElem?.mpr ⟨0,?_⟩
   show((jaD H1 tb).th.set 0 _)[0]? =_
   have hil:=(List.getElem?_eq_some_iff.mp hi2).1
   rw[getElem?_set,if_pos rfl,if_pos hil]
  have hpb3:=(T3.V.th tb mb3).1
  generalize hA3:jbn (jaD H1 tb) 0 ta 0 (.ref tb.addr)=H3 at T3 mb3 ma3 hpb3
  refine rd hpb3 ?_
  refine jc9 (m:=m+9) T3 ⟨tb,mb3,rfl⟩ (by decide) fun ay T4=>?_
  refine jdX (m:=m) (c:=6) (T4.weak (le_refl _) (le_refl _) (by decide)) (by decide) (by decide) fun H5 ls5 r5 aM T5 k5=>?_
  refine jkV (k5 {ta with slots:=ta.slots.set 0 (.ref tb.addr)} ma3 ⟨(l1,[.ref 0,.ref 0,.ref 16]),by simp,by show Val.ref ta.addr∈_;rw[ea1];simp⟩) fun u5 mu5 e51 e52 e53=>?_
  refine jdX (m:=m) (c:=6) T5 (by decide) (by decide) fun H6 ls6 r6 aN T6 k6=>?_
  refine jkV (k6 u5 mu5 e53) fun u6 mu6 e61 e62 e63=>?_
  have el6:ta.loc=u6.loc:=by rw[e61,e51]
  have es6:u6.slots.length=2:=by rw[e62,e52,length_set,ea2];rfl
  refine jhi (m:=m+7) (s:=[]) T6 (by rfl) (by simp) (by simp) (by decide) fun tc aS ec T7=>?_
  have mc:tc∈(jaD H6 tc).th:=mem_append_right _ (by simp)
  have mu7:u6∈(jaD H6 tc).th:=mem_append_left _ mu6
  have hpc:=(T7.V.th tc mc).1
  obtain⟨i7,hi7⟩:=jni mu7
  refine rd hpc ?_
  refine jdY (m:=m+8) ?_
  rw[el6]
  refine jhv (m:=m+7) (k:=1) (v:=.two 0 tc.addr) T7 hi7 (jyT es6) ⟨.inl rfl,.inr ⟨tc,mc,rfl⟩⟩ (by decide) fun bl T8=>?_
  generalize hA8:jbn (jaD H6 tc) i7 u6 1 (.two 0 tc.addr)=H8 at T8
  refine jhi (m:=m+7) (s:=[.ref 0]) T8 (by rfl) (by simp) (by simp) (by decide) fun td bC ed T9=>?_
  have md:td∈(jaD H8 td).th:=mem_append_right _ (by simp)
  have hpd:=(T9.V.th td md).1
  refine joW T9.F.ls fun m0 m1 va vb vc vd els=>?_
  have lr9:=T9.L.lr
  have gl9:=T9.L.each (m0,[va,vb]) (by rw[els];simp)
  rw[els]at lr9
  have go:=T9.root (i:=0) (j:=0) (p:=(m0,[va,vb])) (v:=.ref td.addr) (by rw[els];rfl) (by decide) (.inr ⟨td,md,rfl⟩)
  dsimp only at gl9 go
  refine rd hpd (rd lr9 (rd gl9 ?_))
  refine jdX (m:=m) (c:=12) (go.weak (le_refl _) (le_refl _) (by decide)) (by decide) (by decide) fun H10 ls10 r10 cR T10 k10=>?_
  refine jkV (k10 td md ⟨(m0,[.ref td.addr,vb]),by rw[els];simp,by simp⟩) fun u10 mu10 f1 f2 f3=>?_
  have es10:u10.slots.length=1:=by rw[f2,ed];rfl
  refine jhi (m:=m+7) (s:=[.ref 0,.ref 0,.ref 0]) T10 (by rfl) (by simp) (by simp) (by decide) fun te dF ee T11=>?_
  have me:te∈(jaD H10 te).th:=mem_append_right _ (by simp)
  have mu11:u10∈(jaD H10 te).th:=mem_append_left _ mu10
  have hpe:=(T11.V.th te me).1
  refine rd hpe ?_
  refine jc9 (m:=m+9) T11 ⟨te,me,rfl⟩ (by decide) fun dG T12=>?_
  have hpe2:=(T12.V.th te me).1
  obtain⟨i12,hi12⟩:=jni mu11
  refine rd hpe2 ?_
  rw[<- f1]
  refine jhv (m:=m+7) (k:=0) (v:=.ref te.addr) T12 hi12 (jyU es10) (.inr ⟨te,me,rfl⟩) (by decide) fun dH T13=>?_
  exact k _ _ _ _ (T13.weak (le_refl _) (by decide) (by decide))
end
noncomputable section
noncomputable def jm8:Int->List Th->Int
 | g,[]=>g
 | _,t::r=>jm8 t.gen r
theorem jbl{H:Hp}{R:List Th}: ∀{A:List Th} {e g:Int},Lay e g A->(∀ a∈A,(H.at_.lookup a.addr).isSome=true)->jaP H (A++R) e g=jaP H R (jca e A) (jm8 g A)
 | [],_,_,_,_=>rfl
 | t::r,e,g,h,ha=>by
  refine jmz h fun h1 h2 h3 h4 h5 h6=>?_;clear h
  rw[cons_append,jaP,if_neg (jt5 h1),if_neg (o17 h2),if_neg (by rw[ha t (by simp)];decide)]
  simp only[nil_append,jca,jm8]
  rw[h1]
  exact jbl h6 fun a h=>ha a (.tail _ h)
theorem jb2: ∀{A B:List Th} {e g:Int} {t:Th},Lay e g (A++t::B)->Lay e g A/\t.addr=jca e A/\t.gen<=jm8 g A/\0<=t.gen/\t.size=szF t.slots.length/\t.slots.length<=3/\Lay (jca e A+t.size) t.gen B
 | [],B,e,g,t,h=>by
  refine jmz h fun h1 h2 h3 h4 h5 h6=>?_;clear h
  exact⟨trivial,h1,h2,h3,h4,h5,h6⟩
 | u::r,B,e,g,t,h=>by
  refine jmz h fun h1 h2 h3 h4 h5 h6=>?_;clear h
  obtain⟨q1,q2⟩:=jb2 h6
  exact⟨⟨h1,h2,h3,h4,h5,q1⟩,q2⟩
noncomputable def jmq(H:Hp)(e2 e' g':Int)(B:List Th):List Str:=match B with
 | []=>if e'>H.top then [jjI]else []
 | b::_=>(if b.addr<e' then [jcI b.addr]else [])++(if b.gen>g' then [jmg b.addr]else [])++(if jca e2 B>H.top then [jjI]else [])
theorem jfw{H:Hp}: ∀{B:List Th} {e2 g2 e' g':Int},Lay e2 g2 B->(∀ a∈B,(H.at_.lookup a.addr).isSome=true)->jaP H B e' g'=jmq H e2 e' g' B
 | [],_,_,_,_,_,_=>rfl
 | b::r,e2,g2,e',g',h,ha=>by
  refine jmz h fun h1 h2 h3 h4 h5 h6=>?_;clear h
  have:=jbl (R:=[]) h6 fun a h=>ha a (.tail _ h)
  rw[append_nil]at this
  have e:b.addr+b.size=e2+b.size:=by rw[h1]
  rw[jaP,if_neg (c:=(H.at_.lookup b.addr).isSome=false) (by rw[ha b (by simp)];decide),e,this]
  unfold jmq
  simp only[append_nil,jaP,jca]
  rfl
theorem jjf{H:Hp}{B:List Th}{e g:Int}(h:Lay e g B)(ha: ∀a∈B,(H.at_.lookup a.addr).isSome=true)(ht:jca e B<=H.top):jaP H B e g= []:=by
 have:=jbl (R:=[]) h ha
 rw[append_nil]at this
 rw[this,jaP,if_neg (o17 ht)]
theorem jcp: ∀{th:List Th} {s:List Int},(th.Pairwise fun a b=>a.addr≠b.addr)->(∀ t∈th,t.addr∉s)->jbo th s= []
 | [],_,_,_=>rfl
 | t::r,s,h,hs=>by
  obtain⟨p1,p2⟩:=pairwise_cons.mp h
  rw[jbo,if_neg (by have:=hs t (by simp);simpa using this),nil_append]
  refine jcp p2 fun u hu hm=>?_
  rcases putC_in.mp hm with h | h
  ·exact hs u (.tail _ hu) h
  ·exact p1 u hu h.symm
theorem jgL: ∀{A B:List Th} {s:List Int},jbo (A++B) s=jbo A s++jbo B (jdh A s)
 | [],_,_=>rfl
 | t::r,B,s=>by
  rw[cons_append,jbo,jbo,jdh,jgL,append_assoc]
theorem seenF_in{a:Int}{th:List Th}{s:List Int}:a∈jdh th s<->a∈s\/∃t∈th,t.addr=a:=by
 have:=jfI (a:=a) (th:=th) (s:=s)
 rw[<- contains_iff_mem,this,or_eq_true,contains_iff_mem,contains_iff_mem,mem_map]
theorem jfN{l:List Int}{p:Int->Bool}{a:Int}(h:l.filter p= [a]):(jba l).filter p= [a]:=by
 have:=(jdb l).filter p
 rw[h]at this
 exact List.perm_singleton.mp this
theorem jb3{H:Hp}{v:Val}{who:Str}(h: ∀w∈jaf v,jaW H v w=true):bvF H v who= []:=by
 unfold bvF
 rw[filter_eq_nil_iff.mpr fun w hw=>by rw[h w hw];decide]
 rfl
theorem jaO{H H':Hp}(ha: ∀t∈H.th,(H'.at_.lookup t.addr).isSome=true){v:Val}(hv:jfX H v): ∀w∈jaf v,jaW H' v w=true:=fun w hw=>by
 have hr:=jcn hv w hw
 unfold jaW
 rw[if_neg]
 ·rcases hr with rfl | ⟨t,ht,rfl⟩
  ·simp
  ·rw[ha t ht];simp
 ·cases v with
  | pl w z=>exact hv.elim
  | lc=>exact hv.elim
  | _=>simp[jga]
theorem jct{ah aR:Type}{f:ah->List aR}{l:List ah}(h: ∀x∈l,f x= []):l.flatMap f= []:=by
 rw[List.flatMap_eq_nil_iff];exact h
theorem jle{H:Hp}{l:List Int}(h: ∀a∈l,(H.at_.lookup a).isSome=true):jhf H l= []:=by
 unfold jhf
 rw[filter_eq_nil_iff]
 intro a ha
 rw[h a ha];decide
theorem jfD{H H':Hp}{ls:List (Nat×List Val)}(ha: ∀t∈H.th,(H'.at_.lookup t.addr).isSome=true)(hr: ∀p∈ls,∀v∈p.2,jfG H v)(hp: ∀p∈ls,∀w z,Val.pl w z∈p.2->(ja8 H' w).isSome=true):jaJ H' ls= []:=by
 unfold jaJ
 refine jct fun p hpm=>jct fun v hv=>jb3 ?_
 have h:=hr p hpm v hv
 cases v with
 | pl w z=>
  intro w' hw'
  simp[jaf]at hw'
  unfold jaW
  rw[if_pos (show jga (.pl w z)=true from rfl),hw']
  exact hp p hpm w z hv
 | ref a=>exact jaO ha (v:=.ref a) h
 | i4 a=>exact jaO ha (v:=.i4 a) h
 | one a=>exact jaO ha (v:=.one a) h
 | two a b=>exact jaO ha (v:=.two a b) h
 | lc=>exact jaO ha (v:=.lc) h
theorem jlw{H H':Hp}(ha: ∀t∈H.th,(H'.at_.lookup t.addr).isSome=true)(hs: ∀t∈H'.th,∀v∈t.slots,jfX H v):jcT H'= []:=by
 unfold jcT
 exact jct fun t ht=>jct fun v hv=>jb3 (jaO ha (hs t ht v hv))
theorem jhb{H H':Hp}{ls:List (Nat×List Val)}(I:Inv H ls)(ha: ∀t∈H.th,(H'.at_.lookup t.addr).isSome=true)(hf:H'.fin=H.fin)(hr:H'.rdy=H.rdy):jqM H'= []:=by
 unfold jqM
 rw[hf,hr,jle fun a h=>?_,jle fun a h=>?_]
 ·rfl
 ·refine jaj (I.rdy a h) fun t ht zq2=>?_;subst zq2
  exact ha t ht
 ·refine jaj (I.fin a h) fun t ht zq3=>?_;subst zq3
  exact ha t ht
theorem jbK{H:Hp}(ha:jhP H)(d:Dj3 H.th): ∀t∈H.th,(H.at_.lookup t.addr).isSome=true:=fun t ht=>by
 rw[jgP ha,jfU d ht];rfl
theorem jbg{H:Hp}(ha:jhP H){w:Int}(h: ∀t∈H.th,t.addr≠w):H.at_.lookup w=none:=by
 rw[jgP ha,jjz h];rfl
structure Cln (H H':Hp) (ls:List (Nat×List Val)):Prop where
 th: ∀t∈H'.th,∀v∈t.slots,jfX H v
 at_: ∀t∈H.th,(H'.at_.lookup t.addr).isSome=true
 pl: ∀p∈ls,∀w z,Val.pl w z∈p.2->(ja8 H' w).isSome=true
 fin:H'.fin=H.fin
 rdy:H'.rdy=H.rdy
theorem Cln.check{H H':Hp}{ls:List (Nat×List Val)}(C:Cln H H' ls)(I:Inv H ls):jaC H' ls=jaP H' H'.th 16 2++jbz H':=by
 unfold jaC
 rw[jfD C.at_ I.roots C.pl,jlw C.at_ C.th,jhb I C.at_ C.fin C.rdy]
 simp
section
variable{H:Hp}{ls:List (Nat×List Val)}
theorem jqV(I:Inv H ls){a:Int}(h:jcJ H a):In a:=by
 rcases h with rfl | ⟨t,ht,rfl⟩
 ·unfold In;exact o79
 ·exact(I.in_ t ht).1
theorem jdq(I:Inv H ls){v:Val}(h:jfX H v): ∀w∈jaf v,In w:=fun w hw=>jqV I (jcn h w hw)
theorem jhQ(I:Inv H ls){v:Val}(h:jfG H v): ∀w∈jaf v,In w:=fun w hw=>by
 cases v with
 | pl p z=>
  refine jaj h fun t ht hi=>?_;clear h
  simp[jaf]at hw
  have:=I.in_ t ht
  unfold jcb at hi
  unfold In;exact jyV hi hw this
 | ref a=>exact jdq I (v:=.ref a) h w hw
 | i4 a=>exact jdq I (v:=.i4 a) h w hw
 | one a=>exact jdq I (v:=.one a) h w hw
 | two a b=>exact jdq I (v:=.two a b) h w hw
 | lc=>exact jdq I (v:=.lc) h w hw
theorem je0(I:Inv H ls): ∀a∈H.fin,In a:=fun a ha=>by
 refine jaj (I.fin a ha) fun t ht zq4=>?_;subst zq4
 exact(I.in_ t ht).1
theorem je1(I:Inv H ls): ∀a∈H.rdy,In a:=fun a ha=>by
 refine jaj (I.rdy a ha) fun t ht zq5=>?_;subst zq5
 exact(I.in_ t ht).1
theorem jgM(I:Inv H ls): ∀p∈H.at_,In p.1:=fun p hp=>by
 rw[show H.at_=_ from I.at_]at hp
 refine jaj (mem_map.mp hp) fun t ht zq6=>?_;subst zq6
 exact(I.in_ t ht).1
theorem jdH(I:Inv H ls):H.at_.length=H.th.length:=by
 rw[show H.at_=_ from I.at_,length_map]
theorem Cln.bd{H':Hp}(C:Cln H H' ls)(I:Inv H ls)(h1: ∀t∈H'.th,In t.addr)(h2: ∀p∈H'.at_,In p.1)(h3:H'.at_.length<64)(h4:H.fin.length+H.rdy.length<1000)(z:(jaC H' ls).length<100000):Bd H' ls:=
 ⟨h1,h2,h3,fun p hp v hv=>jhQ I (I.roots p hp v hv),fun t ht v hv=>jdq I (C.th t ht v hv),by rw[C.fin];exact je0 I,by rw[C.rdy];exact je1 I,by rw[C.fin];exact jt6 h4,by rw[C.rdy];exact jt7 h4,z⟩
theorem jgv(I:Inv H ls):jbz H= []:=by
 unfold jbz
 rw[jcp I.apart (fun t _ h=>by cases h),nil_append]
 unfold jlX
 rw[List.map_eq_nil_iff,filter_eq_nil_iff]
 intro a ha
 have:=sortI_mem.mp ha
 rw[show H.at_=_ from I.at_,map_map]at this
 refine jaj (mem_map.mp this) fun t ht zq7=>?_;subst zq7
 have:t.addr∈H.th.map (·.addr):=mem_map_of_mem ht
 simpa using this
theorem jfx(I:Inv H ls): ∀p∈ls,∀w z,Val.pl w z∈p.2->∃t∈H.th,jcb t w:=fun p hp w z hv=>I.roots p hp _ hv
end
theorem Chg.back{S:List Nat}{Y Y':AHeap}{x:Nat}{o:PObj}(c:Chg (x::S) Y Y')(h:Y.get x=some o):Chg S Y (Y'.set x o):=by
 have hx:=jac h
 refine⟨by rw[jan];exact c.1,fun l hl hn=>?_⟩
 by_cases e:x=l
 ·subst e
  rw[jad (by have:=c.1;exact jtI hx this),h]
 ·rw[jaa e]
  exact c.2 l hl fun hm=>by
   rcases mem_cons.mp hm with h | h
   ·exact e h.symm
   ·exact hn h
theorem jop(s:Str):(PV.str s).flatEq (.str s)=some true:=by
 show some (decide (s=s))=some true
 simp
theorem jk4(p:Th×Nat):(jfE p).flatEq (jfE p)=some true:=by
 show(match some (decide (p.1.addr=p.1.addr)),(match some (decide ((p.2:Int)=p.2)),some true with | some a,some b=>some (a&&b) | _,_=>none)with | some a,some b=>some (a&&b) | _,_=>none)=some true
 simp
theorem jgs: ∀{xs:List PV},(∀ x∈xs,x.flatEq x=some true)->jko xs xs=some true
 | [],_=>rfl
 | x::r,h=>by
  have ih:=jgs (xs:=r) fun y hy=>h y (.tail _ hy)
  unfold jko at ih ⊢
  rw[jbE,h x (by simp),ih]
  rfl
theorem jeR{l r:Nat}{xs:List PV}{Y:AHeap}{K:Bool->Prop}(hne:l≠r)(h1:Y.get l=some (.list xs))(h2:Y.get r=some (.list xs))(hf: ∀x∈xs,x.flatEq x=some true)(k:K true):Sl (jl6 (.ref l) (.ref r) Y K):=by
 refine .mk ?_
 show l≠r/\(match Y.get l,Y.get r with
  | some (.list xs),some (.list ys)=>(match jfo xs ys with
   | some e=>K e
   | _=>False)
  | _,_=>False)
 have hle:jfo xs xs=some true:=by unfold jfo;rw[if_pos rfl,jgs hf]
 rw[h1,h2]
 dsimp only
 rw[hle]
 exact⟨hne,k⟩
theorem ja2{l r:Nat}{xs:List Str}{Y:AHeap}{K:Bool->Prop}(hne:l≠r)(h1:Y.get l=some (.list (xs.map .str)))(h2:Y.get r=some (.list (xs.map .str)))(k:K true):Sl (jl6 (.ref l) (.ref r) Y K):=
 jeR hne h1 h2 (fun x hx=>by refine jaj (mem_map.mp hx) fun s _ zq8=>?_;subst zq8;exact jop s) k
noncomputable def rootPre:Str:=Str.ofString "a root refers to "
theorem jfC(w:Int):jdF jaS w=rootPre++sOf w:=by
 unfold jdF
 have:jaS++Str.ofString " refers to "=rootPre:=by decide +kernel
 rw[this]
theorem jfz{w:Int}(h:In w):rootPre.length+(sOf w).length<=sizeLine:=jaz (s:="a root refers to ") (by decide) h
noncomputable def jaU:Val->List Int
 | .ref a=>[a]
 | .one a=>[a]
 | .two a b=>[a,b]
 | _=>[]
noncomputable def je2(m:Nat)(p:PV)(f:List Int):Prop:=∀(Y:AHeap) (Q:PV->AHeap->Prop),(∀ l Y',Chg [] Y Y'->Y.sz<=l->Y'.get l=some (.list (f.map .int))->Q (.ref l) Y')->C m 60 [p] Y Q
theorem jlg{m:Nat}{a:Int}:je2 (m+1) (jkz a) [a]:=fun Y Q k=>jap rfl rfl (k _ _ (.alloc _ _) (le_refl _) get_alloc_new)
theorem jpQ{m:Nat}{a:Int}:je2 (m+1) (.tup [.int 1,.int a]) []:=fun Y Q k=>jap rfl rfl (k _ _ (.alloc _ _) (le_refl _) get_alloc_new)
theorem jlf{m:Nat}{x:PV}:je2 (m+1) (.tup [.int 6,x]) []:=fun Y Q k=>jap rfl rfl (k _ _ (.alloc _ _) (le_refl _) get_alloc_new)
theorem jfq{m:Nat}{p q:PV}{f g:List Int}{kd:Int}(hp:je2 (m+1) p f)(hq:je2 (m+1) q g)(hf:f.length<100)(hg:g.length<100):je2 (m+2) (.tup [.int 5,.int kd,.tup [p,q]]) (f++g):=fun Y Q k=>
 jap rfl rfl<| .un [p,q] (fun _=>rfl)<|hp _ _ fun l1 aC c1 hl1 g1=>rd (c1.get0 get_alloc_new)<|rd g1<|gI (by rw[length_map];exact le_of_lt (lt_of_le_of_lt (Nat.le_of_eq (Nat.zero_add _)) (jas (o3 hf))))<|
  hq _ _ fun l2 au c2 hl2 g2=>rd (c2.get0 get_alloc_new)<|rd g2<|gI (by
   show([]++f.map PV.int).length+(g.map PV.int).length<=sizeLine
   rw[nil_append,length_map,length_map];exact ja4 (by walk_at "o"))<|
   k _ _ ((((Chg.alloc _ _).to c1).to ((Chg.alloc _ _).to c2)).to (.alloc _ _)) (((Chg.alloc _ _).to c1).to ((Chg.alloc _ _).to c2)).1 (get_alloc_new.trans (by rw[map_append];rfl))
theorem jek{m:Nat}{v:Val}:je2 (m+3) v.pv (jaU v):=by
 cases v with
 | ref a=>exact jlg
 | i4 a=>exact jpQ
 | pl w z=>exact jlf
 | lc=>exact jlf
 | one a=>exact jfq (f:=[]) (g:=[a]) jpQ jlg (by simp) (by simp)
 | two a b=>
  exact jfq (f:=[a]) (g:=[b]) jlg (jfq (f:=[]) (g:=[b]) jpQ jlg (by simp) (by simp)) (by simp) (by simp)
noncomputable def jn8(w:Int):Val->Bool
 | .pl p _=>decide (p=w)
 | _=>false
noncomputable def byF(cells:List Val)(w:Int):List Str:=(cells.filter (jn8 w)).map fun _=>jdF jaS w
theorem joe(w:Int)(v:Val):(∃ p z,v= .pl p z)\/v= .lc\/∃tag r,v.pv= .tup (.int tag::r)/\tag≠6/\jn8 w v=false:=by
 cases v with
 | ref a=>exact .inr (.inr ⟨4,_,rfl,by decide,rfl⟩)
 | i4 a=>exact .inr (.inr ⟨1,_,rfl,by decide,rfl⟩)
 | one a=>exact .inr (.inr ⟨5,_,rfl,by decide,rfl⟩)
 | two a b=>exact .inr (.inr ⟨5,_,rfl,by decide,rfl⟩)
 | pl p z=>exact .inl ⟨p,z,rfl⟩
 | lc=>exact .inr (.inl rfl)
def byJ(lr:Nat)(w:Int)(Y aC:AHeap)(cells:List Val)(i:Nat)(Z':jao)(Y':AHeap):Prop:=∃x,Z'= [some (.ref lr),some (.int w),some (.ref Y.sz),x]/\Acc Y Y.sz (byF (cells.take i) w) Y'/\Chg [Y.sz] aC Y'
theorem jok{w:Int}{cells:List Val}{i:Nat}{v:Val}(h:cells[i]? =some v):byF (cells.take (i+1)) w=byF (cells.take i) w++if jn8 w v=true then [jdF jaS w]else []:=by
 unfold byF;rw[jbL h,jfr]
theorem jeA{m:Nat}{lr l0 l1:Nat}{r0 r1:List Val}{w:Int}{Y:AHeap}{Q:PV->AHeap->Prop}(L:Lv Y lr [(l0,r0),(l1,r1)])(hz:r0.length+r1.length<1000)(hw:In w)
  (k: ∀l Y',Acc Y l (byF (r0++r1) w) Y'->Q (.ref l) Y'):C (m+1) 62 [.ref lr,.int w] Y Q:=by
 have szl:=(by decide:(100200:Nat)<sizeLine)
 have L1:=L.ext (.alloc [] (.list []))
 have g0:=L1.each (l0,r0) (by simp)
 have g1:=L1.each (l1,r1) (by simp)
 refine jap rfl rfl (rd L1.lr (rd L1.lr (rd g0 (rd g1 (gI (by rw[length_map,length_map];exact jyW hz szl) (jcr (f:=Val.pv) (r0++r1) (byJ lr w Y _ (r0++r1)) (fun i Z' Y' zh=>by refine jcs zh fun _ _ _ c=>(c.get get_alloc_new (by rw[jai];simp)).trans (by rw[map_append])) ⟨none,rfl,Acc.start.next (.alloc _ _),.refl _ _⟩ ?_ ?_))))))
 ·intro i v Z' Y' hv zu3;refine jcs zu3 fun y zq4 A c=>?_;clear zu3;subst zq4
  have hlen:(byF ((r0++r1).take i) w).length<=(r0++r1).length:=by
   unfold byF;rw[length_map];exact jcQ _ _ _
  rw[length_append]at hlen
  have K: ∀ai,Acc Y Y.sz (byF ((r0++r1).take i) w++if jn8 w v=true then [jdF jaS w]else []) ai->Chg [Y.sz] Y' ai->byJ lr w Y ((Y.alloc (.list [])).alloc (.list (r0.map Val.pv++r1.map Val.pv))) (r0++r1) (i+1) [some (.ref lr),some (.int w),some (.ref Y.sz),some v.pv] ai:=fun ai A2 c2=>⟨_,rfl,by rw[jok hv];exact A2,c.to c2⟩
  have no:jn8 w v=false->byJ lr w Y ((Y.alloc (.list [])).alloc (.list (r0.map Val.pv++r1.map Val.pv))) (r0++r1) (i+1) [some (.ref lr),some (.int w),some (.ref Y.sz),some v.pv] Y':=fun h=>K _ (by rw[if_neg (by rw[h];decide),append_nil];exact A) (.refl _ _)
  rcases joe w v with ⟨p,z,rfl⟩ | rfl | ⟨tag,r,e,ht,h⟩
  ·have h1:=jfz hw
   unfold rootPre at h1
   refine cB (fun h=>rd A.at_ (sI hw (gI h1 (rd A.at_ (gI (rl (o19 (jyX hz szl hlen))) ?_))))) fun h=>no ?_
   ·have:=K _ (by rw[if_pos (by simpa [jn8]using h)];exact A.put _) (.set in1)
    rw[jfC]at this
    exact this
   ·simpa [jn8]using h
  ·exact no rfl
  ·rw[e]at no ⊢
   exact cD (fun x=>absurd x ht) fun _=>no h
 ·intro Z' Y' zu6;refine jcs zu6 fun y zq7 A c=>?_;clear zu6;subst zq7
  rw[take_length]at A
  exact k _ _ A
theorem jhd: ∀{is:List Int},jcR (is.map .int)=some is
 | []=>rfl
 | a::r=>by
  rw[map_cons,jcR,jhd];rfl
theorem jsO{l r:Nat}{is js:List Int}{Y:AHeap}{K:Bool->Prop}(h1:Y.get l=some (.list (is.map .int)))(h2:Y.get r=some (.list (js.map .int)))(k:K (decide (is≠js))):Sl (jmx (.ref l) (.ref r) Y K):=by
 refine .mk ?_
 show(match Y.get l,Y.get r with
  | some (.list xs),some (.list ys)=>(match jcR xs,jcR ys with
   | some is,some js=>K (decide (is≠js))
   | _,_=>False)
  | _,_=>False)
 rw[h1,h2]
 simp only[jhd]
 exact k
noncomputable def jiX(th:List Th):List (Int×Int):=th.map fun t=>(t.addr,t.gen)
theorem ji3: ∀{th:List Th} {a:Int},(jiX th).lookup a=(jcK th a).map (·.gen)
 | [],_=>rfl
 | t::r,a=>by
  have ih:=ji3 (th:=r) (a:=a)
  unfold jiX jcK at ih ⊢
  rw[map_cons,lookup_cons,find?_cons]
  by_cases h:t.addr=a
  ·subst h;simp
  ·have:(a==t.addr)=false:=by simpa using (Ne.symm h)
   simp only[this,h,decide_false]
   exact ih
theorem jnT{th:List Th}{a:Int}(h: ∃t∈th,t.addr=a): ∃u,jcK th a=some u:=by
 cases e:jcK th a with
 | some u=>exact⟨u,rfl⟩
 | none=>
  revert h;intro zo8;refine jaj zo8 fun t ht h=>?_;clear zo8
  have:=List.find?_eq_none.mp e t ht
  simp[h]at this
noncomputable def joa(H:Hp)(t:Th)(a:Int):Bool:= !decide (a=0)&&yng H t.gen a
noncomputable def jo4(H:Hp)(t:Th)(v:Val):List Int:=(jaU v).filter (joa H t)
theorem jpO{H:Hp}{t:Th}{v:Val}:decide (jo4 H t v≠ [])=jbA H t.gen v:=by
 have key: ∀a,joa H t a=(!decide (a=0)&&yng H t.gen a):=fun a=>rfl
 cases v with
 | i4 n=>rfl
 | pl w z=>rfl
 | lc=>rfl
 | ref a=>
  simp only[jo4,jaU,filter_cons,filter_nil,key,jbA,jal]
  by_cases h:a=0
  ·simp[h]
  ·cases hy:yng H t.gen a<;>simp[h,hy]
 | one a=>
  simp only[jo4,jaU,filter_cons,filter_nil,key,jbA,jal]
  by_cases h:a=0
  ·simp[h]
  ·cases hy:yng H t.gen a<;>simp[h,hy]
 | two a b=>
  simp only[jo4,jaU,filter_cons,filter_nil,key,jbA,jal]
  by_cases h:a=0<;>by_cases h':b=0<;>cases hy:yng H t.gen a<;>cases hy':yng H t.gen b<;>simp[h,h',hy,hy']<;>simp_all
noncomputable def jpc(H:Hp)(t:Th)(k:Nat):Bool:=yF H t k&& !H.cards.contains (jbq H (t.addr+2+k))
noncomputable def jfF(H:Hp)(t:Th):List PV:=((List.range t.slots.length).filter (jpc H t)).map fun k=>jfE (t,k)
theorem jnG{H:Hp}(hg: ∀t∈H.th,0<=t.gen):H.th.flatMap (jfF H)=(jfv H).map jfE:=by
 unfold jfv jaE
 have: ∀th:List Th,(∀ t∈th,t∈H.th)->th.flatMap (jfF H)=((th.flatMap (ySl H)).filter fun p=> !H.cards.contains (jbq H (p.1.addr+2+p.2))).map jfE:=by
  intro th
  induction th with
  | nil=>intro _;rfl
  | cons t r ih=>
   intro hm
   rw[flatMap_cons,flatMap_cons,filter_append,map_append,ih fun u hu=>hm u (.tail _ hu)]
   congr 1
   unfold jfF ySl
   by_cases hp:t.gen>0
   ·rw[if_pos hp,List.filter_map,map_map,List.filter_filter]
    congr 1
    refine List.filter_congr fun k _=>?_
    unfold jpc
    rw[Bool.and_comm];rfl
   ·rw[if_neg hp]
    have:(List.range t.slots.length).filter (jpc H t)= []:=by
     rw[filter_eq_nil_iff]
     intro k _ hk
     unfold jpc yF at hk
     rw[and_eq_true]at hk
     cases hs:t.slots[k]? with
     | none=>rw[hs]at hk;simp at hk
     | some v=>
      rw[hs]at hk
      refine jaj (any_eq_true.mp hk.1) fun a _ hya=>?_
      unfold yng at hya
      cases hz:jcK H.th a with
      | none=>rw[hz]at hya;cases hya
      | some u=>
       rw[hz]at hya
       have:=hg u (jdd hz).1
       simp at hya;exact jyY hp this hya
    rw[this];rfl
 exact this H.th fun t ht=>ht
theorem jlZ{H:Hp}{v:Val}(h:jfX H v): ∀a∈jaU v,jcJ H a:=fun a ha=>by
 cases v with
 | ref b=>simp[jaU]at ha;rw[ha];exact h
 | one b=>simp[jaU]at ha;rw[ha];exact h
 | two b c=>
  simp[jaU]at ha
  rcases ha with rfl | rfl
  ·exact h.1
  ·exact h.2
 | i4 n=>simp[jaU]at ha
 | pl w z=>simp[jaU]at ha
 | lc=>simp[jaU]at ha
theorem jcu(v:Val):(jaU v).length<=2:=by cases v<;>simp[jaU]
theorem jgH{m:Nat}{H:Hp}{Y:AHeap}{Q:PV->AHeap->Prop}(V:Hv Y H)(had:H.th.Pairwise fun a b=>a.addr≠b.addr)(hg: ∀t∈H.th,0<=t.gen)(hb:Bits H)(hin: ∀t∈H.th,In t.addr)(href: ∀t∈H.th,∀v∈t.slots,jfX H v)
  (k: ∀l Y',AccL Y l ((jfv H).map jfE) Y'->Q (.ref l) Y'):C (m+4) 63 [.ref H.h] Y Q:=by
 have szl:=(by decide:(100200:Nat)<sizeLine)
 have hb1:=hb.lo
 have hb2:=hb.hi
 have hpw:(0:Int)<2 ^ H.bits.toNat:=Int.pow_pos (by decide)
 have hpw2:(2:Int) ^ H.bits.toNat<1000000:=by
  have:H.bits=0\/H.bits=1\/H.bits=2\/H.bits=3:=by exact jtX hb1 hb2
  rcases this with h | h | h | h<;>rw[h]<;>decide
 refine jap rfl rfl (rd (V.ext (.alloc [] (.dict []))).h (jcr H.th (fun i Z' Y'=>∃x,Z'= [some (.ref H.h),some (.ref Y.sz),x,none,none,none,none]/\Y'.get Y.sz=some (.dict (mvE (jiX (H.th.take i))))/\Chg [] Y Y') (fun i Z' Y' zh=>by refine jcs zh fun _ _ _ c=>(V.ext c).tl) ⟨none,rfl,get_alloc_new,.alloc _ _⟩ ?_ ?_))
 ·intro i t Z' Y' ht zu9;refine jcs zu9 fun x' zq0 hd c=>?_;clear zu9;subst zq0
  have hp:=((V.ext c).th t (mem_of_getElem? ht)).1
  have fr: ∀p∈jiX (H.th.take i),p.1≠t.addr:=fun p hp=>by
   refine jaj (mem_map.mp hp) fun u hu zq2=>?_;subst zq2
   obtain⟨j,hj,hju⟩:=List.mem_take_iff_getElem.mp hu
   have hi:=(List.getElem?_eq_some_iff.mp ht).1
   have:=pairwise_iff_getElem.mp had j i (o31 hj hi) hi (jtG hj)
   rw[hju,(List.getElem?_eq_some_iff.mp ht).2]at this
   exact this
  have hl:(mvE (jiX (H.th.take i))).length<1000:=by
   have:=V.small.1
   unfold mvE jiX;rw[length_map,length_map,length_take];exact jyZ this
  refine rd hp (rd hp (rd hd (gI (jas hl) ⟨_,rfl,?_,c.setNew (le_refl _)⟩)))
  rw[jad (jac hd),jpa fr]
  unfold jiX
  rw[ja9 ht]
 ·intro Z' aC zu3;refine jcs zu3 fun x' zq4 hd c1=>?_;clear zu3;subst zq4
  rw[take_length]at hd
  have V1:=V.ext c1
  have ylen: ∀i,((H.th.take i).flatMap (jfF H)).length<=100*H.th.length:=fun i=>by
   refine le_trans (jbh (n:=100) fun t ht=>?_) (by rw[length_take];exact jy0)
   unfold jfF
   rw[length_map]
   exact le_trans jha (le_of_lt (V.small.2 t (mem_of_mem_take ht)))
  have hsm:=V.small.1
  refine rd (V1.ext (.alloc [] (.list []))).h (jcr H.th (fun i Z' Y'=>∃x y z w,Z'= [some (.ref H.h),some (.ref Y.sz),x,some (.ref aC.sz),y,z,w]/\AccL aC aC.sz ((H.th.take i).flatMap (jfF H)) Y') (fun i Z' Y' zh=>by refine jqT zh fun _ _ _ _ _ A=>(V1.ext A.chg).tl) ⟨_,_,_,_,rfl,AccL.start⟩ ?_ ?_)
  ·intro i t Z' au ht zu5;refine jqT zu5 fun x' y z w zq6 A=>?_;clear zu5;subst zq6
   have mt:=mem_of_getElem? ht
   have hp:=(V1.ext A.chg).th t mt
   have hts:=V.small.2 t mt
   have base:=ylen i
   refine rd hp.1 (rd hp.2 (gI (by rw[length_map];exact o37 szl hts) (jm5 (n:=t.slots.length) (by rw[length_map]) (o65 hts) (fun j Z' Y'=>∃y z w,Z'= [some (.ref H.h),some (.ref Y.sz),some (.ref t.loc),some (.ref aC.sz),y,z,w]/\AccL aC aC.sz ((H.th.take i).flatMap (jfF H)++((List.range j).filter (jpc H t)).map fun k=>jfE (t,k)) Y') ⟨_,_,_,rfl,by simpa using A⟩ ?_ ?_)))
   ·intro j Z' az hj zu8;refine jn5 zu8 fun y z w zq9 A3=>?_;clear zu8;subst zq9
    obtain⟨v,hv⟩: ∃v,t.slots[j]? =some v:=⟨_,getElem?_eq_getElem hj⟩
    have hok:=href t mt v (mem_of_getElem? hv)
    have hp3:=(V1.ext A3.chg).th t mt
    refine rd hp3.1 (rd hp3.2 (oI (it hv rfl) (jek (m:=m) (v:=v) _ _ fun l4 ay c4 hl4 hg4=>?_)))
    have A4:=A3.next c4
    have V4:=V1.ext A4.chg
    have hd4:=A4.chg.get0 hd
    refine cmL (jaU v) (fun n ys Y'=>ys=(((jaU v).take n).filter (joa H t)).map .int/\Chg [] ay Y') (fun n ys Y' ⟨_,c⟩=>c.get0 hg4) ⟨rfl,.alloc _ _⟩ ?_ ?_
    ·rintro n b ys aM hb' hy ⟨rfl,c5⟩
     have rb:=jlZ hok b (mem_of_getElem? hb')
     have hd5:=c5.get0 hd4
     have hp5:=((V4.ext c5).th t mt).1
     have hll:(((jaU v).take n).filter (joa H t)).length<sizeLine:=jy1 szl (jcQ (jaU v) n (joa H t)) (jcu v)
     have st:=jbL hb' (joa H t)
     refine cN (fun h0=>?_) fun h0=>?_
     ·obtain⟨u,hu⟩:=jnT (rb.resolve_left h0)
      have hlk:(jiX H.th).lookup b=some u.gen:=by rw[ji3,hu];rfl
      have e:joa H t b=decide (u.gen<t.gen):=by
       unfold joa yng
       rw[hu];simp[h0]
      rw[e]at st
      refine rd hd5 (oI (x:=.int u.gen) (by rw[jec,hlk];rfl) (rd hp5 ?_))
      refine(cD (fun hlt=>?_) fun hlt=>?_)
      ·rw[decide_eq_true hlt]at st
       exact⟨hy,rl' hll,by rw[st];simp,c5.setNew (le_refl _)⟩
      ·rw[decide_eq_false hlt]at st
       exact⟨hy,by rw[st];simp,c5⟩
     ·have e:joa H t b=false:=by unfold joa;simp[h0]
      rw[e]at st
      exact⟨hy,by rw[st];simp,c5⟩
    ·rintro ys aM hy ⟨rfl,c5⟩
     rw[take_length]at hy
     have A5:=A4.next c5
     have V5:=V1.ext A5.chg
     have ey:yF H t j=decide (jo4 H t v≠ []):=by rw[jpO];unfold yF;rw[hv]
     have hyy:aM.get ay.sz=some (.list ((jo4 H t v).map .int)):=hy
     have V6:=V5.ext (.alloc [] (.list []))
     have A6:=A5.next (.alloc [] (.list []))
     have hp6:=(V6.th t mt).1
     have eb:jpc H t j=(decide (jo4 H t v≠ [])&& !H.cards.contains (jbq H (t.addr+2+j))):=by unfold jpc;rw[ey]
     refine jsO (is:=jo4 H t v) (js:=[]) ((jae (jac hyy)).trans hyy) get_alloc_new (jL A6 (jfE (t,j)) (jpc H t j) (fun j' jj=>cD (fun h1=>rd hp6 (rd V6.h (gI hb1 (gI hb2 (gI hpw (gL6 hpw2 (rd V6.h (rd V6.cl (.mk jcM (cNB (fun h=>rd A6.at_ (rd hp6 (rd A6.at_ (gI ?_ (jj ?_))))) fun h=>j' ?_)))))))))) fun h1=>j' ?_) fun aS A7 _=>⟨_,_,_,rfl,?_⟩)
     ·rw[length_append,length_map];exact jy2 szl hsm hts base (le_trans jha (le_of_lt hj))
     ·rw[eb,decide_eq_true h1];unfold jbq;rw[h];rfl
     ·rw[eb,decide_eq_true h1];unfold jbq;rw[h];rfl
     ·rw[eb,decide_eq_false h1];rfl
     ·rw[jea,jfr,<-append_assoc];exact A7
   ·intro Z' az zu3;refine jn5 zu3 fun y z w zq4 A3=>?_;clear zu3;subst zq4
    refine⟨_,_,_,_,rfl,?_⟩
    rw[jbs ht]
    exact A3
  ·intro Z' au zu5;refine jqT zu5 fun x y z w zq6 A=>?_;clear zu5;subst zq6
   rw[take_length,jnG hg]at A
   exact k _ _ ⟨c1.to A.chg,by exact o43 (jac hd),A.at_⟩
end
noncomputable section
theorem jbp{th:List Th}{i:Nat}{t:Th}(h:th[i]? =some t):th=th.take i++t::th.drop (i+1)/\∀t',th.set i t'=th.take i++t'::th.drop (i+1):=by
 have hi:=(List.getElem?_eq_some_iff.mp h).1
 refine⟨?_,fun t'=>List.set_eq_take_append_cons_drop.trans (by rw[if_pos hi])⟩
 conv=>lhs;rw[<- List.take_append_drop i th,jcf h]
theorem jny{H H':Hp}{ls:List (Nat×List Val)}(I:Inv H ls)(hth:H'.th=H.th)(hat:H'.at_=H.at_): ∀p∈ls,∀w z,Val.pl w z∈p.2->(ja8 H' w).isSome=true:=fun p hp w z hv=>by
 refine jaj (jfx I p hp w z hv) fun t ht hi=>?_
 have e:ja8 H' w=ja8 H w:=by unfold ja8 jj2;rw[hth,hat]
 rw[e,jbV I.at_ I.d ht hi];rfl
theorem jkY{H H':Hp}{ls:List (Nat×List Val)}(I:Inv H ls)(hth:H'.th=H.th)(hat:H'.at_=H.at_)(hf:H'.fin=H.fin)(hr:H'.rdy=H.rdy):Cln H H' ls:=
 ⟨fun t ht v hv=>I.slots t (hth▸ht) v hv,fun t ht=>by rw[hat];exact jbK I.at_ I.d t ht,jny I hth hat,hf,hr⟩
theorem jeh{H H':Hp}{ls:List (Nat×List Val)}(I:Inv H ls)(hat:H'.at_=H.at_):jaP H' H.th 16 2=if jca 16 H.th>H'.top then [jjI]else []:=by
 have:=jbl (H:=H') (R:=[]) I.lay fun a ha=>by rw[hat];exact jbK I.at_ I.d a ha
 rw[append_nil]at this
 rw[this];rfl
theorem jgu{H H':Hp}{ls:List (Nat×List Val)}(I:Inv H ls)(hth:H'.th=H.th)(hat:H'.at_=H.at_):jbz H'= []:=by
 have:=jgv I
 unfold jbz at this ⊢
 rw[hth,hat];exact this
theorem jp5{H H':Hp}{ls:List (Nat×List Val)}(I:Inv H ls)(hth:H'.th=H.th)(hat:H'.at_=H.at_)(hf:H'.fin=H.fin)(hr:H'.rdy=H.rdy):jaC H' ls=if H.top>H'.top then [jjI]else []:=by
 rw[(jkY I hth hat hf hr).check I,hth,jeh I hat,jgu I hth hat,append_nil,I.top]
theorem jry{H:Hp}{ls:List (Nat×List Val)}(I:Inv H ls):jaC H ls= []:=by
 rw[jp5 I rfl rfl rfl rfl,if_neg (o27)]
section
variable{H H':Hp}{ls:List (Nat×List Val)}{i:Nat}{t t':Th}
theorem jfj(I:Inv H ls)(hi:H.th[i]? =some t)(hth:H'.th=H.th.set i t')(hat:H'.at_=H.at_)(h1:t'.addr<=t.addr+1)(h2:t.addr-1<=t'.addr)(h3:t.addr+t.size-1<=t'.addr+t'.size){w:Int}(hw: ∃u∈H.th,jcb u w)(hne:w≠t.addr+t.size-1\/t.addr+t.size<=t'.addr+t'.size):(ja8 H' w).isSome=true:=by
 refine jaj hw fun u hu hin=>?_;clear hw
 have ht:=mem_of_getElem? hi
 obtain⟨e1,e2⟩:=jbp hi
 have eth:H'.th=H.th.take i++t'::H.th.drop (i+1):=by rw[hth,e2]
 cases hl:H.at_.lookup w with
 | some l=>rw[jeT (by rw[hat];exact hl)];rfl
 | none=>
  have hl':H'.at_.lookup w=none:=by rw[hat];exact hl
  have nw: ∀z∈H.th,z.addr≠w:=fun z hz e=>by
   have:=jbK I.at_ I.d z hz
   rw[e,hl]at this;cases this
  have d3:=I.d
  have dj:=d3.dj
  unfold Dj at dj
  rw[e1]at dj
  refine jdo (pairwise_append.mp dj) fun dA dtB dAB=>?_
  obtain⟨dt,dB⟩:=pairwise_cons.mp dtB
  have mA: ∀a∈H.th.take i,a∈H.th:=fun a ha=>mem_of_mem_take ha
  have mB: ∀b∈H.th.drop (i+1),b∈H.th:=fun b hb=>mem_of_mem_drop hb
  have st:=d3.sz t ht
  have fA: ∀a∈H.th.take i,a.addr+a.size<=t.addr/\3<=a.size:=fun a ha=>⟨dAB a ha t (by simp),d3.sz a (mA a ha)⟩
  have nwu:=nw u hu
  have nwt:=nw t ht
  unfold jcb at hin
  rw[e1]at hu
  rcases mem_append.mp hu with hu | hu
  ·have fu:=fA u hu
   by_cases hlt:w<t'.addr
   ·refine jqR (append_of_mem hu) fun A1 A2 eA=>?_
    rw[eA]at dA
    refine jdo (pairwise_append.mp dA) fun q1 q2 q3=>?_
    refine jaM (A:=A1) (B:=A2++t'::H.th.drop (i+1)) (t:=u) (by rw[eth,eA];simp) (fun a ha=>?_) (by unfold jcb;exact jt8 hin nwu) (fun b hb=>?_)
    ·have:=q3 a ha u (by simp)
     have:=(fA a (by rw[eA];simp[ha])).2
     walk_at "o"
    ·rcases mem_append.mp hb with hb | hb
     ·have:=(pairwise_cons.mp q2).1 b hb;exact o13 hin this
     ·rcases mem_cons.mp hb with rfl | hb
      ·exact hlt
      ·have:=dt b hb;exact jy3 h1 st hlt this
   ·refine jaM eth (fun a ha=>?_) (by unfold jcb;exact jy4 h2 h3 hin st fu hlt) (fun b hb=>?_)
    ·have:=fA a ha;exact jy5 h2 hin fu hlt this
    ·have:=dt b hb;exact jy6 h2 hin st fu hlt this
  ·rcases mem_cons.mp hu with rfl | hu
   ·refine jaM eth (fun a ha=>?_) (by unfold jcb;exact jy7 hin nwu h1 h3 hne) (fun b hb=>?_)
    ·have:=fA a ha;exact jy8 hin nwu this
    ·have:=dt b hb;exact o13 hin this
   ·refine jqR (append_of_mem hu) fun B1 B2 eB=>?_
    have dtu:=dt u hu
    rw[eB]at dB
    refine jdo (pairwise_append.mp dB) fun q1 q2 q3=>?_
    refine jaM (A:=H.th.take i++t'::B1) (B:=B2) (t:=u) (by rw[eth,eB];simp) (fun a ha=>?_) (by unfold jcb;exact jt8 hin nwu) (fun b hb=>?_)
    ·rcases mem_append.mp ha with ha | ha
     ·have:=fA a ha;exact jy9 hin st nwu dtu this
     ·rcases mem_cons.mp ha with rfl | ha
      ·exact jza hin st nwu nwt dtu h1
      ·have:=q3 a ha u (by simp)
       have:=d3.sz a (mB a (by rw[eB];simp[ha]))
       walk_at "o"
    ·have:=(pairwise_cons.mp q2).1 b hb;exact o13 hin this
theorem jow(I:Inv H ls)(hi:H.th[i]? =some t)(hth:H'.th=H.th.set i t')(hat:H'.at_=H.at_){w:Int}(h1:w=t.addr+t.size-1)(h2:t'.addr+t'.size=w)(h3:t'.addr<=w):ja8 H' w=none:=by
 have ht:=mem_of_getElem? hi
 obtain⟨e1,e2⟩:=jbp hi
 have eth:H'.th=H.th.take i++t'::H.th.drop (i+1):=by rw[hth,e2]
 have d3:=I.d
 have dj:=d3.dj
 unfold Dj at dj
 rw[e1]at dj
 refine jdo (pairwise_append.mp dj) fun dA dtB dAB=>?_
 obtain⟨dt,dB⟩:=pairwise_cons.mp dtB
 have st:=d3.sz t ht
 have hl:H'.at_.lookup w=none:=by
  rw[hat]
  refine jbg I.at_ fun u hu e=>?_
  have su:=jbw I hu
  have:=d3.uniq ht hu (w:=w) (by unfold jcb;exact jzb h1 st) (by rw[<- e];exact su.1)
  subst this
  exact jzc h1 st e
 rw[jdv eth (fun a ha=>?_) h3 (fun b hb=>?_) hl,if_neg (jzd h1 h2)]
 ·have:=dAB a ha t (by simp)
  have:=d3.sz a (mem_of_mem_take ha)
  walk_at "o"
 ·have:=dt b hb;exact jze h1 this
theorem jcm(I:Inv H ls)(hi:H.th[i]? =some t)(hth:H'.th=H.th.set i t')(hat:H'.at_=H.at_):jaP H' H'.th 16 2=((if t'.addr<t.addr then [jcI t'.addr]else [])++(if t'.gen>jm8 2 (H.th.take i)then [jmg t'.addr]else [])++(if (H.at_.lookup t'.addr).isSome=false then [jbU t'.addr]else []))++jmq H' (t.addr+t.size) (t'.addr+t'.size) t'.gen (H.th.drop (i+1)):=by
 obtain⟨e1,e2⟩:=jbp hi
 have lay:=I.lay
 rw[e1]at lay
 refine jsd (jb2 lay) fun l1 l2 l3 l4 l5 l6 l7=>?_
 have ha:=jbK I.at_ I.d
 rw[hth,e2,jbl (H:=H') l1 fun a h=>by rw[hat];exact ha a (mem_of_mem_take h)]
 rw[jaP,jfw (H:=H') l7 fun a h=>by rw[hat];exact ha a (mem_of_mem_drop h),<-l2,hat]
theorem jkn(I:Inv H ls)(hi:H.th[i]? =some t):jca (t.addr+t.size) (H.th.drop (i+1))=H.top:=by
 obtain⟨e1,e2⟩:=jbp hi
 have lay:=I.lay
 rw[e1]at lay
 refine jsd (jb2 lay) fun l1 l2 l3 l4 l5 l6 l7=>?_
 have app: ∀(A B:List Th) (e:Int),jca e (A++B)=jca (jca e A) B:=by
  intro A
  induction A with
  | nil=>intro B e;rfl
  | cons a r ih=>intro B e;simp only[cons_append,jca];exact ih B _
 rw[I.top]
 conv=>rhs;rw[e1]
 rw[app,<-l2];rfl
theorem jb4(I:Inv H ls)(hi:H.th[i]? =some t){b:Th}(hb:H.th[i+1]? =some b):b.addr=t.addr+t.size/\b.gen<=t.gen:=by
 obtain⟨e1,e2⟩:=jbp hi
 have lay:=I.lay
 rw[e1,jcf hb]at lay
 refine jsd (jb2 lay) fun l1 l2 l3 l4 l5 l6 l7=>?_
 rw[<- l2]at l7
 exact⟨l7.1,l7.2.1⟩
theorem jb7(I:Inv H ls)(hi:H.th[i]? =some t)(htop:H'.top=H.top){e' g':Int}:jmq H' (t.addr+t.size) e' g' (H.th.drop (i+1))=match H.th[i+1]? with
  | none=>if e'>H.top then [jjI]else []
  | some b=>(if t.addr+t.size<e' then [jcI (t.addr+t.size)]else [])++(if b.gen>g' then [jmg b.addr]else []):=by
 have he:=jkn I hi
 cases hb:H.th[i+1]? with
 | none=>
  have:H.th.drop (i+1)= []:=List.drop_eq_nil_iff.mpr (List.getElem?_eq_none_iff.mp hb)
  rw[this]
  unfold jmq
  rw[htop]
 | some b=>
  have hn:=(jb4 I hi hb).1
  rw[jcf hb]at he ⊢
  unfold jmq
  dsimp only
  rw[he,htop,if_neg (c:=H.top>H.top) (o27),append_nil,hn]
end
theorem Inv.nda{H:Hp}{ls:List (Nat×List Val)}(I:Inv H ls):(H.th.map (·.addr)).Nodup:=by
 rw[nodup_iff_pairwise_ne,pairwise_map];exact I.apart
theorem Inv.keys{H:Hp}{ls:List (Nat×List Val)}(I:Inv H ls):H.at_.map (·.1)=H.th.map (·.addr):=by
 rw[show H.at_=_ from I.at_,map_map];rfl
theorem jly{th:List Th}(h:(th.map (·.addr)).Nodup):jbo th []= []:=by
 rw[nodup_iff_pairwise_ne,pairwise_map]at h
 exact jcp h fun t _ h=>by cases h
theorem ji0{H':Hp}(nd:(H'.th.map (·.addr)).Nodup)(sub: ∀p∈H'.at_,p.1∈H'.th.map (·.addr)):jbz H'= []:=by
 unfold jbz
 rw[jly nd,nil_append]
 unfold jlX
 rw[List.map_eq_nil_iff,filter_eq_nil_iff]
 intro a ha
 refine jaj (mem_map.mp (sortI_mem.mp ha)) fun p hp zq7=>?_;subst zq7
 simpa using sub p hp
theorem ji1{H':Hp}{a:Int}(nd:(H'.th.map (·.addr)).Nodup)(one:(H'.at_.map (·.1)).filter (fun a=> !(H'.th.map (·.addr)).contains a)= [a]):jbz H'= [jjH a]:=by
 unfold jbz
 rw[jly nd,nil_append]
 unfold jlX
 rw[jfN one];rfl
section
variable{H H':Hp}{ls:List (Nat×List Val)}{i:Nat}{t t':Th}
theorem jgt(I:Inv H ls)(hi:H.th[i]? =some t):t.gen<=jm8 2 (H.th.take i):=by
 obtain⟨e1,e2⟩:=jbp hi
 have lay:=I.lay
 rw[e1]at lay
 exact(jb2 lay).2.2.1
theorem jhV(I:Inv H ls)(hi:H.th[i]? =some t)(h:t'.addr=t.addr):(H.th.set i t').map (·.addr)=H.th.map (·.addr):=by
 rw[map_set]
 exact jbi (by rw[getElem?_map,hi,h];rfl)
theorem jc3(I:Inv H ls)(hi:H.th[i]? =some t)(hth:H'.th=H.th.set i t')(hat:H'.at_=H.at_)(h:t'.addr=t.addr):jbz H'= []:=by
 have e:=jhV I hi h
 refine ji0 (by rw[hth,e];exact I.nda) fun p hp=>?_
 rw[hth,e,<-I.keys]
 exact mem_map_of_mem (hat▸hp)
theorem jfl(I:Inv H ls)(hi:H.th[i]? =some t)(hth:H'.th=H.th.set i t')(hat:H'.at_=H.at_)(h1:t'.addr≠t.addr)(h2: ∀u∈H.th,u.addr≠t'.addr):jbz H'= [jjH t.addr]:=by
 obtain⟨e1,e2⟩:=jbp hi
 have nd:=I.nda
 rw[e1,map_append,map_cons]at nd
 refine jdo (nodup_append.mp nd) fun n1 n2 n3=>?_
 obtain⟨n4,n5⟩:=nodup_cons.mp n2
 have eth:H'.th.map (·.addr)=(H.th.take i).map (·.addr)++t'.addr::(H.th.drop (i+1)).map (·.addr):=by rw[hth,e2,map_append,map_cons]
 have nA:t'.addr∉(H.th.take i).map (·.addr):=fun h=>by
  refine jaj (mem_map.mp h) fun u hu e=>?_
  exact h2 u (mem_of_mem_take hu) e
 have nB:t'.addr∉(H.th.drop (i+1)).map (·.addr):=fun h=>by
  refine jaj (mem_map.mp h) fun u hu e=>?_
  exact h2 u (mem_of_mem_drop hu) e
 refine ji1 ?_ ?_
 ·rw[eth,nodup_append]
  refine⟨n1,nodup_cons.mpr ⟨nB,n5⟩,fun a ha b hb=>?_⟩
  rcases mem_cons.mp hb with rfl | hb
  ·exact fun e=>nA (e▸ha)
  ·exact n3 a ha b (.tail _ hb)
 ·rw[hat,I.keys,eth]
  conv=>lhs;arg 2;rw[e1,map_append,map_cons]
  rw[filter_append,filter_cons]
  have f1:((H.th.take i).map (·.addr)).filter (fun a=> !((H.th.take i).map (·.addr)++t'.addr::(H.th.drop (i+1)).map (·.addr)).contains a)= []:=by
   rw[filter_eq_nil_iff]
   intro a ha
   have:a∈(H.th.take i).map (·.addr)++t'.addr::(H.th.drop (i+1)).map (·.addr):=mem_append_left _ ha
   rw[contains_iff_mem.mpr this];decide
  have f2:((H.th.drop (i+1)).map (·.addr)).filter (fun a=> !((H.th.take i).map (·.addr)++t'.addr::(H.th.drop (i+1)).map (·.addr)).contains a)= []:=by
   rw[filter_eq_nil_iff]
   intro a ha
   have:a∈(H.th.take i).map (·.addr)++t'.addr::(H.th.drop (i+1)).map (·.addr):=mem_append_right _ (.tail _ ha)
   rw[contains_iff_mem.mpr this];decide
  have f3:((H.th.take i).map (·.addr)++t'.addr::(H.th.drop (i+1)).map (·.addr)).contains t.addr=false:=by
   cases hc:((H.th.take i).map (·.addr)++t'.addr::(H.th.drop (i+1)).map (·.addr)).contains t.addr with
   | false=>rfl
   | true=>
    exfalso
    rcases mem_append.mp (contains_iff_mem.mp hc)with h | h
    ·exact n3 _ h t.addr (by simp) rfl
    ·rcases mem_cons.mp h with h | h
     ·exact h1 h.symm
     ·exact n4 h
  rw[f1,f2,if_pos (by rw[f3];rfl)]
  rfl
theorem jd8(I:Inv H ls)(hi:H.th[i]? =some t)(hth:H'.th=H.th.set i t')(hat:H'.at_=H.at_)(hf:H'.fin=H.fin)(hr:H'.rdy=H.rdy)(hs:t'.slots=t.slots)(h1:t'.addr<=t.addr+1)(h2:t.addr-1<=t'.addr)(h3:t.addr+t.size<=t'.addr+t'.size):Cln H H' ls:=by
 refine⟨fun u hu v hv=>?_,fun u hu=>by rw[hat];exact jbK I.at_ I.d u hu,fun p hp w z hv=>jfj I hi hth hat h1 h2 (jzf h3) (jfx I p hp w z hv) (.inr h3),hf,hr⟩
 rw[hth]at hu
 rcases mem_or_eq_of_mem_set hu with hu | rfl
 ·exact I.slots u hu v hv
 ·rw[hs]at hv
  exact I.slots t (mem_of_getElem? hi) v hv
theorem jrw(I:Inv H ls)(hi:H.th[i]? =some t)(g':Int)(hth:H'.th=H.th.set i {t with gen:=g'})(hat:H'.at_=H.at_)(hf:H'.fin=H.fin)(hr:H'.rdy=H.rdy)(htop:H'.top=H.top):
  jaC H' ls=(if g'>jm8 2 (H.th.take i)then [jmg t.addr]else [])++(match H.th[i+1]? with | some b=>(if b.gen>g' then [jmg b.addr]else []) | none=>[]):=by
 have mt:=mem_of_getElem? hi
 have lm:=I.lay.mem t mt
 have tp:=I.top
 rw[(jd8 I hi hth hat hf hr rfl (by show t.addr<=_;exact o18) (by show _<=t.addr;exact o9) (Int.le_refl _)).check I,jc3 I hi hth hat rfl,jcm I hi hth hat,jb7 I hi htop,append_nil]
 dsimp only
 rw[if_neg (o38),if_neg (c:=(H.at_.lookup t.addr).isSome=false) (by rw[jbK I.at_ I.d t mt];decide)]
 simp only[nil_append,append_nil]
 congr 1
 cases hb:H.th[i+1]? with
 | none=>dsimp only;rw[if_neg (o80 lm tp)]
 | some b=>dsimp only;rw[if_neg (c:=t.addr+t.size<t.addr+t.size) (o81)];rfl
theorem jld(I:Inv H ls)(hi:H.th[i]? =some t)(hb:H.th[i+1]? =none):H.top=t.addr+t.size:=by
 have he:=jkn I hi
 have:H.th.drop (i+1)= []:=List.drop_eq_nil_iff.mpr (List.getElem?_eq_none_iff.mp hb)
 rw[this]at he
 exact he.symm
theorem jnv(I:Inv H ls)(hi:H.th[i]? =some t)(hth:H'.th=H.th.set i {t with size:=t.size+1})(hat:H'.at_=H.at_)(hf:H'.fin=H.fin)(hr:H'.rdy=H.rdy)(htop:H'.top=H.top):
  jaC H' ls=(match H.th[i+1]? with | some b=>[jcI (t.addr+t.size)] | none=>[jjI]):=by
 have mt:=mem_of_getElem? hi
 have lm:=I.lay.mem t mt
 have tp:=I.top
 have go:=jgt I hi
 rw[(jd8 I hi hth hat hf hr rfl (by show t.addr<=_;exact o18) (by show _<=t.addr;exact o9) (by show _<=t.addr+(t.size+1);exact jt9)).check I,jc3 I hi hth hat rfl,jcm I hi hth hat,jb7 I hi htop,append_nil]
 dsimp only
 rw[if_neg (o38),if_neg (o17 go),if_neg (c:=(H.at_.lookup t.addr).isSome=false) (by rw[jbK I.at_ I.d t mt];decide)]
 simp only[nil_append,append_nil]
 cases hb:H.th[i+1]? with
 | none=>
  have:=jld I hi hb
  dsimp only;rw[if_pos (jzg tp this)]
 | some b=>
  have:=jb4 I hi hb
  dsimp only;rw[if_pos (jzh),if_neg (o28 this)];rfl
theorem jmf(I:Inv H ls)(hi:H.th[i]? =some t)(hth:H'.th=H.th.set i {t with addr:=t.addr+1})(hat:H'.at_=H.at_)(hf:H'.fin=H.fin)(hr:H'.rdy=H.rdy)(htop:H'.top=H.top):
  jaC H' ls= [jbU (t.addr+1)]++(match H.th[i+1]? with | some b=>[jcI (t.addr+t.size)] | none=>[jjI])++ [jjH t.addr]:=by
 have mt:=mem_of_getElem? hi
 have lm:=I.lay.mem t mt
 have tp:=I.top
 have go:=jgt I hi
 have no: ∀u∈H.th,u.addr≠t.addr+1:=fun u hu e=>by
  have su:=jbw I hu
  have:=I.d.uniq mt hu (w:=t.addr+1) (by unfold jcb;exact jzi lm) (by rw[<- e];exact su.1)
  subst this;exact jzj e
 rw[(jd8 I hi hth hat hf hr rfl (by show t.addr+1<=_;exact o82) (by show _<=t.addr+1;exact o55) (by show _<=t.addr+1+t.size;exact jua)).check I,jfl I hi hth hat (by show t.addr+1≠_;exact jtW) no,jcm I hi hth hat,jb7 I hi htop]
 dsimp only
 rw[if_neg (jzk),if_neg (o17 go),jbg I.at_ no,if_pos (c:=Option.isSome (none:Option Nat)=false) rfl]
 simp only[nil_append]
 congr 1
 cases hb:H.th[i+1]? with
 | none=>
  have:=jld I hi hb
  dsimp only;rw[if_pos (jzl tp this)]
 | some b=>
  have:=jb4 I hi hb
  dsimp only;rw[if_pos (jzm),if_neg (o28 this)];rfl
theorem jpx{cells:List Val}{w:Int}{f:Val->List Str}(h: ∀v∈cells,f v=if jn8 w v=true then [jdF jaS w]else []):cells.flatMap f=byF cells w:=by
 unfold byF
 induction cells with
 | nil=>rfl
 | cons v r ih=>
  rw[flatMap_cons,ih fun u hu=>h u (.tail _ hu),h v (by simp),filter_cons]
  split<;>simp
theorem joC{l0 l1:Nat}{r0 r1:List Val}{word:Int}(ha: ∀t∈H.th,(H'.at_.lookup t.addr).isSome=true)(hr: ∀v∈r0++r1,jfG H v)(hp: ∀w z,Val.pl w z∈r0++r1->(w≠word->(ja8 H' w).isSome=true)/\(w=word->ja8 H' w=none)):jaJ H' [(l0,r0),(l1,r1)]=byF (r0++r1) word:=by
 have e:jaJ H' [(l0,r0),(l1,r1)]=(r0++r1).flatMap fun v=>bvF H' v jaS:=by
  unfold jaJ
  rw[flatMap_cons,flatMap_cons,List.flatMap_nil,append_nil,flatMap_append]
 rw[e]
 refine jpx fun v hv=>?_
 have h:=hr v hv
 cases v with
 | pl w z=>
  obtain⟨h1,h2⟩:=hp w z hv
  by_cases hw:w=word
  ·have e1:jn8 word (.pl w z)=true:=decide_eq_true hw
   rw[if_pos e1,<-hw]
   unfold bvF
   simp[jaf,jaW,jga,h2 hw]
  ·have e1: ¬jn8 word (.pl w z)=true:=fun h=>hw (of_decide_eq_true h)
   rw[if_neg e1]
   refine jb3 fun x hx=>?_
   simp[jaf]at hx
   simp[jaW,jga,hx,h1 hw]
 | ref a=>exact jb3 (jaO ha (v:=.ref a) h)
 | i4 a=>exact jb3 (jaO ha (v:=.i4 a) h)
 | one a=>exact jb3 (jaO ha (v:=.one a) h)
 | two a b=>exact jb3 (jaO ha (v:=.two a b) h)
 | lc=>exact h.elim
end
theorem hc{m:Nat}{H:Hp}{lr:Nat}{ls:List (Nat×List Val)}{rows:List Str}{Y:AHeap}{Q:PV->AHeap->Prop}(V:Hv Y H)(L:Lv Y lr ls)(hs:Srt H)(B:Bd H ls)(e:jaC H ls=rows)(k: ∀l Y',Acc Y l rows Y'->Q (.ref l) Y'):C (m+5) 51 [.ref H.h,.ref lr] Y Q:=
 jjp V L hs B fun l Y' A=>k l Y' (e▸A)
theorem jbk{H:Hp}{lr:Nat}{ls:List (Nat×List Val)}{X:List Nat}{Y Y':AHeap}(S:Sep H lr ls)(L:Lv Y lr ls)(c:Chg X Y Y')(hX: ∀x∈X,x∈H.locs):Lv Y' lr ls:=
 ⟨c.get L.lr fun h=>S.r1 (hX _ h),fun p hp=>c.get (L.each p hp) fun h=>S.l1 _ (mem_map_of_mem hp) (hX _ h)⟩
theorem jei{H:Hp}{ls:List (Nat×List Val)}(I:Inv H ls){i:Nat}{t t':Th}(hi:H.th[i]? =some t)(h1:t'.addr<=t.addr+1)(h2:t.addr-1<=t'.addr):(H.th.set i t').Pairwise fun a b=>a.addr<=b.addr:=by
 obtain⟨e1,e2⟩:=jbp hi
 have d3:=I.d
 have dj:=d3.dj
 unfold Dj at dj
 rw[e1]at dj
 refine jdo (pairwise_append.mp dj) fun dA dtB dAB=>?_
 obtain⟨dt,dB⟩:=pairwise_cons.mp dtB
 have st:=d3.sz t (mem_of_getElem? hi)
 have sA: ∀a∈H.th.take i,3<=a.size:=fun a ha=>d3.sz a (mem_of_mem_take ha)
 have sB: ∀b∈H.th.drop (i+1),3<=b.size:=fun b hb=>d3.sz b (mem_of_mem_drop hb)
 rw[e2,pairwise_append]
 refine⟨Pairwise.imp_of_mem (fun ha hb h=>?_) dA,pairwise_cons.mpr ⟨fun b hb=>?_,Pairwise.imp_of_mem (fun ha hb h=>?_) dB⟩,fun a ha b hb=>?_⟩
 ·have:=sA _ ha;exact o35 h this
 ·have:=dt b hb;exact jzn h1 st this
 ·have:=sB _ ha;exact o35 h this
 ·have:=sA a ha
  rcases mem_cons.mp hb with rfl | hb
  ·have:=dAB a ha t (by simp);walk_at "o"
  ·have:=dAB a ha b (.tail _ hb);walk_at "o"
theorem jim{H H':Hp}{ls:List (Nat×List Val)}{i:Nat}{t t':Th}{rows:List Str}(I:Inv H ls)(C:Cln H H' ls)(hth:H'.th=H.th.set i t')(hat:H'.at_=H.at_)(hin:In t'.addr)(h1:H.th.length<64)(h2:H.fin.length+H.rdy.length<1000)(e:jaC H' ls=rows)(hz:rows.length<1000):Bd H' ls:=by
 refine C.bd I (fun u hu=>?_) (fun p hp=>jgM I p (hat▸hp)) (by rw[hat,jdH I];exact h1) h2 (by rw[e];exact jub hz)
 rw[hth]at hu
 rcases mem_or_eq_of_mem_set hu with hu | rfl
 ·exact(I.in_ u hu).1
 ·exact hin
theorem jj1{H H':Hp}{ls:List (Nat×List Val)}{rows:List Str}(I:Inv H ls)(hth:H'.th=H.th)(hat:H'.at_=H.at_)(hf:H'.fin=H.fin)(hr:H'.rdy=H.rdy)(h1:H.th.length<64)(h2:H.fin.length+H.rdy.length<1000)(e:jaC H' ls=rows)(hz:rows.length<1000):Bd H' ls:=
 (jkY I hth hat hf hr).bd I (fun u hu=>(I.in_ u (hth▸hu)).1) (fun p hp=>jgM I p (hat▸hp)) (by rw[hat,jdH I];exact h1) h2 (by rw[e];exact jub hz)
theorem jnh(H:Hp): ∀x∈ [H.h],x∈H.locs:=fun x hx=>by rw[mem_singleton.mp hx];walk_at "l"
theorem jcc{H:Hp}{t:Th}(ht:t∈H.th): ∀x∈ [t.loc],x∈H.locs:=fun x hx=>by
 rw[mem_singleton.mp hx,jaq];exact mem_append_right _ (jbj ht).1
theorem jsB{m:Nat}{Y:AHeap}{h lr a f c:Nat}{H:Hp}{ls:List (Nat×List Val)}{y:Int}{Q:PV->AHeap->Prop}(T:Stt Y h lr a f c H ls)(ha:a<=20)(hf:f<=100)(k: ∀Y',Chg [] Y Y'->Q (.bool true) Y'):C (m+6) 71 [.ref h,.ref lr,.int y] Y Q:=by
 obtain⟨rfl,V,I,S,L,F,C⟩:=T
 have hlt:=jac V.h
 have fin: ∀(x:Int) (rows:List Str) (aC:AHeap) (lo:Nat),Hv aC {H with top:=x}->Chg [H.h] Y aC->Y.sz<=lo->aC.get lo=some (.list (rows.map .str))->rows=(if H.top>x then [jjI]else [])->
   (jfO jgm 4).r (m+5) [some (.ref H.h),some (.ref lr),some (.int y),some (.int H.top),some (.ref lo),none] aC (cl Q):=fun x rows aC lo V1 c1 hlz hlo hrows=>by
  have e:jaC {H with top:=x} ls=rows:=by rw[jp5 (H':={H with top:=x}) I rfl rfl rfl rfl,hrows]
  refine hc (H:={H with top:=x}) V1 (jbk S L c1 (jnh H)) I.srt (jj1 I rfl rfl rfl rfl (o5 ha C.th) (o10 hf C.fr) e (by rw[hrows];split<;>simp)) e fun l au A=>?_
  have z1:=c1.1
  have z2:=A.new
  have z3:=jac hlo
  exact rd (V1.ext A.chg).h (ja2 (o11 z2 z3) ((jaa (jzo hlt hlz z2 z3)).trans A.at_) ((jaa (o8 hlt hlz)).trans (A.chg.get0 hlo)) (k _ ((c1.thenNil A.chg).back (S:=[]) V.h)))
 have V1:=fun x=>V.setH S.nd x H.limit H.fresh H.moved H.made
 have e1: ∀{o o'},((Y.set H.h o).alloc o').get H.h=some o:=fun{o o'}=>by rw[jae (by rw[jan];exact hlt),jad hlt]
 refine jap rfl rfl (rd V.h (rd V.h (cD (fun h1=>rd e1 (fin (H.top+1+y/2%3) [] _ _ ((((V1 (H.top-1-y/2%3)).ext (.alloc [] (.list [.str jjI]))).setH ⟨S.nd.six,S.nd.th,S.nd.ap⟩ (H.top+1+y/2%3) H.limit H.fresh H.moved H.made).ext (.alloc [] (.list []))) ((((Chg.set in1).to (.alloc _ _)).to (.set in1)).to (.alloc _ _)) ?_ get_alloc_new (by rw[if_neg (jzp (a2:=y) rfl)])))
  fun h1=>fin (H.top-1-y/2%3) [jjI] _ _ ((V1 (H.top-1-y/2%3)).ext (.alloc [] (.list [.str jjI]))) ((Chg.set in1).to (.alloc _ _)) ?_ get_alloc_new (by rw[if_pos (jzq (a2:=y) rfl)]))))
 ·rw[jan,jai,jan];exact o0
 ·rw[jan];exact o22
theorem jiZ{n:Nat}{z:Int}(h:0<n): ∃i:Nat,z%(n:Int)=(i:Int)/\i<n:=by
 have h1:=emod_nonneg z (b:=(n:Int)) (jtU h)
 have h2:=emod_lt_of_pos z (b:=(n:Int)) (o16 h)
 exact⟨(z%(n:Int)).toNat,by exact jt2 h1,by exact jzr h h2⟩
theorem jgo: ∀{th:List Th} {i:Nat} {g:Int},i<th.length->((g::th.map (·.gen)).map PV.int)[i]? =some (.int (jm8 g (th.take i)))
 | [],_,_,h=>by simp at h
 | t::r,0,g,_=>rfl
 | t::r,i+1,g,h=>by
  have:=jgo (th:=r) (i:=i) (g:=t.gen) (by simpa using h)
  rw[List.take_succ_cons]
  exact this
noncomputable def jpY(H:Hp)(i:Nat)(g':Int):Bool:=match H.th[i+1]? with
 | some b=>decide (b.gen>g')
 | none=>false
noncomputable def jqO(H:Hp)(i:Nat):Int:=match H.th[i+1]? with
 | some b=>b.addr
 | none=>0
theorem jq0{m:Nat}{Y:AHeap}{h lr a f c:Nat}{H:Hp}{ls:List (Nat×List Val)}{y:Int}{Q:PV->AHeap->Prop}(T:Stt Y h lr a f c H ls)(ha:a<=20)(hf:f<=100)(k: ∀Y',Chg [] Y Y'->Q (.bool true) Y'):C (m+6) 70 [.ref h,.ref lr,.int y] Y Q:=by
 obtain⟨rfl,V,I,S,L,F,C⟩:=T
 have hth:=C.th
 have hfr:=C.fr
 have szl:=(by decide:(100200:Nat)<sizeLine)
 have hpos:0<H.th.length:=length_pos_iff.mpr F.ne
 refine jaj (jiZ (z:=y/4) hpos) fun i hi hil=>?_
 obtain⟨t,ht⟩: ∃t,H.th[i]? =some t:=⟨_,getElem?_eq_getElem hil⟩
 have mt:=mem_of_getElem? ht
 have hp:=V.th t mt
 have hlen:H.th.length<=sizeLine:=by exact o56 ha hth szl
 have hlm: ∀{th:List Th},th.length=H.th.length->(th.map fun t=>PV.ref t.loc).length<=sizeLine:=fun h=>by rw[length_map,h];exact hlen
 have tlt:=jac hp.1
 have hi':y/4%((H.th.map fun t=>PV.ref t.loc).length:Int)=(i:Int):=by rw[length_map];exact hi
 have cast1:y/4%((H.th.map fun t=>PV.ref t.loc).length:Int)+1=((i+1:Nat):Int):=by rw[hi'];exact jsQ
 have mt':=jdV (t':={t with gen:=y%4}) ht
 have in_t:=I.in_ t mt
 have body: ∀(az ay:AHeap),Y.sz+1<=az.sz->Hv ay {H with th:=H.th.set i {t with gen:=y%4}}->Chg [t.loc] Y ay->ay.get az.sz=some (.list ((2::H.th.map (·.gen)).map .int))->ay.sz=az.sz+1->
   kS (sq (jfO jdr 5).r (m+5) (cl Q)) [some (.ref H.h),some (.ref lr),some (.int y),some (.int (y/4%((H.th.map fun t=>PV.ref t.loc).length:Int))),some (.ref t.loc),some (.int t.gen),some (.ref az.sz),none,none,none,none,none] ay:=fun az ay z3 V4 c4 b4 z4=>by
  have A4:=Acc.start (Y:=ay)
  have th5:=fun{aO:AHeap} (v:Hv aO {H with th:=H.th.set i {t with gen:=y%4}})=>(show aO.get t.loc=some (.inst .thing [some (.int t.addr),some (.int t.kind),some (.ref t.sl),some (.int (y%4)),some (.int t.size),some (.int t.serial)]) from(v.th _ mt').1)
  have V4':=V4.ext A4.chg
  refine rd (th5 V4') (rd (A4.chg.get0 b4) (gI (nn hi') (oI (x:=.int (jm8 2 (H.th.take i))) (by rw[hi',Int.toNat_natCast];exact jgo (g:=2) hil) ?_)))
  have kk: ∀aM,Acc ay ay.sz ([]++if y%4>jm8 2 (H.th.take i)then [jmg t.addr]else []) aM->kS (sq (jfO jdr 7).r (m+5) (cl Q)) [some (.ref H.h),some (.ref lr),some (.int y),some (.int (y/4%((H.th.map fun t=>PV.ref t.loc).length:Int))),some (.ref t.loc),some (.int t.gen),some (.ref az.sz),some (.ref ay.sz),none,none,none,none] aM:=?_
  ·exact cD (fun h=>rd A4.at_ (rd (th5 V4') (sI in_t.1 (gI (jaz (by decide) in_t.1) (rd A4.at_ (kk _ (by rw[if_pos h];exact A4.put _))))))) fun h=>kk _ (by rw[if_neg h];exact A4)
  intro aM A5
  have V5:=V4.ext A5.chg
  generalize hrows1:([]++if y%4>jm8 2 (H.th.take i)then [jmg t.addr]else [])=rows1 at A5
  have hr1:rows1.length<=1:=by rw[<- hrows1];split<;>simp
  have h5:=th5 V5
  have nxt: ∀{b},H.th[i+1]? =some b->(H.th.set i {t with gen:=y%4})[i+1]? =some b:=fun hb=>by rw[getElem?_set_ne (o26)];exact hb
  refine rd V5.h (rd V5.tl (gI (hlm length_set) (jA A5 (jmg (jqO H i)) (jpY H i (y%4)=true) (fun j' j=>cD (fun hlt=>?_) fun hlt=>j' ?_) fun aN A6 c6=>?_)))
  ·have hlt:i+1<H.th.length:=by rw[cast1,length_map,length_set]at hlt;exact ofNat_lt.mp hlt
   obtain⟨b,hb⟩: ∃b,H.th[i+1]? =some b:=⟨_,getElem?_eq_getElem hlt⟩
   have hpb:=(V5.th b (mem_of_getElem? (nxt hb))).1
   have in_b:=(I.in_ b (mem_of_getElem? hb)).1
   have eA:jqO H i=b.addr:=by unfold jqO;rw[hb]
   have eB:jpY H i (y%4)=decide (b.gen>y%4):=by unfold jpY;rw[hb]
   rw[eA]at j
   refine rd V5.h<|rd V5.tl<|gI (nn cast1)<|oI (it (nxt hb) cast1)<|rd hpb<|rd h5<|cD (fun hg=>rd A5.at_<|rd V5.h<|rd V5.tl<|gI (nn cast1)<|oI (it (nxt hb) cast1)<|rd hpb<|sI in_b<|gI (jaz (by decide) in_b)<|rd A5.at_<|gI (rl (o19 (jzs szl hr1)))<|j ?_) fun hg=>j' ?_
   ·rw[eB,decide_eq_true hg]
   ·rw[eB,decide_eq_false hg];decide
  ·have hb:H.th[i+1]? =none:=List.getElem?_eq_none_iff.mpr (by rw[cast1,length_map,length_set]at hlt;exact Nat.le_of_not_lt fun x=>hlt (ofNat_lt.mpr x))
   unfold jpY
   rw[hb]
   exact Bool.false_ne_true
  have V6:=V4.ext A6.chg
  have C6:=c4.thenNil A6.chg
  have hsame: ∀u∈H.th.set i {t with gen:=y%4},∃v∈H.th,v.addr=u.addr/\v.slots=u.slots/\(u.gen=v.gen\/u.gen=y%4):=fun u hu=>by
   rcases mem_or_eq_of_mem_set hu with hu | rfl
   ·exact⟨u,hu,rfl,rfl,.inl rfl⟩
   ·exact⟨t,mt,rfl,rfl,.inr rfl⟩
  have e:=jrw (H':={H with th:=H.th.set i {t with gen:=y%4}}) I ht (y%4) rfl rfl rfl rfl rfl
  have cln:=jd8 (H':={H with th:=H.th.set i {t with gen:=y%4}}) I ht rfl rfl rfl rfl rfl (by show t.addr<=_;exact o18) (by show _<=t.addr;exact o9) (Int.le_refl _)
  have erows:jaC {H with th:=H.th.set i {t with gen:=y%4}} ls=rows1++(if jpY H i (y%4)=true then [jmg (jqO H i)]else []):=by
   rw[e,<-hrows1,nil_append]
   congr 1
   unfold jpY jqO
   cases H.th[i+1]? with
   | none=>rfl
   | some b=>simp
  refine hc (H:={H with th:=H.th.set i {t with gen:=y%4}}) V6 (jbk S L C6 (jcc mt)) (jei I ht (by show t.addr<=_;exact o18) (by show _<=t.addr;exact o9)) (jim (t:=t) I cln rfl rfl in_t.1 (o5 ha hth) (o10 hf hfr) erows ?_) erows fun l7 aS A7=>?_
  ·rw[length_append];split<;>simp<;>walk_at "o"
  have V7:=V6.ext A7.chg
  have ato:jhP {H with th:=H.th.set i {t with gen:=y%4}}:=by
   show H.at_=(H.th.set i _).map _
   rw[map_set,jbi (by rw[getElem?_map,ht];rfl)]
   exact I.at_
  have inn: ∀u∈H.th.set i {t with gen:=y%4},In u.addr:=fun u hu=>by
   refine jcs (hsame u hu) fun v hv e1 _=>?_
   rw[<- e1];exact(I.in_ v hv).1
  have hys:(jaE {H with th:=H.th.set i {t with gen:=y%4}}).length<100000:=by
   have:=jbh (f:=ySl {H with th:=H.th.set i {t with gen:=y%4}}) (n:=3) (l:=H.th.set i {t with gen:=y%4}) fun u hu=>by
    refine jkV (hsame u hu) fun v hv _ e2 _=>?_
    refine le_trans (jkT _ u) ?_
    rw[<- e2];exact(I.lay.mem v hv).2.2.2.2.1
   rw[length_set]at this
   show((H.th.set i {t with gen:=y%4}).flatMap (ySl {H with th:=H.th.set i {t with gen:=y%4}})).length<100000
   exact juc ha hth this
  refine jcx (m:=m+1) (H:={H with th:=H.th.set i {t with gen:=y%4}}) V7 ato ⟨I.bits.lo,I.bits.hi⟩ inn hys fun l8 bl A8=>?_
  have V8:=V7.ext A8.chg
  refine jgH (m:=m+1) (H:={H with th:=H.th.set i {t with gen:=y%4}}) V8 ?_ (fun u hu=>?_) ⟨I.bits.lo,I.bits.hi⟩ inn (fun u hu v hv=>?_) fun l9 bC A9=>?_
  ·have:=jhV (t':={t with gen:=y%4}) I ht rfl
   have nd:=I.nda
   rw[<- this,nodup_iff_pairwise_ne,pairwise_map]at nd
   exact nd
  ·refine jkV (hsame u hu) fun v hv _ _ e3=>?_
   have:=(I.lay.mem v hv).2.2.2.2.2.1
   exact jzt rfl e3 this
  ·refine jkV (hsame u hu) fun w hw _ e2 _=>?_
   rw[<- e2]at hv
   exact jcg (H:=H) (fun x hx=>by
    obtain⟨j,hj⟩:=mem_iff_getElem?.mp hx
    by_cases hij:i=j
    ·subst hij
     rw[ht]at hj;cases hj
     exact⟨_,mt',rfl,rfl⟩
    ·exact⟨x,mem_iff_getElem?.mpr ⟨j,by show(H.th.set i _)[j]? =_;rw[getElem?_set,if_neg hij];exact hj⟩,rfl,rfl⟩) (I.slots w hw v hv)
  ·have C9:Chg [t.loc] Y bC:=((C6.thenNil A7.chg).thenNil A8.chg).thenNil A9.chg
   have q1:=A6.new
   have q2:=A7.new
   have q3:=A8.new
   have q4:=A9.new
   have r6:=jac A6.at_
   have r7:=jac A7.at_
   have r8:=jac A8.at_
   have g6:=((A7.chg.to A8.chg).to A9.chg).get0 A6.at_
   have g7:=(A8.chg.to A9.chg).get0 A7.at_
   have g8:=A9.chg.get0 A8.at_
   have z40:=c4.1
   exact rd ((V8.ext A9.chg).th _ mt').1 (ja2 (xs:=rows1++(if jpY H i (y%4)=true then [jmg (jqO H i)]else [])) (o11 q2 r6) ((jaa (by walk_at "o")).trans g7) ((jaa (by walk_at "o")).trans g6)
    (jeR (o36 q4 r8) ((jaa (by walk_at "o")).trans g8) ((jaa (by walk_at "o")).trans A9.at_) (fun x hx=>by
     refine jaj (mem_map.mp hx) fun p _ zq9=>?_;subst zq9
     exact jk4 p) (k _ (C9.back hp.1))))
 refine jap rfl rfl (rd V.h (rd V.tl (gI (hlm rfl) (gI (by rw[length_map];exact o16 hpos) (rd V.h (rd V.tl (gI (nn hi') (oI (it ht hi') (rd hp.1 (rd (V.ext (.alloc [] _)).h (cmL H.th (fun n ys Y'=>ys=((H.th.take n).map (·.gen)).map .int/\Chg [] (Y.alloc (.list [.int 2])) Y') (fun n ys Y' ⟨_,c'⟩=>(V.ext ((Chg.alloc [] _).to c')).tl) ⟨rfl,.alloc _ _⟩ ?_ ?_)))))))))))
 ·rintro n u ys Y' hu hy ⟨rfl,c'⟩
  have hpu:=((V.ext ((Chg.alloc [] (.list [.int 2])).to c')).th u (mem_of_getElem? hu)).1
  refine rd hpu ⟨hy,rl' (lt_of_le_of_lt (le_trans (Nat.le_of_eq (length_map _)) (List.take_prefix _ _).length_le) (lt_of_le_of_lt (le_trans hth ha) (by decide))),?_,c'.setNew (le_refl _)⟩
  rw[ja9 hu,map_append];rfl
 ·rintro ys az hy ⟨rfl,c3⟩
  rw[take_length]at hy
  have g2:az.get Y.sz=some (.list [.int 2]):=c3.get0 get_alloc_new
  have C3:Chg [] Y az:=(Chg.alloc [] _).to c3
  have V3:=V.ext C3
  have hp3:=(V3.th t mt).1
  have z3t:=jac hp3
  have z31:Y.sz+1<=az.sz:=by have:=c3.1;rw[jai]at this;exact this
  have V4:=fun xs=>(V3.ext (.alloc [] (.list xs))).setRec S.nd ht (t':={t with gen:=y%4}) rfl rfl rfl
  refine rd g2 (rd hy (gI ?_ (rd ((V3.ext (.alloc [] _)).th t mt).1 (body az _ z31 (V4 _) (C3.nil ((Chg.alloc _ _).to (.set in1))) ((jaa (o1 z3t)).trans get_alloc_new) (by rw[jan,jai])))))
  show 1+((H.th.map (·.gen)).map PV.int).length<=sizeLine
  rw[length_map,length_map];exact le_trans (add_le_add_left (le_trans hth ha) 1) (by decide)
end
noncomputable section
section
variable{H H':Hp}{i:Nat}{t t':Th}{l0 l1:Nat}{r0 r1:List Val}
theorem jk1{ls:List (Nat×List Val)}(I:Inv H ls)(hi:H.th[i]? =some t)(hth:H'.th=H.th.set i t')(hat:H'.at_=H.at_)(hf:H'.fin=H.fin)(hr:H'.rdy=H.rdy)(hs:t'.slots=t.slots)(h1:t'.addr<=t.addr)(h2:t.addr-1<=t'.addr)(h3:t'.addr+t'.size=t.addr+t.size-1)(hroots: ∀v∈r0++r1,jfG H v):
  jaC H' [(l0,r0),(l1,r1)]=jaP H' H'.th 16 2++jbz H'++byF (r0++r1) (t.addr+t.size-1):=by
 have mt:=mem_of_getElem? hi
 have st:=I.d.sz t mt
 have hat': ∀u∈H.th,(H'.at_.lookup u.addr).isSome=true:=fun u hu=>by rw[hat];exact jbK I.at_ I.d u hu
 have e1:=joC (H':=H') (l0:=l0) (l1:=l1) (word:=t.addr+t.size-1) hat' hroots fun w z hv=>⟨fun hne=>jfj I hi hth hat (o76 h1) h2 (jzu h3) (hroots _ hv) (.inl hne),fun he=>jow I hi hth hat he (jzv h3 he) (jzw h1 h3 st he)⟩
 have e2:jcT H'= []:=jlw hat' fun u hu v hv=>by
  rw[hth]at hu
  rcases mem_or_eq_of_mem_set hu with hu | rfl
  ·exact I.slots u hu v hv
  ·rw[hs]at hv
   exact I.slots t mt v hv
 unfold jaC
 rw[e1,e2,jhb I hat' hf hr]
 simp
theorem jnu{ls:List (Nat×List Val)}(I:Inv H ls)(hi:H.th[i]? =some t)(hth:H'.th=H.th.set i {t with size:=t.size-1})(hat:H'.at_=H.at_)(hf:H'.fin=H.fin)(hr:H'.rdy=H.rdy)(htop:H'.top=H.top)(hroots: ∀v∈r0++r1,jfG H v):
  jaC H' [(l0,r0),(l1,r1)]=byF (r0++r1) (t.addr+t.size-1):=by
 have mt:=mem_of_getElem? hi
 have lm:=I.lay.mem t mt
 have tp:=I.top
 have go:=jgt I hi
 rw[jk1 I hi hth hat hf hr rfl (by show t.addr<=_;exact jud) (by show _<=t.addr;exact o9) (by show t.addr+(t.size-1)=_;exact jzx) hroots,jc3 I hi hth hat rfl,jcm I hi hth hat,jb7 I hi htop]
 dsimp only
 rw[if_neg (o38),if_neg (o17 go),if_neg (c:=(H.at_.lookup t.addr).isSome=false) (by rw[jbK I.at_ I.d t mt];decide)]
 simp only[nil_append,append_nil]
 cases hb:H.th[i+1]? with
 | none=>dsimp only;rw[if_neg (jzy lm tp)];rfl
 | some b=>
  have:=jb4 I hi hb
  dsimp only;rw[if_neg (jzz),if_neg (o28 this)];rfl
theorem jme{ls:List (Nat×List Val)}(I:Inv H ls)(hi:H.th[i]? =some t)(hth:H'.th=H.th.set i {t with addr:=t.addr-1})(hat:H'.at_=H.at_)(hf:H'.fin=H.fin)(hr:H'.rdy=H.rdy)(htop:H'.top=H.top)(hroots: ∀v∈r0++r1,jfG H v):
  jaC H' [(l0,r0),(l1,r1)]= [jcI (t.addr-1),jbU (t.addr-1),jjH t.addr]++byF (r0++r1) (t.addr+t.size-1):=by
 have mt:=mem_of_getElem? hi
 have lm:=I.lay.mem t mt
 have tp:=I.top
 have go:=jgt I hi
 have no: ∀u∈H.th,u.addr≠t.addr-1:=fun u hu e=>by
  have h3:=I.d.sz u hu
  have:=I.d.uniq mt hu (w:=t.addr) (by unfold jcb;exact jzA lm) (by unfold jcb;exact jzB e h3)
  subst this;exact jzC e
 rw[jk1 I hi hth hat hf hr rfl (by show t.addr-1<=_;exact o9) (by show _<=t.addr-1;exact jue) (by show t.addr-1+t.size=_;exact jzD) hroots,jfl I hi hth hat (by show t.addr-1≠_;exact jzE) no,jcm I hi hth hat,jb7 I hi htop]
 dsimp only
 rw[if_pos (jzF),if_neg (o17 go),jbg I.at_ no,if_pos (c:=Option.isSome (none:Option Nat)=false) rfl]
 cases hb:H.th[i+1]? with
 | none=>dsimp only;rw[if_neg (jzG lm tp)];rfl
 | some b=>
  have:=jb4 I hi hb
  dsimp only;rw[if_neg (jzH),if_neg (o28 this)];rfl
end
theorem jmS(cells:List Val)(w:Int):(byF cells w).length<=cells.length:=by
 unfold byF;rw[length_map];exact length_filter_le _ _
theorem jeb{m:Nat}{Y aC:AHeap}{lr lo:Nat}{H:Hp}{ls':List (Nat×List Val)}{i:Nat}{t t':Th}{rows:List Str}{R:PV->AHeap->Prop}{X:List Nat}(hp:Y.get t.loc=some (jbR t))(V1:Hv aC {H with th:=H.th.set i t'})(L1:Lv aC lr ls')(c1:Chg (t.loc::X) Y aC)(hs:Srt {H with th:=H.th.set i t'})(B:Bd {H with th:=H.th.set i t'} ls')(e:jaC {H with th:=H.th.set i t'} ls'=rows)(hlz:Y.sz<=lo)(hlo:aC.get lo=some (.list (rows.map .str)))
  (kk: ∀l au,Chg [] aC au->au.get l=some (.list (rows.map .str))->au.get lo=some (.list (rows.map .str))->(au.set t.loc (jbR t)).get l=some (.list (rows.map .str))->(au.set t.loc (jbR t)).get lo=some (.list (rows.map .str))->l≠lo->Y.sz<=l->Hv au {H with th:=H.th.set i t'}->Chg X Y (au.set t.loc (jbR t))->R (.ref l) au):C (m+5) 51 [.ref H.h,.ref lr] aC R:=by
 have tlt:=jac hp
 refine hc (H:={H with th:=H.th.set i t'}) V1 L1 hs B e fun l au A=>?_
 have z1:=c1.1
 have z2:=A.new
 have z3:=jac hlo
 exact kk l au A.chg A.at_ (A.chg.get0 hlo) (by rw[jaa (jzI hlz tlt z2 z3)];exact A.at_) (by rw[jaa (o36 hlz tlt)];exact A.chg.get0 hlo) (o11 z2 z3) (jzJ hlz z2 z3) (V1.ext A.chg) ((c1.thenNil A.chg).back hp)
theorem jq8{m:Nat}{Y:AHeap}{h lr a f c:Nat}{H:Hp}{ls:List (Nat×List Val)}{y:Int}{Q:PV->AHeap->Prop}(T:Stt Y h lr a f c H ls)(ha:a<=20)(hf:f<=100)(k: ∀Y',Chg [] Y Y'->Q (.bool true) Y'):C (m+6) 73 [.ref h,.ref lr,.int y] Y Q:=by
 obtain⟨rfl,V,I,S,L,F,C⟩:=T
 have hth:=C.th
 have hfr:=C.fr
 have szl:=(by decide:(100200:Nat)<sizeLine)
 have hne:=F.ne
 have hpos:0<H.th.length:=length_pos_iff.mpr hne
 refine jaj (jiZ (z:=y/4) hpos) fun i hi hil=>?_
 obtain⟨t,ht⟩: ∃t,H.th[i]? =some t:=⟨_,getElem?_eq_getElem hil⟩
 have mt:=mem_of_getElem? ht
 have hp:=V.th t mt
 have hlen:H.th.length<=sizeLine:=by exact o56 ha hth szl
 have tlt:=jac hp.1
 have in_t:=I.in_ t mt
 have st:=I.d.sz t mt
 have hin_end:In (t.addr+t.size):=by have:=in_t.2.1;unfold In;exact juf in_t st
 have nh:t.loc≠H.h:=(S.nd.thne mt (by simp)).1
 have ntl:t.loc≠H.tl:=(S.nd.thne mt (by simp)).1
 have hlt:=jac V.h
 have tllt:=jac V.tl
 have V1:=V.setRec S.nd ht (t':={t with size:=t.size+1}) rfl rfl rfl
 have hi':y/4%((H.th.map fun t=>PV.ref t.loc).length:Int)=(i:Int):=by rw[length_map];exact hi
 have cast1:y/4%((H.th.map fun t=>PV.ref t.loc).length:Int)+1=((i+1:Nat):Int):=by rw[hi'];exact jsQ
 have hlm: ∀{th:List Th},th.length=H.th.length->(th.map fun t=>PV.ref t.loc).length<=sizeLine:=fun h=>by rw[length_map,h];exact hlen
 refine jap rfl rfl<|rd V.h<|rd V.tl<|gI (hlm rfl)<|gI (by rw[length_map];exact o16 hpos)<|rd V.h<|rd V.tl<|gI (nn hi')<|oI (it ht hi')<|rd hp.1<|rd hp.1<|cD (fun h1=>?_) fun h1=>?_
 ·have cln:=jd8 (H':={H with th:=H.th.set i {t with size:=t.size+1}}) I ht rfl rfl rfl rfl rfl (by show t.addr<=_;exact o18) (by show _<=t.addr;exact o9) (by show _<=t.addr+(t.size+1);exact jt9)
  have e:=jnv (H':={H with th:=H.th.set i {t with size:=t.size+1}}) I ht rfl rfl rfl rfl rfl
  have srt:=jei (t':={t with size:=t.size+1}) I ht (by show t.addr<=_;exact o18) (by show _<=t.addr;exact o9)
  have canc:t.size+1-1=t.size:=by exact jzK
  refine rd hp.1<|rd hp.1<|rd (V1.ext (.alloc [] _)).h<|rd (V1.ext (.alloc [] _)).tl<|gI (hlm length_set)<|cD (fun h2=>?_) fun h2=>?_
  ·have h2:i+1<H.th.length:=by rw[cast1,length_map,length_set]at h2;exact ofNat_lt.mp h2
   obtain⟨b,hb⟩: ∃b,H.th[i+1]? =some b:=⟨_,getElem?_eq_getElem h2⟩
   rw[hb]at e
   have c1: ∀{x y},Chg [t.loc] Y (((Y.set t.loc (jbR {t with size:=t.size+1})).alloc x).alloc y):=fun{x y}=>((Chg.set (by simp)).to (.alloc _ _)).to (.alloc _ _)
   refine sI hin_end<|gI (jaz (by decide) hin_end)<|jeb (lo:=((Y.set t.loc (jbR {t with size:=t.size+1})).alloc (.list [.str jjI])).sz) (t:=t) (t':={t with size:=t.size+1}) (X:=[]) hp.1 ((V1.ext (.alloc [] _)).ext (.alloc [] _)) (jbk S L c1 (jcc mt)) c1 srt (jim (t:=t) I cln rfl rfl in_t.1 (o5 ha hth) (o10 hf hfr) e (by simp)) e (by rw[jai,jan];exact o0) get_alloc_new fun l au cc g1 g2 g3 g4 hne2 hlz V2 cF=>?_
   have h2:=(V2.th _ (jdV ht)).1
   refine rd h2<|rd h2 ?_
   change jeS 4 _ (.int (t.size+1-1)) _ _ _
   rw[canc]
   exact ja2 hne2 g3 g4 (k _ cF)
  ·have hb:H.th[i+1]? =none:=List.getElem?_eq_none_iff.mpr (by rw[cast1,length_map,length_set]at h2;exact Nat.le_of_not_lt fun x=>h2 (ofNat_lt.mpr x))
   rw[hb]at e
   have c1: ∀{x},Chg [t.loc] Y ((Y.set t.loc (jbR {t with size:=t.size+1})).alloc x):=fun{x}=>(Chg.set (by simp)).to (.alloc _ _)
   refine jeb (lo:=(Y.set t.loc (jbR {t with size:=t.size+1})).sz) (t:=t) (t':={t with size:=t.size+1}) (X:=[]) hp.1 (V1.ext (.alloc [] _)) (jbk S L c1 (jcc mt)) c1 srt (jim (t:=t) I cln rfl rfl in_t.1 (o5 ha hth) (o10 hf hfr) e (by simp)) e (by rw[jan];exact o22) get_alloc_new fun l au cc g1 g2 g3 g4 hne2 hlz V2 cF=>?_
   have h2:=(V2.th _ (jdV ht)).1
   refine rd h2<|rd h2 ?_
   change jeS 4 _ (.int (t.size+1-1)) _ _ _
   rw[canc]
   exact ja2 hne2 g3 g4 (k _ cF)
 ·refine joW F.ls fun l0 l1 va vb vc vd els=>?_
  subst els
  obtain⟨cj,hcj⟩: ∃j:Nat,y/2%2=(j:Int):=⟨(y/2%2).toNat,by exact jzL h1⟩
  have hcj2:cj<2:=by exact o57 hcj
  obtain⟨w,hw⟩: ∃w,[va,vb][cj]? =some w:=⟨_,getElem?_eq_getElem (by simp;exact o57 hcj)⟩
  have hwb:([va,vb].set cj w)= [va,vb]:=jbi hw
  have m0:((l0,[va,vb]):Nat×List Val)∈ [(l0,[va,vb]),(l1,[vc,vd,.ref 16])]:=by simp
  have g0:=L.each _ m0
  have l0n:l0∉H.locs:=S.l1 l0 (by simp)
  dsimp only at g0
  refine jaQ (m:=m+4) (v:=.pl (t.addr+t.size-1) false) (i:=0) (j:=cj) L (jug hcj) (juh hcj) rfl hw ?_
  have V2:Hv (Y.set l0 (.list (([va,vb].set cj (.pl (t.addr+t.size-1) false)).map Val.pv))) H:=V.keep (S:=[l0]) (.set (by simp)) fun x hx h=>l0n (by rw[<- mem_singleton.mp h];exact hx)
  have L2:=L.set S.r2 S.l2 (i:=0) (p:=(l0,[va,vb])) rfl ([va,vb].set cj (.pl (t.addr+t.size-1) false))
  have c2:Chg [l0] Y (Y.set l0 (.list (([va,vb].set cj (.pl (t.addr+t.size-1) false)).map Val.pv))):=.set (by simp)
  dsimp only at L2
  generalize (Y.set l0 (.list (([va,vb].set cj (.pl (t.addr+t.size-1) false)).map Val.pv)))=au at V2 L2 c2 ⊢
  have S2:Sep H lr [(l0,[va,vb].set cj (.pl (t.addr+t.size-1) false)),(l1,[vc,vd,.ref 16])]:=S.relist rfl
  have hp2:=(V2.th t mt).1
  have V3:=V2.setRec S.nd ht (t':={t with size:=t.size-1}) rfl rfl rfl
  have c3:Chg [t.loc] au (au.set t.loc (jbR {t with size:=t.size-1})):=.set (by simp)
  have L3:=jbk S2 L2 c3 (jcc mt)
  have rok: ∀v∈([va,vb].set cj (.pl (t.addr+t.size-1) false))++ [vc,vd,.ref 16],jfG H v:=fun v hv=>by
   rcases mem_append.mp hv with hv | hv
   ·rcases mem_or_eq_of_mem_set hv with hv | rfl
    ·exact I.roots _ m0 v hv
    ·exact⟨t,mt,by unfold jcb;exact jui st⟩
   ·exact I.roots (l1,[vc,vd,.ref 16]) (by simp) v hv
  have hin1:In (t.addr+t.size-1):=by have:=in_t.2.1;unfold In;exact o85 in_t st
  refine rd hp2<|rd hp2<|jeA (m:=m+4) (w:=t.addr+t.size-1) L3 (by simp) hin1 fun lo ay A4=>?_
  have V4:=V3.ext A4.chg
  have L4:=L3.ext A4.chg
  have e:=jnu (H':={H with th:=H.th.set i {t with size:=t.size-1}}) (l0:=l0) (l1:=l1) I ht rfl rfl rfl rfl rfl rok
  have srt:=jei (t':={t with size:=t.size-1}) I ht (by show t.addr<=_;exact o18) (by show _<=t.addr;exact o9)
  have blen:=jmS (([va,vb].set cj (.pl (t.addr+t.size-1) false))++ [vc,vd,.ref 16]) (t.addr+t.size-1)
  have x1:=jgM I
  have x2:=je0 I
  have x3:=je1 I
  have bd:Bd {H with th:=H.th.set i {t with size:=t.size-1}} [(l0,[va,vb].set cj (.pl (t.addr+t.size-1) false)),(l1,[vc,vd,.ref 16])]:=by
   refine⟨fun u hu=>?_,x1,by show H.at_.length<64;rw[jdH I];exact o5 ha hth,fun p hp v hv=>jhQ I (rok v ?_),fun u hu v hv=>?_,x2,x3,by show H.fin.length<1000;exact o39 hf hfr,by show H.rdy.length<1000;exact o40 hf hfr,by rw[e];simp at blen;exact jzM blen⟩
   ·rcases mem_or_eq_of_mem_set (show u∈H.th.set i _ from hu)with hu | rfl
    ·exact(I.in_ u hu).1
    ·exact in_t.1
   ·simp only[mem_cons,not_mem_nil,or_false]at hp
    rcases hp with rfl | rfl
    ·exact mem_append_left _ hv
    ·exact mem_append_right _ hv
   ·rcases mem_or_eq_of_mem_set (show u∈H.th.set i _ from hu)with hu | rfl
    ·exact jdq I (I.slots u hu v hv)
    ·exact jdq I (I.slots t mt v hv)
  have cA:Chg [t.loc,l0] Y ay:=(c2.trans c3 (S'':=[t.loc,l0]) (fun _ h=>.tail _ h) fun l h=>.inl (by rw[mem_singleton.mp h];simp)).thenNil A4.chg
  have z2:=c2.1
  have z4:=A4.new
  rw[jan]at z4
  refine jeb (lo:=lo) (t:=t) (t':={t with size:=t.size-1}) (X:=[l0]) hp.1 V4 L4 cA srt bd e (o24 z2 z4) A4.at_ fun l aM c5 g1 g2 g3 g4 hne2 hlz V5 cF=>?_
  have h5:=(V5.th _ (jdV ht)).1
  dsimp only at h5
  have canc:t.size-1+1=t.size:=by exact jzN
  refine rd h5<|rd h5 ?_
  change jeS 4 _ (.int (t.size-1+1)) _ _ _
  rw[canc]
  have L6:Lv (aM.set t.loc (jbR t)) lr [(l0,[va,vb].set cj (.pl (t.addr+t.size-1) false)),(l1,[vc,vd,.ref 16])]:=jbk S2 (L4.ext c5) (.set (S:=[t.loc]) (by simp)) (jcc mt)
  refine jaQ (m:=m+4) (v:=w) (w:=.pl (t.addr+t.size-1) false) (i:=0) (j:=cj) L6 (jug hcj) (juh hcj) rfl (by show([va,vb].set cj _)[cj]? =_;rw[getElem?_set,if_pos rfl,if_pos (by simp;exact o57 hcj)]) ?_
  have hl0:=jac g0
  refine ja2 hne2 (by rw[jaa (show l0≠l by exact o36 hlz hl0)];exact g3) (by rw[jaa (show l0≠lo by exact jzO z2 z4 hl0)];exact g4) (k _ ?_)
  show Chg [] Y ((aM.set t.loc (jbR t)).set l0 (.list ((([va,vb].set cj (.pl (t.addr+t.size-1) false)).set cj w).map Val.pv)))
  rw[List.set_set,hwb]
  exact cF.back g0
theorem jpn{m:Nat}{Y:AHeap}{h lr a f c:Nat}{H:Hp}{ls:List (Nat×List Val)}{y:Int}{Q:PV->AHeap->Prop}(T:Stt Y h lr a f c H ls)(ha:a<=20)(hf:f<=100)(k: ∀Y',Chg [] Y Y'->Q (.bool true) Y'):C (m+6) 74 [.ref h,.ref lr,.int y] Y Q:=by
 obtain⟨rfl,V,I,S,L,F,C⟩:=T
 have hth:=C.th
 have hfr:=C.fr
 have szl:=(by decide:(100200:Nat)<sizeLine)
 have hne:=F.ne
 have hpos:0<H.th.length:=length_pos_iff.mpr hne
 refine jaj (jiZ (z:=y/2) hpos) fun i hi hil=>?_
 obtain⟨t,ht⟩: ∃t,H.th[i]? =some t:=⟨_,getElem?_eq_getElem hil⟩
 have mt:=mem_of_getElem? ht
 have hp:=V.th t mt
 have hlen:H.th.length<=sizeLine:=by exact o56 ha hth szl
 have tlt:=jac hp.1
 have in_t:=I.in_ t mt
 have st:=I.d.sz t mt
 have hi1:In (t.addr+1):=by have:=in_t.2;unfold In;exact jzP in_t st
 have hi2:In (t.addr-1):=by have:=in_t.2;unfold In;exact jzQ in_t st
 have hi3:In (t.addr+t.size):=by have:=in_t.2;unfold In;exact juf in_t st
 have hi4:In (t.addr+t.size-1):=by have:=in_t.2;unfold In;exact o85 in_t st
 have hlt:=jac V.h
 have tllt:=jac V.tl
 have nz:Y.sz≠t.loc:=by exact o6 tlt
 have eh: ∀{o},(Y.alloc o).get H.h=some (ja0 H):=fun{o}=>(V.ext (.alloc [] o)).h
 have etl: ∀{o},(Y.alloc o).get H.tl=some (.list (H.th.map fun t=>.ref t.loc)):=fun{o}=>(V.ext (.alloc [] o)).tl
 have ep: ∀{o},(Y.alloc o).get t.loc=some (jbR t):=fun{o}=>((V.ext (.alloc [] o)).th t mt).1
 have r1:=jaz (s:="not in the index: ") (by decide) hi1
 have r2:=jaz (s:="index of no thing: ") (by decide) in_t.1
 have r3:=jaz (s:="overlap at ") (by decide) hi3
 have r4:=jaz (s:="overlap at ") (by decide) hi2
 have r5:=jaz (s:="not in the index: ") (by decide) hi2
 have aa: ∀aF:AHeap,Hv aF H->Chg [] Y aF->Chg [t.loc] Y (aF.set t.loc (jbR {t with addr:=t.addr+1}))/\Hv (aF.set t.loc (jbR {t with addr:=t.addr+1})) {H with th:=H.th.set i {t with addr:=t.addr+1}}:=fun aF V0 c0=>⟨c0.nil (.set (by simp)),V0.setRec S.nd ht rfl rfl rfl⟩
 have hi':y/2%((H.th.map fun t=>PV.ref t.loc).length:Int)=(i:Int):=by rw[length_map];exact hi
 have cast1:y/2%((H.th.map fun t=>PV.ref t.loc).length:Int)+1=((i+1:Nat):Int):=by rw[hi'];exact jsQ
 have hlm:(H.th.map fun t=>PV.ref t.loc).length<=sizeLine:=by rw[length_map];exact hlen
 refine jap rfl rfl<|rd V.h<|rd V.tl<|gI hlm<|gI (by rw[length_map];exact o16 hpos)<|rd V.h<|rd V.tl<|gI (nn hi')<|oI (it ht hi')<|rd hp.1<|rd hp.1<|cD (fun h1=>?_) fun h1=>?_
 ·have cln:=jd8 (H':={H with th:=H.th.set i {t with addr:=t.addr+1}}) I ht rfl rfl rfl rfl rfl (by show t.addr+1<=_;exact o82) (by show _<=t.addr+1;exact o55) (by show _<=t.addr+1+t.size;exact jua)
  have e:=jmf (H':={H with th:=H.th.set i {t with addr:=t.addr+1}}) I ht rfl rfl rfl rfl rfl
  have srt:=jei (t':={t with addr:=t.addr+1}) I ht (by show t.addr+1<=_;exact o82) (by show _<=t.addr+1;exact o55)
  refine sI hi1<|gI r1<|sI in_t.1<|gI r2<|rd eh<|rd etl<|gI hlm<|cD (fun h2=>?_) fun h2=>?_
  ·have h2:i+1<H.th.length:=by rw[cast1,length_map]at h2;exact ofNat_lt.mp h2
   obtain⟨b,hb⟩: ∃b,H.th[i+1]? =some b:=⟨_,getElem?_eq_getElem h2⟩
   rw[hb]at e
   have a0:=aa ((Y.alloc (.list [.str (jbU (t.addr+1)),.str jjI,.str (jjH t.addr)])).set Y.sz (.list [.str (jbU (t.addr+1)),.str (jcI (t.addr+t.size)),.str (jjH t.addr)])) (V.ext ((Chg.alloc [] _).setNew (le_refl _))) ((Chg.alloc [] _).setNew (le_refl _))
   refine sI hi3<|gI r3<|rd get_alloc_new<|rd ((jaa nz).trans ep)<|jeb (lo:=Y.sz) (t:=t) (t':={t with addr:=t.addr+1}) (X:=[]) hp.1 a0.2 (jbk S L a0.1 (jcc mt)) a0.1 srt (jim (t:=t) I cln rfl rfl hi1 (o5 ha hth) (o10 hf hfr) e (by simp)) e (o22) ?_ fun l au cc g1 g2 g3 g4 hne2 hlz V2 cF=>?_
   ·rw[jaa (Ne.symm nz),jad (by rw[jai];exact o2)];rfl
   ·exact rd (V2.th _ (jdV ht)).1<|ja2 hne2 g3 g4 (k _ cF)
  ·have hb:H.th[i+1]? =none:=List.getElem?_eq_none_iff.mpr (by rw[cast1,length_map]at h2;exact Nat.le_of_not_lt fun x=>h2 (ofNat_lt.mpr x))
   rw[hb]at e
   have a0:=aa (Y.alloc (.list [.str (jbU (t.addr+1)),.str jjI,.str (jjH t.addr)])) (V.ext (Chg.alloc [] _)) (Chg.alloc [] _)
   refine rd ep<|jeb (lo:=Y.sz) (t:=t) (t':={t with addr:=t.addr+1}) (X:=[]) hp.1 a0.2 (jbk S L a0.1 (jcc mt)) a0.1 srt (jim (t:=t) I cln rfl rfl hi1 (o5 ha hth) (o10 hf hfr) e (by simp)) e (o22) ?_ fun l au cc g1 g2 g3 g4 hne2 hlz V2 cF=>?_
   ·rw[jaa (Ne.symm nz),get_alloc_new];rfl
   ·exact rd (V2.th _ (jdV ht)).1<|ja2 hne2 g3 g4 (k _ cF)
 ·refine joW F.ls fun l0 l1 va vb vc vd els=>?_
  subst els
  have L1:=L.ext (.alloc [] (.list [.str (jcI (t.addr-1)),.str (jbU (t.addr-1)),.str (jjH t.addr)]))
  refine sI hi2<|gI r4<|sI hi2<|gI r5<|sI in_t.1<|gI r2<|jeA (m:=m+4) (w:=t.addr+t.size-1) L1 (by simp) hi4 fun lo ay A4=>?_
  have c4:Chg [] Y ay:=(Chg.alloc [] _).to A4.chg
  have V4:=V.ext c4
  have L4:=L.ext c4
  have q0:ay.get Y.sz=some (.list [.str (jcI (t.addr-1)),.str (jbU (t.addr-1)),.str (jjH t.addr)]):=A4.chg.get0 get_alloc_new
  have blen:=jmS ([va,vb]++ [vc,vd,.ref 16]) (t.addr+t.size-1)
  simp only[length_append,length_cons,length_nil]at blen
  have hp4: ∀{o},(ay.alloc o).get t.loc=some (jbR t):=fun{o}=>((V4.ext (.alloc [] o)).th t mt).1
  have q1:=A4.at_
  have e:=jme (H':={H with th:=H.th.set i {t with addr:=t.addr-1}}) (l0:=l0) (l1:=l1) (r0:=[va,vb]) (r1:=[vc,vd,.ref 16]) I ht rfl rfl rfl rfl rfl fun v hv=>by
   rcases mem_append.mp hv with hv | hv
   ·exact I.roots (l0,[va,vb]) (by simp) v hv
   ·exact I.roots (l1,[vc,vd,.ref 16]) (by simp) v hv
  have srt:=jei (t':={t with addr:=t.addr-1}) I ht (by show t.addr-1<=_;exact o55) (by show _<=t.addr-1;exact jue)
  have x1:=jgM I
  have x2:=je0 I
  have x3:=je1 I
  have bd:Bd {H with th:=H.th.set i {t with addr:=t.addr-1}} [(l0,[va,vb]),(l1,[vc,vd,.ref 16])]:=by
   refine⟨fun u hu=>?_,x1,by show H.at_.length<64;rw[jdH I];exact o5 ha hth,fun p hp v hv=>jhQ I (I.roots p hp v hv),fun u hu v hv=>?_,x2,x3,by show H.fin.length<1000;exact o39 hf hfr,by show H.rdy.length<1000;exact o40 hf hfr,by rw[e,length_append,length_cons,length_cons,length_cons,length_nil];simp only[cons_append,nil_append]at blen ⊢;exact jzS blen⟩
   ·rcases mem_or_eq_of_mem_set (show u∈H.th.set i _ from hu)with hu | rfl
    ·exact(I.in_ u hu).1
    ·exact hi2
   ·rcases mem_or_eq_of_mem_set (show u∈H.th.set i _ from hu)with hu | rfl
    ·exact jdq I (I.slots u hu v hv)
    ·exact jdq I (I.slots t mt v hv)
  have c5:Chg [] Y (ay.alloc (.list ([.str (jcI (t.addr-1)),.str (jbU (t.addr-1)),.str (jjH t.addr)]++(byF ([va,vb]++ [vc,vd,.ref 16]) (t.addr+t.size-1)).map .str))):=c4.to (.alloc _ _)
  have c6:Chg [t.loc] Y ((ay.alloc (.list ([.str (jcI (t.addr-1)),.str (jbU (t.addr-1)),.str (jjH t.addr)]++(byF ([va,vb]++ [vc,vd,.ref 16]) (t.addr+t.size-1)).map .str))).set t.loc (jbR {t with addr:=t.addr-1})):=c5.nil (.set (by simp))
  have z4:=c4.1
  refine rd q0<|rd q1<|gI (by rw[length_map];simp only[cons_append,nil_append,length_cons,length_nil]at blen ⊢;exact jzR szl blen)<|rd hp4<|jeb (lo:=ay.sz) (t:=t) (t':={t with addr:=t.addr-1}) (X:=[]) hp.1 ((V.ext c5).setRec (t':={t with addr:=t.addr-1}) S.nd ht rfl rfl rfl) (jbk S L c6 (jcc mt)) c6 srt bd e (o49 z4) ?_ fun l au cc g1 g2 g3 g4 hne2 hlz V2 cF=>?_
  ·rw[jaa (jzT tlt nz z4),get_alloc_new,map_append];rfl
  ·exact rd (V2.th _ (jdV ht)).1<|ja2 hne2 g3 g4 (k _ cF)
theorem jd7(l:List Int):(jaG l).map (·.1)=l:=by
 unfold jaG;rw[map_map];exact(map_congr_left fun a _=>rfl).trans (List.map_id l)
theorem jpk{m:Nat}{Y:AHeap}{h lr a f c:Nat}{H:Hp}{ls:List (Nat×List Val)}{y:Int}{Q:PV->AHeap->Prop}(T:Stt Y h lr a f c H ls)(ha:a<=20)(hf:f<=100)(hcc:c<64)(k: ∀Y',Chg [] Y Y'->Q (.bool true) Y'):C (m+6) 75 [.ref h,.ref lr,.int y] Y Q:=by
 obtain⟨rfl,V,I,S,L,F,C⟩:=T
 have hth:=C.th
 have hfr:=C.fr
 have hcl:=C.cl
 have szl:=(by decide:(100200:Nat)<sizeLine)
 have hlt:=jac V.h
 have cllt:=jac V.cl
 have hel:(jaG H.cards).length=H.cards.length:=by simp[jaG]
 have h64:H.cards.length<64:=by exact jzU hcc hcl
 have gs1: ∀{x},(Y.alloc x).get H.cl=some (.dict (jaG H.cards)):=fun{x}=>(V.ext (.alloc [] x)).cl
 have r1:=emod_nonneg (y/2) (b:=(H.cards.length:Int)+1) (jzV)
 have r2:=emod_lt_of_pos (y/2) (b:=(H.cards.length:Int)+1) (juj)
 have hso:(jba H.cards).length=H.cards.length:=jfM
 have hle:(jba H.cards).length<=sizeLine:=by exact jzW hcc hcl szl hso
 have kk: ∀(lg:Nat) (gs:List Int) (au:AHeap),Chg [] Y au->au.get lg=some (.list (gs.map PV.int))->kS (sq (jfO jcL 3).r (m+5) (cl Q)) [some (.ref H.h),some (.ref lr),some (.int y),some (.ref H.cl),some (.ref lg),none,none,none,none] au:=?_
 ·have c0:=Chg.alloc (Y:=Y) [] (.list (((jaG H.cards).map (·.1)|>jba).map .int))
  have em:(((jaG H.cards).length:Nat):Int)+1=(H.cards.length:Int)+1:=by rw[hel]
  have gl: ∀n:Nat,((((jaG H.cards).map (·.1)|>jba).drop n).map PV.int).length<=sizeLine:=fun n=>by
   rw[length_map,List.length_drop,jd7];exact le_trans (Nat.sub_le _ _) hle
  have dm: ∀n:Nat,(((jaG H.cards).map (·.1)|>jba).map PV.int).drop n=(((jaG H.cards).map (·.1)|>jba).drop n).map PV.int:=fun n=>(List.map_drop ..).symm
  refine jap rfl rfl<|rd V.h<|rd V.cl<|gI (by rw[hel];exact h64)<|rd gs1<|gI (by rw[em];exact juj)<|rd get_alloc_new<|gI (by rw[em];exact r1)<|gL6 (by rw[em];exact jzX hcc hcl r2)<|gI (by rw[length_map,jd7];exact hle) ?_
  refine cD (fun _=>?_) fun _=>?_
  ·refine rd get_alloc_new<|gI (by rw[dm];exact gl _) ?_
   refine kk _ ((((jaG H.cards).map (·.1)|>jba).drop (y/2%(((jaG H.cards).length:Int)+1)).toNat).take 1) _ ((c0.to (.alloc _ _)).to (.alloc _ _)) ?_
   rw[get_alloc_new,dm,map_take];rfl
  ·refine kk _ (((jaG H.cards).map (·.1)|>jba).drop (y/2%(((jaG H.cards).length:Int)+1)).toNat) _ (c0.to (.alloc _ _)) ?_
   rw[get_alloc_new,dm]
 intro lg gs au c2 g2
 have V2:=V.ext c2
 have lglt:=jac g2
 have lt2:=V2.lt
 have z2:=c2.1
 have hcle:H.h≠H.cl:=S.nd.ne.1.2.2.1
 have nl:au.sz∉H.locs:=fun h=>by have:=lt2 _ h;exact o12 this
 have V3:Hv ((au.alloc (.dict [])).set H.h (ja0 {H with cl:=au.sz,cards:=[]})) {H with cl:=au.sz,cards:=[]}:=(V2.ext (.alloc [] (.dict []))).newCl S.nd (c:=[]) get_alloc_new nl
 have c3:Chg [H.h] Y ((au.alloc (.dict [])).set H.h (ja0 {H with cl:=au.sz,cards:=[]})):=c2.nil ((Chg.alloc _ _).to (.set (by simp)))
 have e3:(au.alloc (.dict [])).get H.h=some (ja0 H):=(V2.ext (.alloc [] (.dict []))).h
 have k3:((au.alloc (.dict [])).set H.h (ja0 {H with cl:=au.sz,cards:=[]})).get H.cl=some (.dict (jaG H.cards)):=by rw[jaa hcle];exact(V2.ext (.alloc [] (.dict []))).cl
 have g3:((au.alloc (.dict [])).set H.h (ja0 {H with cl:=au.sz,cards:=[]})).get lg=some (.list (gs.map PV.int)):=by
  rw[jaa (fun e=>by have:=V2.h;rw[e,g2]at this;cases this),jae lglt];exact g2
 have z3:((au.alloc (.dict [])).set H.h (ja0 {H with cl:=au.sz,cards:=[]})).sz=au.sz+1:=by rw[jan,jai]
 have h64':(jaG H.cards).length<64:=by rw[hel];exact h64
 have loop: ∀az:AHeap,Hv az {H with cl:=au.sz,cards:=[]}->Chg [H.h] Y az->az.get H.cl=some (.dict (jaG H.cards))->az.get lg=some (.list (gs.map PV.int))->az.sz=au.sz+1->kS (sq (jfO jcL 4).r (m+5) (cl Q)) [some (.ref H.h),some (.ref lr),some (.int y),some (.ref H.cl),some (.ref lg),none,none,none,none] az:=?_
 ·exact rd e3 (loop _ V3 c3 k3 g3 z3)
 clear V3 c3 k3 g3 z3
 intro az V3 c3 k3 g3 z3
 have nd': ∀cs,Nd {H with cl:=au.sz,cards:=cs}:=fun cs=>S.nd.newCl nl
 have hso':(jba ((jaG H.cards).map (·.1))).length=H.cards.length:=by rw[jd7];exact hso
 refine rd k3<|gI h64'<|jcr (jba ((jaG H.cards).map (·.1))) (fun i Z' Y'=>∃x cs,Z'= [some (.ref H.h),some (.ref lr),some (.int y),some (.ref H.cl),some (.ref lg),x,none,none,none]/\Hv Y' {H with cl:=au.sz,cards:=cs}/\cs.length<=i/\Chg [au.sz] (az.alloc (.list ((jba ((jaG H.cards).map (·.1))).map .int))) Y') (fun i Z' Y' zh=>by refine jmA zh fun _ _ _ _ _ c'=>?_;clear zh;exact c'.get get_alloc_new (by simp;exact jzY z3)) ⟨none,[],rfl,V3.ext (.alloc [] _),le_refl _,.refl _ _⟩ ?_ ?_
 ·intro i cd Z' Y' hcd zu2;refine jmA zu2 fun x' cs zq3 V4 hcs c4=>?_;clear zu2;subst zq3
  have hil:=(List.getElem?_eq_some_iff.mp hcd).1
  rw[hso',<-hso]at hil
  have g4:=c4.get ((Chg.alloc [] _).get0 g3) (by simp;exact o29 lglt)
  have hel4:(jaG cs).length=cs.length:=by simp[jaG]
  have pV:=V4.setCl (nd' cs) (jdE cs cd)
  rw[<- jdS]at pV
  refine rd g4<|oI jhd<|cNB (fun _=>rd V4.h<|rd V4.cl<|gI (by rw[hel4];exact jzZ hcc hcl szl hso hcs hil) ⟨_,jdE cs cd,rfl,pV,?_,c4.to (.set in1)⟩) fun _=>⟨_,cs,rfl,V4,by exact o14 hcs,c4⟩
  unfold jdE
  split
  ·exact o14 hcs
  ·rw[length_append,length_singleton];exact o44 hcs
 ·intro Z' ay zu5;refine jmA zu5 fun x' cs zq6 V4 hcs c4=>?_;clear zu5;subst zq6
  have C4:Chg [H.h] Y ay:=(c3.thenNil (.alloc _ _)).trans c4 (fun _ h=>h) fun l hl=>by rw[mem_singleton.mp hl];right;exact o49 z2
  have e:jaC {H with cl:=au.sz,cards:=cs} ls= []:=by
   rw[jp5 (H':={H with cl:=au.sz,cards:=cs}) I rfl rfl rfl rfl,if_neg (by show ¬H.top>H.top;exact o27)]
  refine hc (H:={H with cl:=au.sz,cards:=cs}) V4 (jbk S L C4 (jnh H)) I.srt (jj1 I rfl rfl rfl rfl (o5 ha hth) (o10 hf hfr) e (by simp)) e fun l5 aM A5=>?_
  have V5:=V4.ext A5.chg
  have hys:(jaE {H with cl:=au.sz,cards:=cs}).length<100000:=by
   have:=I.ylen
   show(jaE H).length<100000
   exact juc ha hth this
  have inn: ∀t∈H.th,In t.addr:=fun t ht=>(I.in_ t ht).1
  refine jcx (m:=m+1) (H:={H with cl:=au.sz,cards:=cs}) V5 I.at_ ⟨I.bits.lo,I.bits.hi⟩ inn hys fun l6 aN A6=>?_
  have V6:=V5.ext A6.chg
  refine jgH (m:=m+1) (H:={H with cl:=au.sz,cards:=cs}) V6 I.apart (fun t ht=>(I.lay.mem t ht).2.2.2.2.2.1) ⟨I.bits.lo,I.bits.hi⟩ inn (fun t ht v hv=>?_) fun l7 aS A7=>?_
  ·exact jcg (H:=H) (fun x hx=>⟨x,hx,rfl,rfl⟩) (I.slots t ht v hv)
  ·have V7:=V6.ext A7.chg
   have C7:Chg [H.h] Y aS:=((C4.thenNil A5.chg).thenNil A6.chg).thenNil A7.chg
   have q4:=C4.1
   have q5:=A5.new
   have q6:=A6.new
   have q7:=A7.new
   have r5:=jac A5.at_
   have r6:=jac A6.at_
   have r7:=jac A7.at_
   have w5:=A6.chg.1
   have w7:=A7.chg.1
   have g5:=(A6.chg.to A7.chg).get0 A5.at_
   have g6:=A7.chg.get0 A6.at_
   have CF:=C7.back (S:=[]) V.h
   have l5lt:l5<(aS.set H.h (ja0 H)).sz:=by rw[jan];exact jz0 q6 q7 r5 r6 r7
   have nA: ∀{l},Y.sz<=l->H.h≠l:=fun{l} hl e=>by exact jz1 hlt hl e
   refine rd V7.h<|ja2 (xs:=[]) (by rw[jan];exact jz2 q6 r5 r6 w7) ((jae l5lt).trans ((jaa (nA (o24 q4 q5))).trans g5)) (get_alloc_new) ?_
   refine jeR (o36 q7 r6) ((jae (by rw[jan];exact jz3 q7 r6 r7)).trans ((jaa (nA (o34 q4 q5 q6 r5))).trans g6)) ((jae (by rw[jan];exact o21 r7)).trans ((jaa (nA (jz4 q4 q5 q6 q7 r5 r6))).trans A7.at_)) (fun x hx=>?_) ?_
   ·refine jaj (mem_map.mp hx) fun p _ zq7=>?_;subst zq7
    exact jk4 p
   ·exact k _ (CF.to (.alloc _ _))
theorem Hv.newTl{Y:AHeap}{H:Hp}(V:Hv Y H)(N:Nd H){l:Nat}{th':List Th}(h:Y.get l=some (.list (th'.map fun t=>.ref t.loc)))(hl:l∉H.locs)(hs: ∀t∈th',t∈H.th)(hz:th'.length<100):Hv (Y.set H.h (ja0 {H with tl:=l,th:=th'})) {H with tl:=l,th:=th'}:=by
 obtain⟨⟨a1,a2,a3,a4,a5⟩,_⟩:=N.ne
 have nh:H.h≠l:=fun e=>hl (by walk_at "l")
 refine⟨jad (jac V.h),?_,?_,?_,?_,?_,fun t ht=>?_,hz,fun t ht=>V.small.2 t (hs t ht)⟩
 ·rw[jaa nh];exact h
 ·rw[jaa a2];exact V.al
 ·rw[jaa a3];exact V.cl
 ·rw[jaa a4];exact V.fl
 ·rw[jaa a5];exact V.rl
 ·have n:=N.thne (hs t ht) (x:=H.h) (by simp)
  rw[jaa (Ne.symm n.1),jaa (Ne.symm n.2)]
  exact V.th t (hs t ht)
theorem Hv.newAl{Y:AHeap}{H:Hp}(V:Hv Y H)(N:Nd H){l:Nat}{at':List (Int×Nat)}(h:Y.get l=some (.dict (atE at')))(hl:l∉H.locs):Hv (Y.set H.h (ja0 {H with al:=l,at_:=at'})) {H with al:=l,at_:=at'}:=by
 obtain⟨⟨a1,a2,a3,a4,a5⟩,_⟩:=N.ne
 have nh:H.h≠l:=fun e=>hl (by walk_at "l")
 refine⟨jad (jac V.h),?_,?_,?_,?_,?_,fun t ht=>?_,V.small⟩
 ·rw[jaa a1];exact V.tl
 ·rw[jaa nh];exact h
 ·rw[jaa a3];exact V.cl
 ·rw[jaa a4];exact V.fl
 ·rw[jaa a5];exact V.rl
 ·have n:=N.thne ht (x:=H.h) (by simp)
  rw[jaa (Ne.symm n.1),jaa (Ne.symm n.2)]
  exact V.th t ht
theorem Nd.newAl{H:Hp}(N:Nd H){l:Nat}{a:List (Int×Nat)}(hl:l∉H.locs):Nd {H with al:=l,at_:=a}:=by
 refine jgk N.ne fun zv8 zv9 zv0 zv1 e=>?_;obtain⟨a1,a2,a3,a4,a5⟩:=zv8;obtain⟨b1,b2,b3,b4⟩:=zv9;obtain⟨c1,c2,c3⟩:=zv0;obtain⟨d1,d2⟩:=zv1
 have nm: ∀x∈H.locs,x≠l:=fun x hx e=>hl (e▸hx)
 have n1:=nm H.h (by walk_at "l")
 have n2:=nm H.tl (by walk_at "l")
 have n3:=nm H.cl (by walk_at "l")
 have n4:=nm H.fl (by walk_at "l")
 have n5:=nm H.rl (by walk_at "l")
 refine N.re (Sublist.refl _) ?_ fun x hx=>?_
 ·show [H.h,H.tl,l,H.cl,H.fl,H.rl].Nodup
  refine nd6.mpr ?_
  exact⟨⟨a1,n1,a3,a4,a5⟩,⟨n2,b2,b3,b4⟩,⟨Ne.symm n3,Ne.symm n4,Ne.symm n5⟩,⟨d1,d2⟩,e⟩
 ·have hx:x∈ [H.h,H.tl,l,H.cl,H.fl,H.rl]:=hx
  simp only[mem_cons,not_mem_nil,or_false]at hx ⊢
  rcases hx with h | h | h | h | h | h
  ·simp[h]
  ·simp[h]
  ·right;rw[h];exact hl
  ·simp[h]
  ·simp[h]
  ·simp[h]
section
variable{H H':Hp}{ls:List (Nat×List Val)}{i:Nat}{t:Th}
theorem jp6(I:Inv H ls)(hi:H.th[i]? =some t)(hth:H'.th=H.th.take i++t::t::H.th.drop (i+1))(hat:H'.at_=H.at_)(hf:H'.fin=H.fin)(hr:H'.rdy=H.rdy)(htop:H'.top=H.top):jaC H' ls= [jcI t.addr,jgF t.addr]/\Cln H H' ls/\Srt H':=by
 obtain⟨e1,e2⟩:=jbp hi
 have mt:=mem_of_getElem? hi
 have lm:=I.lay.mem t mt
 have tp:=I.top
 have go:=jgt I hi
 have d3:=I.d
 have dj:=d3.dj
 unfold Dj at dj
 rw[e1]at dj
 refine jdo (pairwise_append.mp dj) fun dA dtB dAB=>?_
 obtain⟨dt,dB⟩:=pairwise_cons.mp dtB
 have sA: ∀a∈H.th.take i,3<=a.size:=fun a ha=>d3.sz a (mem_of_mem_take ha)
 have sB: ∀b∈H.th.drop (i+1),3<=b.size:=fun b hb=>d3.sz b (mem_of_mem_drop hb)
 have fA: ∀a∈H.th.take i,a.addr+a.size<=t.addr:=fun a ha=>dAB a ha t (by simp)
 have mem: ∀u∈H'.th,u∈H.th:=fun u hu=>by
  rw[hth]at hu
  rw[e1]
  rcases mem_append.mp hu with hu | hu
  ·exact mem_append_left _ hu
  ·rcases mem_cons.mp hu with rfl | hu
   ·exact mem_append_right _ (by simp)
   ·exact mem_append_right _ hu
 have cln:Cln H H' ls:=by
  refine⟨fun u hu v hv=>I.slots u (mem u hu) v hv,fun u hu=>by rw[hat];exact jbK I.at_ I.d u hu,fun p hp w z hv=>?_,hf,hr⟩
  refine jaj (jfx I p hp w z hv) fun u hu hin=>?_
  unfold jcb at hin
  rw[e1]at hu
  rcases mem_append.mp hu with hu | hu
  ·have fu:=fA u hu
   refine jqR (append_of_mem hu) fun A1 A2 eA=>?_
   rw[eA]at dA
   refine jdo (pairwise_append.mp dA) fun q1 q2 q3=>?_
   refine jaM (A:=A1) (B:=A2++t::t::H.th.drop (i+1)) (t:=u) (by rw[hth,eA];simp) (fun a ha=>?_) hin (fun b hb=>?_)
   ·have:=q3 a ha u (by simp)
    have:=sA a (by rw[eA];simp[ha])
    walk_at "o"
   ·rcases mem_append.mp hb with hb | hb
    ·have:=(pairwise_cons.mp q2).1 b hb;exact o13 hin this
    ·rcases mem_cons.mp hb with rfl | hb
     ·exact o13 hin fu
     ·rcases mem_cons.mp hb with rfl | hb
      ·exact o13 hin fu
      ·have:=dt b hb;exact jz5 lm hin fu this
  ·rcases mem_cons.mp hu with rfl | hu
   ·refine jaM (A:=H.th.take i++ [u]) (B:=H.th.drop (i+1)) (t:=u) (by rw[hth];simp) (fun a ha=>?_) hin (fun b hb=>?_)
    ·rcases mem_append.mp ha with ha | ha
     ·have:=fA a ha;have:=sA a ha;walk_at "o"
     ·rw[mem_singleton.mp ha];exact jz6 hin
    ·have:=dt b hb;exact o13 hin this
   ·have dtu:=dt u hu
    refine jqR (append_of_mem hu) fun B1 B2 eB=>?_
    rw[eB]at dB
    refine jdo (pairwise_append.mp dB) fun q1 q2 q3=>?_
    refine jaM (A:=H.th.take i++t::t::B1) (B:=B2) (t:=u) (by rw[hth,eB];simp) (fun a ha=>?_) hin (fun b hb=>?_)
    ·rcases mem_append.mp ha with ha | ha
     ·have:=fA a ha;have:=sA a ha;walk_at "o"
     ·rcases mem_cons.mp ha with rfl | ha
      ·exact juk hin lm dtu
      ·rcases mem_cons.mp ha with rfl | ha
       ·exact juk hin lm dtu
       ·have:=q3 a ha u (by simp)
        have:=sB a (by rw[eB];simp[ha])
        walk_at "o"
    ·have:=(pairwise_cons.mp q2).1 b hb;exact o13 hin this
 have lay:=I.lay
 rw[e1]at lay
 refine jsd (jb2 lay) fun l1 l2 l3 l4 l5 l6 l7=>?_
 have hat':=jbK I.at_ I.d
 have order:jaP H' H'.th 16 2= [jcI t.addr]:=by
  rw[hth,jbl (H:=H') l1 fun a h=>by rw[hat];exact hat' a (mem_of_mem_take h)]
  rw[jaP,jaP,jfw (H:=H') (e2:=t.addr+t.size) (g2:=t.gen) (by rw[l2];exact l7) fun a h=>by rw[hat];exact hat' a (mem_of_mem_drop h),jb7 I hi htop,hat]
  rw[if_neg (jt5 l2),if_neg (o17 go),if_neg (c:=(H.at_.lookup t.addr).isSome=false) (by rw[hat' t mt];decide),if_pos (jz7 lm),if_neg (c:=t.gen>t.gen) (o27)]
  simp only[nil_append,append_nil]
  cases hb:H.th[i+1]? with
  | none=>dsimp only;rw[if_neg (o80 lm tp)];rfl
  | some b=>
   have:=jb4 I hi hb
   dsimp only;rw[if_neg (o81),if_neg (o28 this)];rfl
 have ap:=I.apart
 rw[e1]at ap
 refine jdo (pairwise_append.mp ap) fun p1 p2 p3=>?_
 obtain⟨p4,p5⟩:=pairwise_cons.mp p2
 have index:jbz H'= [jgF t.addr]:=by
  unfold jbz
  have e3:jlX (jba (H'.at_.map (·.1))) H'.th= []:=by
   unfold jlX
   rw[List.map_eq_nil_iff,filter_eq_nil_iff]
   intro a ha
   rw[hat,I.keys]at ha
   refine jaj (mem_map.mp (sortI_mem.mp ha)) fun u hu zq2=>?_;subst zq2
   have:u.addr∈H'.th.map (·.addr):=by
    refine mem_map_of_mem ?_
    rw[hth]
    rw[e1]at hu
    rcases mem_append.mp hu with hu | hu
    ·exact mem_append_left _ hu
    ·exact mem_append_right _ (.tail _ hu)
   simpa using this
  have n1:t.addr∉jdh (H.th.take i) []:=fun h=>by
   rcases seenF_in.mp h with h | ⟨u,hu,e⟩
   ·cases h
   ·exact p3 u hu t (by simp) e
  have n2:(jdE (jdh (H.th.take i) []) t.addr).contains t.addr=true:=by
   rw[contains_iff_mem];exact putC_in.mpr (.inr rfl)
  rw[e3,append_nil,hth,jgL,jcp p1 (fun t _ h=>by cases h),jbo,jbo,if_neg (by simpa using n1),if_pos n2,jcp p5 fun u hu hm=>?_]
  ·rfl
  ·rcases putC_in.mp hm with hm | hm
   ·rcases putC_in.mp hm with hm | hm
    ·rcases seenF_in.mp hm with h | ⟨z,hz,e⟩
     ·cases h
     ·exact p3 z hz u (.tail _ hu) e
    ·exact p4 u hu hm.symm
   ·exact p4 u hu hm.symm
 refine⟨by rw[cln.check I,order,index];rfl,cln,?_⟩
 unfold Srt
 rw[hth,pairwise_append]
 refine⟨Pairwise.imp_of_mem (fun ha hb h=>by have:=sA _ ha;exact o35 h this) dA,pairwise_cons.mpr ⟨fun b hb=>?_,pairwise_cons.mpr ⟨fun b hb=>?_,Pairwise.imp_of_mem (fun ha hb h=>by have:=sB _ ha;exact o35 h this) dB⟩⟩,fun a ha b hb=>?_⟩
 ·rcases mem_cons.mp hb with rfl | hb
  ·exact jud
  ·have:=dt b hb;exact jul lm this
 ·have:=dt b hb;exact jul lm this
 ·have:=fA a ha
  have:=sA a ha
  rcases mem_cons.mp hb with rfl | hb
  ·walk_at "o"
  ·have:=dAB a ha b hb;walk_at "o"
end
theorem jpt{m:Nat}{Y:AHeap}{h lr a f c:Nat}{H:Hp}{ls:List (Nat×List Val)}{y:Int}{Q:PV->AHeap->Prop}(T:Stt Y h lr a f c H ls)(ha:a<=20)(hf:f<=100)(k: ∀Y',Chg [] Y Y'->Q (.bool true) Y'):C (m+6) 69 [.ref h,.ref lr,.int y] Y Q:=by
 obtain⟨rfl,V,I,S,L,F,C⟩:=T
 have hth:=C.th
 have hfr:=C.fr
 have szl:=(by decide:(100200:Nat)<sizeLine)
 have hpos:0<H.th.length:=length_pos_iff.mpr F.ne
 refine jaj (jiZ (z:=y) hpos) fun i hi hil=>?_
 obtain⟨t,ht⟩: ∃t,H.th[i]? =some t:=⟨_,getElem?_eq_getElem hil⟩
 have mt:=mem_of_getElem? ht
 have hp:=V.th t mt
 have hlen:H.th.length<=sizeLine:=by exact o56 ha hth szl
 have in_t:=I.in_ t mt
 have hlt:=jac V.h
 have cast1:((i:Int)+1).toNat=i+1:=by exact jz8 hi
 have e0: ∀{o},(Y.alloc o).get H.tl=some (.list (H.th.map fun t=>.ref t.loc)):=fun{o}=>(V.ext (.alloc [] o)).tl
 have dl:(H.th.drop i).length<=H.th.length:=by rw[List.length_drop];exact jz9 hpos hi
 have tl':(H.th.take (i+1)).length<=H.th.length:=by rw[length_take];exact jAa hi hil
 obtain⟨f1,f2⟩:=jbp ht
 have eth:H.th.take (i+1)++H.th.drop i=H.th.take i++t::t::H.th.drop (i+1):=by
  rw[jcf ht,take_add_one,ht];simp
 have hlm:(H.th.map fun t=>PV.ref t.loc).length<=sizeLine:=by rw[length_map];exact hlen
 have hi':y%((H.th.map fun t=>PV.ref t.loc).length:Int)=(i:Int):=by rw[length_map];exact hi
 have hit:(y%((H.th.map fun t=>PV.ref t.loc).length:Int)+1).toNat=i+1:=by rw[hi'];rfl
 have hid:(y%((H.th.map fun t=>PV.ref t.loc).length:Int)).toNat=i:=by rw[hi'];rfl
 have memth: ∀u∈H.th.take (i+1)++H.th.drop i,u∈H.th:=fun u hu=>by
  rcases mem_append.mp hu with hu | hu
  ·exact mem_of_mem_take hu
  ·exact mem_of_mem_drop hu
 have tail: ∀(lz:Nat) (aO:AHeap),Chg [] Y aO->aO.get lz=some (.list ((H.th.take (i+1)++H.th.drop i).map fun t=>.ref t.loc))->lz∉H.locs->kS (sq (jfO jeq 4).r (m+5) (cl Q)) [some (.ref H.h),some (.ref lr),some (.int y),some (.int (y%((H.th.map fun t=>PV.ref t.loc).length:Int))),some (.ref H.tl),some (.int t.addr),none] (aO.set H.h (ja0 {H with tl:=lz,th:=H.th.take (i+1)++H.th.drop i})):=?_
 ·refine jap rfl rfl<|rd V.h<|rd V.tl<|gI hlm<|gI (by rw[length_map];exact o16 hpos)<|rd V.h<|rd V.tl<|gI (nn hi')<|oI (it ht hi')<|rd hp.1<|rd V.tl<|gI (by rw[hi'];exact jAb hi)<|gL6 (by rw[hi'];exact jAc ha hth hi hil)<|gI hlm<|rd e0<|gI (nn hi')<|gL6 (by rw[hi'];exact jAd ha hth hi hil)<|gI hlm<|rd ((jae (by rw[jai];exact o2)).trans get_alloc_new)<|rd get_alloc_new<|gI (by rw[hit,hid,<-map_take,<-List.map_drop,length_map,length_map];exact jAe ha hth szl dl tl') ?_
  have c1:=fun A B D=>((Chg.alloc (Y:=Y) [] A).to (.alloc _ B)).to (.alloc _ D)
  refine rd (V.ext (c1 _ _ _)).h (tail _ _ (c1 _ _ _) (get_alloc_new.trans (by rw[hit,hid,<-map_take,<-List.map_drop,map_append])) fun h=>lt_irrefl _ (lt_of_lt_of_le (V.lt _ h) ((Chg.alloc [] _).to (.alloc _ _)).1))
 intro lz aO c1 gz n1
 have V2:=(V.ext c1).newTl S.nd gz n1 memth (by rw[length_append];exact jAf ha hth dl tl')
 refine jdo (jp6 (H':={H with tl:=lz,th:=H.th.take (i+1)++H.th.drop i}) I ht eth rfl rfl rfl rfl) fun pe cln srt=>?_
 have c2:Chg [H.h] Y (aO.set H.h (ja0 {H with tl:=lz,th:=H.th.take (i+1)++H.th.drop i})):=c1.nil (.set (by simp))
 have x1:=jgM I
 have bd:Bd {H with tl:=lz,th:=H.th.take (i+1)++H.th.drop i} ls:=cln.bd I (fun u hu=>(I.in_ u (memth u hu)).1) x1 (by show H.at_.length<64;rw[jdH I];exact o5 ha hth) (o10 hf hfr) (by rw[pe];simp)
 refine hc (H:={H with tl:=lz,th:=H.th.take (i+1)++H.th.drop i}) V2 (jbk S L c2 (jnh H)) srt bd pe fun l az A=>?_
 have V3:=V2.ext A.chg
 have CF:=(c2.thenNil A.chg).back (S:=[]) V.h
 have z1:Y.sz<=l:=le_trans c2.1 A.new
 have z3:=jac A.at_
 have rr1:=jaz (s:="overlap at ") (by decide) in_t.1
 have rr2:=jaz (s:="twice: ") (by decide) in_t.1
 exact rd V3.h<|sI in_t.1<|gI rr1<|sI in_t.1<|gI rr2<|ja2 (xs:=[jcI t.addr,jgF t.addr]) (by rw[jan];exact o1 z3) ((jae (by rw[jan];exact o21 z3)).trans ((jaa (o8 hlt z1)).trans A.at_)) get_alloc_new (k _ (CF.to (.alloc _ _)))
section
variable{H H':Hp}{ls:List (Nat×List Val)}{w:Int}{lz:Nat}
theorem jp3(I:Inv H ls)(N:noneW H w)(hth:H'.th=H.th)(hat:H'.at_=(w,lz)::H.at_)(hf:H'.fin=H.fin)(hr:H'.rdy=H.rdy)(htop:H'.top=H.top):jaC H' ls= [jjH w]/\Cln H H' ls:=by
 have look: ∀u∈H.th,(H'.at_.lookup u.addr).isSome=true:=fun u hu=>by
  have h1:=jbK I.at_ I.d u hu
  have:(u.addr==w)=false:=by simpa using N.no u hu
  rw[hat,lookup_cons,this];exact h1
 have cln:Cln H H' ls:=by
  refine⟨fun u hu v hv=>I.slots u (hth▸hu) v hv,look,fun p hp x z hv=>?_,hf,hr⟩
  refine jaj (jfx I p hp x z hv) fun u hu hin=>?_
  have h1:=jbV I.at_ I.d hu hin
  by_cases hx:x=w
  ·rw[jeT (l:=lz) (by rw[hat,lookup_cons,hx];simp)];rfl
  ·have e:H'.at_.lookup x=H.at_.lookup x:=by
    have:(x==w)=false:=by simpa using hx
    rw[hat,lookup_cons,this]
   have e2:ja8 H' x=ja8 H x:=by unfold ja8 jj2;rw[e,hth]
   rw[e2,h1];rfl
 refine⟨?_,cln⟩
 rw[cln.check I,hth,jjf (H:=H') I.lay look (by rw[htop,I.top];exact Int.le_refl _),nil_append]
 refine ji1 (by rw[hth];exact I.nda) ?_
 rw[hat,map_cons,I.keys,hth,filter_cons]
 have e1:(H.th.map (·.addr)).contains w=false:=by
  cases hc:(H.th.map (·.addr)).contains w with
  | false=>rfl
  | true=>
   refine jaj (mem_map.mp (contains_iff_mem.mp hc)) fun u hu e=>?_
   exact absurd e (N.no u hu)
 have e2:(H.th.map (·.addr)).filter (fun a=> !(H.th.map (·.addr)).contains a)= []:=by
  rw[filter_eq_nil_iff]
  intro a ha
  rw[contains_iff_mem.mpr ha];decide
 show(if (!(H.th.map (·.addr)).contains w)=true then w::_ else _)=_
 rw[e1,e2];rfl
end
theorem jpm{m:Nat}{Y:AHeap}{h lr a f c:Nat}{H:Hp}{ls:List (Nat×List Val)}{y:Int}{Q:PV->AHeap->Prop}(T:Stt Y h lr a f c H ls)(ha:a<=20)(hf:f<=100)(k: ∀Y',Chg [] Y Y'->Q (.bool true) Y'):C (m+6) 68 [.ref h,.ref lr,.int y] Y Q:=by
 obtain⟨rfl,V,I,S,L,F,C⟩:=T
 have hth:=C.th
 have hfr:=C.fr
 have szl:=(by decide:(100200:Nat)<sizeLine)
 have hlt:=jac V.h
 have lt:=V.lt
 refine jap rfl rfl<|jbF (m:=m+3) V I F.ne fun w N=>rd V.h<|ja6 (m:=m+4) V F.ne fun i z hz _=>?_
 have nl:Y.sz∉H.locs:=fun h=>by have:=lt _ h;exact o12 this
 have V1:Hv ((Y.alloc (.dict [(w,.ref z.loc)])).set H.h (ja0 {H with al:=Y.sz,at_:=[(w,z.loc)]})) {H with al:=Y.sz,at_:=[(w,z.loc)]}:=(V.ext (.alloc [] (.dict [(w,.ref z.loc)]))).newAl S.nd (at':=[(w,z.loc)]) get_alloc_new nl
 have c1:Chg [H.h] Y ((Y.alloc (.dict [(w,.ref z.loc)])).set H.h (ja0 {H with al:=Y.sz,at_:=[(w,z.loc)]})):=(Chg.alloc _ _).to (.set (by simp))
 have e1:(Y.alloc (.dict [(w,.ref z.loc)])).get H.h=some (ja0 H):=(V.ext (.alloc [] (.dict [(w,.ref z.loc)]))).h
 have ndA:=fun at'=>S.nd.newAl (a:=at') nl
 refine rd e1<|rd V1.h<|jcr H.th (fun n Z' Y'=>∃x,Z'= [some (.ref H.h),some (.ref lr),some (.int y),some (.int w),some (.ref H.al),x,none]/\Hv Y' {H with al:=Y.sz,at_:=(w,z.loc)::(H.th.take n).map jay}/\Chg [Y.sz] ((Y.alloc (.dict [(w,.ref z.loc)])).set H.h (ja0 {H with al:=Y.sz,at_:=[(w,z.loc)]})) Y') (fun n Z' Y' zh=>by refine jcs zh fun _ _ V' _=>?_;clear zh;exact V'.tl) ⟨none,rfl,V1,.refl _ _⟩ ?_ ?_
 ·intro n u Z' Y' hu zu3;refine jcs zu3 fun x' zq4 V' c'=>?_;clear zu3;subst zq4
  have mu:=mem_of_getElem? hu
  have hpu:=(V'.th u mu).1
  have fresh: ∀p∈(w,z.loc)::(H.th.take n).map jay,p.1≠u.addr:=fun p hp=>by
   rcases mem_cons.mp hp with rfl | hp
   ·exact Ne.symm (N.no u mu)
   ·refine jaj (mem_map.mp hp) fun v hv zq6=>?_;subst zq6
    obtain⟨j,hj,hjv⟩:=List.mem_take_iff_getElem.mp hv
    have hn:=(List.getElem?_eq_some_iff.mp hu).1
    have:=pairwise_iff_getElem.mp I.apart j n (o31 hj hn) hn (o74 hj hn)
    rw[hjv,(List.getElem?_eq_some_iff.mp hu).2]at this
    exact this
  have len:(atE ((w,z.loc)::(H.th.take n).map jay)).length<1000:=by unfold atE;simp only[length_map,length_cons,length_take];exact jAg ha hth
  have pV:=V'.setAt (ndA _) ((w,z.loc)::(H.th.take (n+1)).map jay)
  rw[ja9 hu]at pV
  have ep:=jlq fresh (n:=u.loc)
  rw[cons_append,show u.loc=u.loc from rfl]at ep
  refine rd V'.h<|rd hpu<|rd V'.al<|gI (jas len) ⟨_,rfl,?_,c'.to (.set in1)⟩
  rw[ja9 hu,show jhO _ _ _=_ from ep]
  exact pV
 ·intro Z' au zu7;refine jcs zu7 fun x' zq8 V2 c2=>?_;clear zu7;subst zq8
  rw[take_length]at V2
  have eat:(w,z.loc)::H.th.map jay=(w,z.loc)::H.at_:=by rw[show H.at_=_ from I.at_];rfl
  rw[eat]at V2
  obtain⟨pe,cln⟩:=jp3 (H':={H with al:=Y.sz,at_:=(w,z.loc)::H.at_}) (lz:=z.loc) I N rfl rfl rfl rfl rfl
  have C2:Chg [H.h] Y au:=c1.trans c2 (fun _ h=>h) fun l hl=>by rw[mem_singleton.mp hl];right;exact o22
  have bd:Bd {H with al:=Y.sz,at_:=(w,z.loc)::H.at_} ls:=by
   have x1:=jgM I
   refine cln.bd I (fun u hu=>(I.in_ u hu).1) (fun p hp=>?_) (by show(_::H.at_).length<64;rw[length_cons,jdH I];exact jAh ha hth) (o10 hf hfr) (by rw[pe];simp)
   rcases mem_cons.mp (show p∈(w,z.loc)::H.at_ from hp)with rfl | hp
   ·exact N.in_
   ·exact x1 p hp
  refine hc (H:={H with al:=Y.sz,at_:=(w,z.loc)::H.at_}) V2 (jbk S L C2 (jnh H)) I.srt bd pe fun l az A=>?_
  have V3:=V2.ext A.chg
  have CF:=(C2.thenNil A.chg).back (S:=[]) V.h
  have z1:=C2.1
  have z2:=A.new
  have z3:=jac A.at_
  have rr1:=jaz (s:="index of no thing: ") (by decide) N.in_
  exact rd V3.h<|sI N.in_<|gI rr1<|ja2 (xs:=[jjH w]) (by rw[jan];exact o1 z3) ((jae (by rw[jan];exact o21 z3)).trans ((jaa (jtO hlt z1 z2)).trans A.at_)) get_alloc_new (k _ (CF.to (.alloc _ _)))
theorem jhc{aR:Type}{f:Val->List aR}: ∀{l:List Val} {j:Nat} {v:Val},(∀ x∈l,f x= [])->j<l.length->(l.set j v).flatMap f=f v
 | [],j,v,_,h=>by simp at h
 | x::r,0,v,h,_=>by
  rw[set_cons_zero,flatMap_cons,jct fun y hy=>h y (.tail _ hy),append_nil]
 | x::r,j+1,v,h,hj=>by
  rw[set_cons_succ,flatMap_cons,h x (by simp),nil_append]
  exact jhc (fun y hy=>h y (.tail _ hy)) (by simpa using hj)
section
variable{H:Hp}{l0 l1:Nat}{r0 r1:List Val}{j0 j1:Nat}{v0 v1:Val}
theorem jpw{ls:List (Nat×List Val)}(I:Inv H ls){v:Val}{who:Str}(h:jfG H v):bvF H v who= []:=by
 have ha:=jbK I.at_ I.d
 cases v with
 | pl w z=>
  refine jaj h fun t ht hi=>?_;clear h
  refine jb3 fun x hx=>?_
  simp[jaf]at hx
  simp[jaW,jga,hx,jbV I.at_ I.d ht hi]
 | ref a=>exact jb3 (jaO ha (v:=.ref a) h)
 | i4 a=>exact jb3 (jaO ha (v:=.i4 a) h)
 | one a=>exact jb3 (jaO ha (v:=.one a) h)
 | two a b=>exact jb3 (jaO ha (v:=.two a b) h)
 | lc=>exact h.elim
theorem jlm(I:Inv H [(l0,r0),(l1,r1)])(h0:j0<r0.length)(h1:j1<r1.length):jaC H [(l0,r0.set j0 v0),(l1,r1.set j1 v1)]=bvF H v0 jaS++bvF H v1 jaS:=by
 have ha:=jbK I.at_ I.d
 unfold jaC
 rw[jeh I rfl,if_neg (by rw[I.top];exact o27),jgv I,jlw ha I.slots,jhb I ha rfl rfl]
 have e0: ∀x∈r0,bvF H x jaS= []:=fun x hx=>jpw I (I.roots (l0,r0) (by simp) x hx)
 have e1: ∀x∈r1,bvF H x jaS= []:=fun x hx=>jpw I (I.roots (l1,r1) (by simp) x hx)
 unfold jaJ
 rw[flatMap_cons,flatMap_cons,List.flatMap_nil,jhc e0 h0,jhc e1 h1]
 simp
theorem jil(I:Inv H [(l0,r0),(l1,r1)])(h1:H.th.length<64)(h2:H.fin.length+H.rdy.length<1000)(i0: ∀w∈jaf v0,In w)(i1: ∀w∈jaf v1,In w)(z:(jaC H [(l0,r0.set j0 v0),(l1,r1.set j1 v1)]).length<100):Bd H [(l0,r0.set j0 v0),(l1,r1.set j1 v1)]:=by
 refine⟨fun u hu=>(I.in_ u hu).1,jgM I,by rw[jdH I];exact h1,fun p hp v hv=>?_,fun t ht v hv=>jdq I (I.slots t ht v hv),je0 I,je1 I,by exact jt6 h2,by exact jt7 h2,by exact jAi z⟩
 simp only[mem_cons,not_mem_nil,or_false]at hp
 rcases hp with rfl | rfl
 ·rcases mem_or_eq_of_mem_set hv with hv | rfl
  ·exact jhQ I (I.roots (l0,r0) (by simp) v hv)
  ·exact i0
 ·rcases mem_or_eq_of_mem_set hv with hv | rfl
  ·exact jhQ I (I.roots (l1,r1) (by simp) v hv)
  ·exact i1
end
theorem jlA{Y:AHeap}{H:Hp}{lr l0 l1:Nat}{r0 r1:List Val}(V:Hv Y H)(S:Sep H lr [(l0,r0),(l1,r1)])(L:Lv Y lr [(l0,r0),(l1,r1)])(x0 x1:List Val):
  Lv (Y.set l0 (.list (x0.map Val.pv))) lr [(l0,x0),(l1,r1)]/\Hv ((Y.set l0 (.list (x0.map Val.pv))).set l1 (.list (x1.map Val.pv))) H/\Lv ((Y.set l0 (.list (x0.map Val.pv))).set l1 (.list (x1.map Val.pv))) lr [(l0,x0),(l1,x1)]/\Chg [l1,l0] Y ((Y.set l0 (.list (x0.map Val.pv))).set l1 (.list (x1.map Val.pv))):=by
 have A:=L.set S.r2 S.l2 (i:=0) (p:=(l0,r0)) rfl x0
 have S1:Sep H lr [(l0,x0),(l1,r1)]:=S.relist rfl
 have B:=A.set S1.r2 S1.l2 (i:=1) (p:=(l1,r1)) rfl x1
 have c:Chg [l1,l0] Y ((Y.set l0 (.list (x0.map Val.pv))).set l1 (.list (x1.map Val.pv))):=(Chg.set (by simp)).to (.set (by simp))
 refine⟨A,V.keep c fun l hl h=>?_,B,c⟩
 simp only[mem_cons,not_mem_nil,or_false]at h
 rcases h with rfl | rfl
 ·exact S.l1 l (by simp) hl
 ·exact S.l1 l (by simp) hl
theorem jlz{Y az:AHeap}{lr l0 l1:Nat}{r0 r1:List Val}(L:Lv Y lr [(l0,r0),(l1,r1)])(c:Chg [l1,l0] Y az)(hne:l0≠l1):Chg [] Y ((az.set l0 (.list (r0.map Val.pv))).set l1 (.list (r1.map Val.pv))):=by
 have g0:=L.each (l0,r0) (by simp)
 have g1:=L.each (l1,r1) (by simp)
 have c':Chg [l0,l1] Y az:=c.trans (.refl [] az) (fun l h=>by simp at h ⊢;exact h.symm) fun l h=>by cases h
 exact(c'.back g0).back g1
theorem jpp{m:Nat}{Y:AHeap}{h lr a f c:Nat}{H:Hp}{ls:List (Nat×List Val)}{y:Int}{Q:PV->AHeap->Prop}(T:Stt Y h lr a f c H ls)(ha:a<=20)(hf:f<=100)(k: ∀Y',Chg [] Y Y'->Q (.bool true) Y'):C (m+6) 64 [.ref h,.ref lr,.int y] Y Q:=by
 obtain⟨rfl,V,I,S,L,F,C⟩:=T
 refine jap rfl rfl ?_
 have hth:=C.th
 have hfr:=C.fr
 have szl:=(by decide:(100200:Nat)<sizeLine)
 have lt:=V.lt
 refine joW F.ls fun l0 l1 va vb vc vd els=>?_
 subst els
 have hll:l0≠l1:=by have:=S.l2;simp at this;exact this
 have hl0:=jac (L.each (l0,[va,vb]) (by simp))
 have hl1:=jac (L.each (l1,[vc,vd,.ref 16]) (by simp))
 dsimp only at hl0 hl1
 obtain⟨c0,hc0⟩: ∃j:Nat,y%2=(j:Int):=⟨(y%2).toNat,by exact jAj⟩
 obtain⟨c1,hc1⟩: ∃j:Nat,y/2%2=(j:Int):=⟨(y/2%2).toNat,by exact jAk⟩
 have hc02:c0<2:=by exact o58 hc0
 have hc12:c1<2:=by exact o57 hc1
 obtain⟨w0,hw0⟩: ∃w,[va,vb][c0]? =some w:=⟨_,getElem?_eq_getElem (by simp;exact o58 hc0)⟩
 obtain⟨w1,hw1⟩: ∃w,[vc,vd,.ref 16][c1]? =some w:=⟨_,getElem?_eq_getElem (by simp;exact o87 hc1)⟩
 refine jbF (m:=m+3) V I F.ne fun first N1=>?_
 refine jbF (m:=m+3) V I F.ne fun second N2=>?_
 refine jjF (jlA V S L ([va,vb].set c0 (.ref first)) ([vc,vd,.ref 16].set c1 (.one second))) fun LA VB LB cB=>?_
 have SB:Sep H lr [(l0,[va,vb].set c0 (.ref first)),(l1,[vc,vd,.ref 16].set c1 (.one second))]:=S.relist rfl
 refine jaQ (m:=m+4) (v:=.ref first) (i:=0) (j:=c0) L (jum hc0) (jun hc0) rfl hw0 ?_
 refine jfQ (m:=m+4) ?_
 refine jaQ (m:=m+4) (v:=.one second) (i:=1) (j:=c1) LA (juo hc1) (jup hc1) rfl hw1 ?_
 have b0:bvF H (.ref first) jaS= [jdF jaS first]:=by
  unfold bvF
  simp[jaf,jaW,jga,N1.nz,jbg I.at_ N1.no]
 have b1:bvF H (.one second) jaS= [jdF jaS second]:=by
  unfold bvF
  simp[jaf,jal,jaW,jga,N2.nz,jbg I.at_ N2.no]
 have e:jaC H [(l0,[va,vb].set c0 (.ref first)),(l1,[vc,vd,.ref 16].set c1 (.one second))]= [jdF jaS first,jdF jaS second]:=by
  rw[jlm I (by simp;exact o58 hc0) (by simp;exact o87 hc1),b0,b1];rfl
 have bd:=jil (j0:=c0) (j1:=c1) (v0:=.ref first) (v1:=.one second) I (o5 ha hth) (o10 hf hfr) (fun w hw=>by simp[jaf]at hw;rw[hw];exact N1.in_) (fun w hw=>by simp[jaf,jal,N2.nz]at hw;rw[hw];exact N2.in_) (by rw[e];simp)
 refine hc VB LB I.srt bd e fun l az A=>?_
 have L3:=LB.ext A.chg
 have V3:=VB.ext A.chg
 have C3:=cB.thenNil A.chg
 have z1:Y.sz<=l:=le_trans cB.1 A.new
 refine jjF (jlA V3 SB L3 (([va,vb].set c0 (.ref first)).set c0 w0) []) fun LA3 _ _ _=>?_
 refine jaQ (m:=m+4) (v:=w0) (w:=.ref first) (i:=0) (j:=c0) L3 (jum hc0) (jun hc0) rfl (by show([va,vb].set c0 _)[c0]? =_;rw[getElem?_set,if_pos rfl,if_pos (by simp;exact o58 hc0)]) ?_
 refine jaQ (m:=m+4) (v:=w1) (w:=.one second) (i:=1) (j:=c1) LA3 (juo hc1) (jup hc1) rfl (by show([vc,vd,.ref 16].set c1 _)[c1]? =_;rw[getElem?_set,if_pos rfl,if_pos (by simp;exact o87 hc1)]) ?_
 have CF:=jlz L C3 hll
 have q0:([va,vb].set c0 (.ref first)).set c0 w0= [va,vb]:=by rw[List.set_set];exact jbi hw0
 have q1:([vc,vd,.ref 16].set c1 (.one second)).set c1 w1= [vc,vd,.ref 16]:=by rw[List.set_set];exact jbi hw1
 dsimp only
 rw[q0,q1]
 have p1:=jfz N1.in_
 have p2:=jfz N2.in_
 have z3:=jac A.at_
 have lne:l0≠l/\l1≠l:=⟨by exact o8 hl0 z1,by exact o8 hl1 z1⟩
 have g:=A.at_
 rw[show ([jdF jaS first,jdF jaS second]:List Str)= [rootPre++sOf first,rootPre++sOf second] by rw[jfC,jfC]]at g
 exact sI N1.in_<|gI p1<|sI N2.in_<|gI p2<|ja2 (xs:=[rootPre++sOf first,rootPre++sOf second]) (by rw[jan,jan];exact o1 z3) ((jae (by rw[jan,jan];exact o21 z3)).trans ((jaa lne.2).trans ((jaa lne.1).trans g))) get_alloc_new (k _ (CF.to (.alloc _ _)))
theorem joi{m:Nat}{Y:AHeap}{h lr a f c:Nat}{H:Hp}{ls:List (Nat×List Val)}{y:Int}{Q:PV->AHeap->Prop}(T:Stt Y h lr a f c H ls)(ha:a<=20)(hf:f<=100)(k: ∀Y',Chg [] Y Y'->Q (.bool true) Y'):C (m+6) 66 [.ref h,.ref lr,.int y] Y Q:=by
 obtain⟨rfl,V,I,S,L,F,C⟩:=T
 refine jap rfl rfl ?_
 have hth:=C.th
 have hfr:=C.fr
 have szl:=(by decide:(100200:Nat)<sizeLine)
 have lt:=V.lt
 refine joW F.ls fun l0 l1 va vb vc vd els=>?_
 subst els
 have hll:l0≠l1:=by have:=S.l2;simp at this;exact this
 have hl0:=jac (L.each (l0,[va,vb]) (by simp))
 have hl1:=jac (L.each (l1,[vc,vd,.ref 16]) (by simp))
 dsimp only at hl0 hl1
 obtain⟨c0,hc0⟩: ∃j:Nat,y/3%2=(j:Int):=⟨(y/3%2).toNat,by exact jAl⟩
 have hc02:c0<2:=by exact o59 hc0
 obtain⟨w0,hw0⟩: ∃w,[va,vb][c0]? =some w:=⟨_,getElem?_eq_getElem (by simp;exact o59 hc0)⟩
 obtain⟨w1,hw1⟩: ∃w,[vc,vd,.ref 16][c0]? =some w:=⟨_,getElem?_eq_getElem (by simp;exact o88 hc0)⟩
 refine ja6 (m:=m+4) V F.ne fun i t ht _=>?_
 have mt:=mem_of_getElem? ht
 have hp:=V.th t mt
 have in_t:=I.in_ t mt
 have st:=I.d.sz t mt
 have tp:=I.tophi
 have tt:=I.top
 obtain⟨word,hword,hin,hno⟩: ∃word,nth [PV.int (H.top+y/6%3),PV.int 15,PV.int 0] (y%3).toNat=some (.int word)/\In word/\∀u∈H.th,¬jcb u word:=by
  rcases jBb y with h | h | h<;>rw[h]
  ·refine⟨_,rfl,by unfold In;exact jAm tp,fun u hu hi=>?_⟩
   have:=I.lay.mem u hu
   unfold jcb at hi;exact jAn tt hi this
  ·refine⟨_,rfl,by unfold In;exact jtV,fun u hu hi=>?_⟩
   have:=I.lay.mem u hu
   unfold jcb at hi;exact jAo hi this
  ·refine⟨_,rfl,by unfold In;exact o79,fun u hu hi=>?_⟩
   have:=I.lay.mem u hu
   unfold jcb at hi;exact jAp hi this
 have hnf:=jm1 I.at_ I.d hno
 have good1:(∀ w∈jaf (.pl (t.addr+t.size-1) true),In w)/\bvF H (.pl (t.addr+t.size-1) true) jaS= []:=by
  refine⟨fun w hw=>?_,jpw I ⟨t,mt,by unfold jcb;exact jui st⟩⟩
  simp[jaf]at hw
  rw[hw];unfold In;exact o85 in_t st
 have kk: ∀v1:Val,(∀ w∈jaf v1,In w)->bvF H v1 jaS= []->kS (sq (jfO jdI 4).r (m+5) (cl Q)) [some (.ref H.h),some (.ref lr),some (.int y),some (.ref t.loc),some (.int word),some v1.pv,none,none,none] Y:=?_
 ·exact rd V.h<|gI (jAq)<|gL3 (jAr)<|oI hword<|rd hp.1<|rd hp.1<|cD (fun _=>kk .lc (fun w hw=>(by cases hw)) rfl) fun _=>kk (.pl (t.addr+t.size-1) true) good1.1 good1.2
 intro v1 g1 g2
 refine jjF (jlA V S L ([va,vb].set c0 (.pl word true)) ([vc,vd,.ref 16].set c0 v1)) fun LA VB LB cB=>?_
 have SB:Sep H lr [(l0,[va,vb].set c0 (.pl word true)),(l1,[vc,vd,.ref 16].set c0 v1)]:=S.relist rfl
 refine jaQ (m:=m+4) (v:=.pl word true) (i:=0) (j:=c0) L (juq hc0) (jur hc0) rfl hw0 ?_
 refine jaQ (m:=m+4) (v:=v1) (i:=1) (j:=c0) LA (jus hc0) (jut hc0) rfl hw1 ?_
 have b0:bvF H (.pl word true) jaS= [jdF jaS word]:=by
  unfold bvF
  simp[jaf,jaW,jga,hnf]
 have e:jaC H [(l0,[va,vb].set c0 (.pl word true)),(l1,[vc,vd,.ref 16].set c0 v1)]= [jdF jaS word]:=by
  rw[jlm I (by simp;exact o59 hc0) (by simp;exact o88 hc0),b0,g2];rfl
 have bd:=jil (j0:=c0) (j1:=c0) (v0:=.pl word true) (v1:=v1) I (o5 ha hth) (o10 hf hfr) (fun w hw=>by simp[jaf]at hw;rw[hw];exact hin) g1 (by rw[e];simp)
 refine hc VB LB I.srt bd e fun l az A=>?_
 have L3:=LB.ext A.chg
 have V3:=VB.ext A.chg
 have C3:=cB.thenNil A.chg
 have z1:Y.sz<=l:=le_trans cB.1 A.new
 refine jjF (jlA V3 SB L3 (([va,vb].set c0 (.pl word true)).set c0 w0) []) fun LA3 _ _ _=>?_
 refine jaQ (m:=m+4) (v:=w0) (w:=.pl word true) (i:=0) (j:=c0) L3 (juq hc0) (jur hc0) rfl (by show([va,vb].set c0 _)[c0]? =_;rw[getElem?_set,if_pos rfl,if_pos (by simp;exact o59 hc0)]) ?_
 refine jaQ (m:=m+4) (v:=w1) (w:=v1) (i:=1) (j:=c0) LA3 (jus hc0) (jut hc0) rfl (by show([vc,vd,.ref 16].set c0 _)[c0]? =_;rw[getElem?_set,if_pos rfl,if_pos (by simp;exact o88 hc0)]) ?_
 have CF:=jlz L C3 hll
 have q0:([va,vb].set c0 (.pl word true)).set c0 w0= [va,vb]:=by rw[List.set_set];exact jbi hw0
 have q1:([vc,vd,.ref 16].set c0 v1).set c0 w1= [vc,vd,.ref 16]:=by rw[List.set_set];exact jbi hw1
 dsimp only
 rw[q0,q1]
 have p1:=jfz hin
 have z3:=jac A.at_
 have lne:l0≠l/\l1≠l:=⟨by exact o8 hl0 z1,by exact o8 hl1 z1⟩
 have g:=A.at_
 rw[show ([jdF jaS word]:List Str)= [rootPre++sOf word] by rw[jfC]]at g
 exact sI hin<|gI p1<|ja2 (xs:=[rootPre++sOf word]) (by rw[jan,jan];exact o1 z3) ((jae (by rw[jan,jan];exact o21 z3)).trans ((jaa lne.2).trans ((jaa lne.1).trans g))) get_alloc_new (k _ (CF.to (.alloc _ _)))
theorem jnw{H H':Hp}{ls:List (Nat×List Val)}{w o:Int}(I:Inv H ls)(hw:H.at_.lookup w=none)(ho:H.at_.lookup o=none)(hth:H'.th=H.th)(hat:H'.at_=H.at_)(hf:H'.fin=H.fin++ [w])(hr:H'.rdy=H.rdy++ [o])(htop:H'.top=H.top):jaC H' ls= [jnC w,joA o]:=by
 have ha:=jbK I.at_ I.d
 have ha': ∀t∈H.th,(H'.at_.lookup t.addr).isSome=true:=fun t ht=>by rw[hat];exact ha t ht
 have l1:jhf H' H'.fin= [w]:=by
  unfold jhf
  rw[hf,hat,filter_append,filter_eq_nil_iff.mpr fun a h=>?_]
  ·simp[hw]
  ·refine jaj (I.fin a h) fun t ht zq2=>?_;subst zq2
   rw[ha t ht];decide
 have l2:jhf H' H'.rdy= [o]:=by
  unfold jhf
  rw[hr,hat,filter_append,filter_eq_nil_iff.mpr fun a h=>?_]
  ·simp[ho]
  ·refine jaj (I.rdy a h) fun t ht zq3=>?_;subst zq3
   rw[ha t ht];decide
 unfold jaC
 rw[hth,jeh I hat,if_neg (by rw[htop,I.top];exact o27),jgu I hth hat,jfD ha' I.roots (jny I hth hat),jlw ha' (fun t ht=>I.slots t (hth▸ht))]
 unfold jqM
 rw[l1,l2]
 rfl
theorem jmQ{m:Nat}{Y:AHeap}{h lr a f c:Nat}{H:Hp}{ls:List (Nat×List Val)}{y:Int}{Q:PV->AHeap->Prop}(T:Stt Y h lr a f c H ls)(ha:a<=20)(hf:f<=100)(k: ∀Y',Chg [] Y Y'->Q (.bool true) Y'):C (m+6) 72 [.ref h,.ref lr,.int y] Y Q:=by
 obtain⟨rfl,V,I,S,L,F,C⟩:=T
 refine jap rfl rfl ?_
 have hth:=C.th
 have hfr:=C.fr
 have szl:=(by decide:(100200:Nat)<sizeLine)
 have lt:=V.lt
 refine jbF (m:=m+3) V I F.ne fun w N=>?_
 refine jbF (m:=m+3) V I F.ne fun w2 N2=>?_
 have no0: ∀t∈H.th,t.addr≠0:=fun t ht=>(jbw I ht).2
 have kk: ∀o,In o->H.at_.lookup o=none->kS (sq (jfO jdk 3).r (m+5) (cl Q)) [some (.ref H.h),some (.ref lr),some (.int y),some (.int w),some (.int o),none] Y:=?_
 ·exact cD (fun _=>kk 0 (by unfold In;exact o79) (jbg I.at_ no0)) fun _=>kk w2 N2.in_ (jbg I.at_ N2.no)
 intro o hino hlo
 have N1:=S.nd
 have flt:=jac V.fl
 have rlt:=jac V.rl
 have V1:=V.setFl S.nd (H.fin++ [w])
 have N2':Nd {H with fin:=H.fin++ [w]}:=⟨N1.six,N1.th,N1.ap⟩
 have V2:=V1.setRl N2' (H.rdy++ [o])
 have c2:Chg [H.rl,H.fl] Y ((Y.set H.fl (.list ((H.fin++ [w]).map .int))).set H.rl (.list ((H.rdy++ [o]).map fun a=>(Val.ref a).pv))):=(Chg.set (by simp)).to (.set (by simp))
 have h1:=V1.h
 have r1:=V1.rl
 have e1:(H.fin++ [w]).map PV.int=H.fin.map PV.int++ [PV.int w]:=by simp
 have e2:(H.rdy++ [o]).map (fun a=>(Val.ref a).pv)=H.rdy.map (fun a=>(Val.ref a).pv)++ [PV.tup [.int 4,.int o]]:=by simp[jnB]
 rw[e1]at h1 r1 V2 c2
 rw[e2]at V2 c2
 have lz1:H.fin.length<sizeLine:=by exact jAs hf hfr szl
 have lz2:H.rdy.length<sizeLine:=by exact jAt hf hfr szl
 have e:=jnw (H':={H with fin:=H.fin++ [w],rdy:=H.rdy++ [o]}) I (jbg I.at_ N.no) hlo rfl rfl rfl rfl rfl
 have i1:=je0 I
 have i2:=je1 I
 have x1:=jgM I
 have bd:Bd {H with fin:=H.fin++ [w],rdy:=H.rdy++ [o]} ls:=by
  refine⟨fun u hu=>(I.in_ u hu).1,x1,by show H.at_.length<64;rw[jdH I];exact o5 ha hth,fun p hp v hv=>jhQ I (I.roots p hp v hv),fun t ht v hv=>jdq I (I.slots t ht v hv),fun a ha=>?_,fun a ha=>?_,?_,?_,by rw[e];simp⟩
  ·rcases mem_append.mp (show a∈H.fin++ [w] from ha)with h | h
   ·exact i1 a h
   ·rw[mem_singleton.mp h];exact N.in_
  ·rcases mem_append.mp (show a∈H.rdy++ [o] from ha)with h | h
   ·exact i2 a h
   ·rw[mem_singleton.mp h];exact hino
  ·show(H.fin++ [w]).length<1000
   rw[length_append,length_singleton];exact jAu hf hfr
  ·show(H.rdy++ [o]).length<1000
   rw[length_append,length_singleton];exact jAv hf hfr
 have mm: ∀x∈ [H.rl,H.fl],x∈H.locs:=fun x hx=>by
  simp only[mem_cons,not_mem_nil,or_false]at hx
  rcases hx with rfl | rfl<;>walk_at "l"
 refine rd V.h<|rd V.fl<|rd V.fl<|gI (by rw[length_map];exact lz1)<|rd h1<|rd r1<|rd r1<|gI (by rw[length_map];exact lz2)<|hc (H:={H with fin:=H.fin++ [w],rdy:=H.rdy++ [o]}) V2 (jbk S L c2 mm) I.srt bd e fun l az A=>?_
 have V3:=V2.ext A.chg
 have h3:=V3.h
 have f3:=V3.fl
 have r3:=V3.rl
 rw[e1]at f3
 rw[e2]at r3
 have C3:=c2.thenNil A.chg
 have hfne:H.fl≠H.h:=Ne.symm S.nd.ne.1.2.2.2.1
 have hrne:H.fl≠H.rl:=S.nd.ne.2.2.2.2
 have z1:Y.sz<=l:=le_trans c2.1 A.new
 have z3:=jac A.at_
 have p1:=jaz (s:="finals hold ") (by decide) N.in_
 have p2:=jaz (s:="ready holds ") (by decide) hino
 have C3':Chg [H.fl,H.rl] Y az:=C3.trans (.refl [] az) (fun l h=>by simp at h ⊢;exact h.symm) fun l h=>by cases h
 have CF:=(C3'.back V.fl).back V.rl
 exact rd h3<|rd f3<| .mk (ys:=H.fin.map PV.int) rfl<|rd ((jaa hfne).trans h3)<|rd ((jaa hrne).trans r3)<| .mk (ys:=H.rdy.map fun a=>(Val.ref a).pv) rfl<|sI N.in_<|gI p1<|sI hino<|gI p2<|ja2 (xs:=[jnC w,joA o]) (by rw[jan,jan];exact o1 z3) ((jae (by rw[jan,jan];exact o21 z3)).trans ((jaa (o8 rlt z1)).trans ((jaa (o8 flt z1)).trans A.at_))) get_alloc_new (k _ (CF.to (.alloc _ _)))
theorem jfi{ah aR:Type}{f:ah->List aR}: ∀{l:List ah} {j:Nat} {v:ah},(∀ x∈l,f x= [])->j<l.length->(l.set j v).flatMap f=f v
 | [],j,v,_,h=>by simp at h
 | x::r,0,v,h,_=>by
  rw[set_cons_zero,flatMap_cons,jct fun y hy=>h y (.tail _ hy),append_nil]
 | x::r,j+1,v,h,hj=>by
  rw[set_cons_succ,flatMap_cons,h x (by simp),nil_append]
  exact jfi (fun y hy=>h y (.tail _ hy)) (by simpa using hj)
section
variable{H H':Hp}{ls:List (Nat×List Val)}{i k:Nat}{t:Th}{v:Val}
theorem jp4(I:Inv H ls)(hi:H.th[i]? =some t)(hk:k<t.slots.length)(hth:H'.th=H.th.set i {t with slots:=t.slots.set k v})(hat:H'.at_=H.at_)(hf:H'.fin=H.fin)(hr:H'.rdy=H.rdy)(htop:H'.top=H.top):jaC H' ls=bvF H' v (jaN t.addr):=by
 have ha:=jbK I.at_ I.d
 have ha': ∀t∈H.th,(H'.at_.lookup t.addr).isSome=true:=fun t ht=>by rw[hat];exact ha t ht
 have mt:=mem_of_getElem? hi
 have hil:=(List.getElem?_eq_some_iff.mp hi).1
 have lm:=I.lay.mem t mt
 have tp:=I.top
 have go:=jgt I hi
 have order:jaP H' H'.th 16 2= []:=by
  rw[jcm I hi hth hat,jb7 I hi htop]
  dsimp only
  rw[if_neg (o38),if_neg (o17 go),if_neg (c:=(H.at_.lookup t.addr).isSome=false) (by rw[ha t mt];decide)]
  simp only[nil_append]
  cases hb:H.th[i+1]? with
  | none=>dsimp only;rw[if_neg (o80 lm tp)]
  | some b=>
   have:=jb4 I hi hb
   dsimp only;rw[if_neg (o81),if_neg (o28 this)];rfl
 have roots:jaJ H' ls= []:=jfD ha' I.roots fun p hp w z hv=>jfj I hi hth hat (by show t.addr<=_;exact o18) (by show _<=t.addr;exact o9) (by show _<=t.addr+t.size;exact ju6) (jfx I p hp w z hv) (.inr (Int.le_refl _))
 have th:jcT H'=bvF H' v (jaN t.addr):=by
  unfold jcT
  rw[hth,jfi (fun u hu=>jct fun w hw=>jb3 (jaO ha' (I.slots u hu w hw))) hil]
  exact jfi (fun w hw=>jb3 (jaO ha' (I.slots t mt w hw))) hk
 unfold jaC
 rw[order,jc3 I hi hth hat rfl,roots,th,jhb I ha' hf hr]
 simp
theorem jlJ(I:Inv H ls)(hat:H'.at_=H.at_){w0 w1:Int}(n0:noneW H w0)(n1:noneW H w1)(who:Str):bvF H' (.two w0 w1) who= [w0,w1].map (jdF who):=by
 unfold bvF
 simp[jaf,jal,jaW,jga,n0.nz,n1.nz,hat,jbg I.at_ n0.no,jbg I.at_ n1.no]
theorem jlI(I:Inv H ls)(hat:H'.at_=H.at_){w0:Int}(n0:noneW H w0)(who:Str):bvF H' (.ref w0) who= [w0].map (jdF who):=by
 unfold bvF
 simp[jaf,jaW,jga,n0.nz,hat,jbg I.at_ n0.no]
theorem jj5(I:Inv H ls)(hat:H'.at_=H.at_){w0:Int}(n0:noneW H w0)(ht:t∈H.th)(who:Str):bvF H' (.two t.addr w0) who= [w0].map (jdF who):=by
 unfold bvF
 have h1:=jbK I.at_ I.d t ht
 obtain⟨l,hl⟩:=Option.isSome_iff_exists.mp h1
 simp[jaf,jal,jaW,jga,n0.nz,(jbw I ht).2,hat,jbg I.at_ n0.no,hl]
end
theorem jpq{m:Nat}{Y:AHeap}{h lr a f c:Nat}{H:Hp}{ls:List (Nat×List Val)}{y:Int}{Q:PV->AHeap->Prop}(T:Stt Y h lr a f c H ls)(ha:a<=20)(hf:f<=100)(k: ∀Y',Chg [] Y Y'->Q (.bool true) Y'):C (m+6) 65 [.ref h,.ref lr,.int y] Y Q:=by
 obtain⟨rfl,V,I,S,L,F,C⟩:=T
 have hth:=C.th
 have hfr:=C.fr
 have szl:=(by decide:(100200:Nat)<sizeLine)
 have lt:=V.lt
 refine jap rfl rfl<|ja6 (m:=m+4) V F.ne fun i0 t0 ht0 _=>?_
 have mt0:=mem_of_getElem? ht0
 have hp0:=V.th t0 mt0
 have hts0:=V.small.2 t0 mt0
 have e0:t0.slots.length<=sizeLine:=by exact o37 szl hts0
 refine jdp F.th fun u0 r0 eth hu0=>?_
 have hu0r:(H.th.map fun t=>PV.ref t.loc)[0]? =some (.ref u0.loc):=jrW (by rw[eth];rfl)
 have k1: ∀(i:Nat) (t:Th),H.th[i]? =some t->0<t.slots.length->kS (sq (jfO jb9 2).r (m+5) (cl Q)) [some (.ref H.h),some (.ref lr),some (.int y),some (.ref t.loc),none,none,none,none,none] Y:=?_
 ·refine rd hp0.1<|rd hp0.2<|gI (by rw[length_map];exact e0)<|cD (fun _=>rd V.h<|rd V.tl<|oI hu0r<|k1 0 u0 (by rw[eth];rfl) (jAw hu0)) fun hn=>k1 i0 t0 ht0 ?_
  rw[length_map]at hn;exact jAx fun e=>hn (by rw[e];rfl)
 intro i t ht hpos
 have mt:=mem_of_getElem? ht
 have hp:=V.th t mt
 have hts:=V.small.2 t mt
 have e1:t.slots.length<=sizeLine:=by exact o37 szl hts
 have in_t:=I.in_ t mt
 refine jaj (jiZ (z:=y/3) hpos) fun kk hkk hkl=>?_
 have hi':y/3%((t.slots.map Val.pv).length:Int)=(kk:Int):=by rw[length_map];exact hkk
 have ek:(y/3%((t.slots.map Val.pv).length:Int)).toNat=kk:=by rw[hi'];rfl
 have hle1:(t.slots.map Val.pv).length<=sizeLine:=by rw[length_map];exact e1
 refine rd hp.1<|rd hp.2<|gI hle1<|gI (by rw[length_map];exact o16 hpos)<|jbF (m:=m+3) V I F.ne fun w0 N0=>jbF (m:=m+3) V I F.ne fun w1 N1=>?_
 have V1:=V.ext (.alloc [] (.list [.int w0,.int w1]))
 have hp1:=V1.th t mt
 obtain⟨vo,hvo⟩: ∃v,t.slots[kk]? =some v:=⟨_,getElem?_eq_getElem hkl⟩
 have g1:(Y.alloc (.list [.int w0,.int w1])).get Y.sz=some (.list [.int w0,.int w1]):=get_alloc_new
 have tslt:=jac hp.2
 have setm: ∀v:Val,(t.slots.map Val.pv).set (y/3%((t.slots.map Val.pv).length:Int)).toNat v.pv=(t.slots.set kk v).map Val.pv:=fun v=>by rw[ek];exact map_set.symm
 have lts:y/3%((t.slots.map Val.pv).length:Int)<((t.slots.map Val.pv).length:Int):=by rw[hi',length_map];exact ofNat_lt.mpr hkl
 have k2: ∀(lw:Nat) (ws:List Int) (v:Val) (au:AHeap),au.get lw=some (.list (ws.map .int))->Y.sz<=lw->Chg [t.sl] Y au->Hv au {H with th:=H.th.set i {t with slots:=t.slots.set kk v}}->(∀ H':Hp,H'.at_=H.at_->bvF H' v (jaN t.addr)=ws.map (jdF (jaN t.addr)))->(∀ w∈ws,In w)->(∀ w∈jaf v,In w)->ws.length<=2->kS (sq (jfO jb9 6).r (m+5) (cl Q)) [some (.ref H.h),some (.ref lr),some (.int y),some (.ref t.loc),some (.int (y/3%((t.slots.map Val.pv).length:Int))),some (.ref lw),some vo.pv,none,none] au:=?_
 ·have V2:=V1.ext (.alloc [] (.list [.int w0]))
  have hp2:=V2.th t mt
  have two: ∀{aO:AHeap},Hv aO H->∀v:Val,Hv (aO.set t.sl (.list ((t.slots.map Val.pv).set (y/3%((t.slots.map Val.pv).length:Int)).toNat v.pv))) {H with th:=H.th.set i {t with slots:=t.slots.set kk v}}:=fun Vt v=>by
   rw[setm];exact Vt.setSl S.nd ht (s:=t.slots.set kk v) (by rw[length_set];exact hts)
  have i1: ∀w∈ [w0],In w:=fun w hw=>by rw[mem_singleton.mp hw];exact N0.in_
  have cc: ∀{o},Chg [t.sl] Y ((Y.alloc (.list [.int w0,.int w1])).set t.sl o):=(Chg.alloc _ _).to (.set in1)
  have cc2: ∀{o},Chg [t.sl] Y (((Y.alloc (.list [.int w0,.int w1])).alloc (.list [.int w0])).set t.sl o):=((Chg.alloc _ _).to (.alloc _ _)).to (.set in1)
  have nsl:t.sl≠(Y.alloc (.list [.int w0,.int w1])).sz:=by rw[jai];exact o23 tslt
  have hlz:Y.sz<=(Y.alloc (.list [.int w0,.int w1])).sz:=by rw[jai];exact o0
  refine rd hp1.1<|rd hp1.2<|gI (nn hi')<|oI (it hvo hi')<|cD (fun _=>rd g1<|rd g1<|jdY (m:=m+3)<|rd hp1.1<|rd hp1.2<|gI (nn hi')<|gI lts<|k2 _ [w0,w1] (.two w0 w1) _ ((jaa (o1 tslt)).trans g1) (le_refl _) cc (two V1 (.two w0 w1)) (fun H' hH=>jlJ I hH N0 N1 _) ?_ ?_ (le_refl 2)) fun _=>cD (fun _=>rd g1<|rd get_alloc_new<|rd hp2.1<|rd hp2.2<|gI (nn hi')<|gI lts<|k2 _ [w0] (.ref w0) _ ((jaa nsl).trans get_alloc_new) hlz cc2 (two V2 (.ref w0)) (fun H' hH=>jlI I hH N0 _) i1 ?_ (le_succ 1)) fun _=>rd g1<|rd hp2.1<|rd get_alloc_new<|jdY (m:=m+3)<|rd hp2.1<|rd hp2.2<|gI (nn hi')<|gI lts<|k2 _ [w0] (.two t.addr w0) _ ((jaa nsl).trans get_alloc_new) hlz cc2 (two V2 (.two t.addr w0)) (fun H' hH=>jj5 I hH N0 mt _) i1 ?_ (le_succ 1)
  ·intro w hw
   simp at hw
   rcases hw with rfl | rfl
   ·exact N0.in_
   ·exact N1.in_
  ·intro w hw
   simp[jaf,jal,N0.nz,N1.nz]at hw
   rcases hw with rfl | rfl
   ·exact N0.in_
   ·exact N1.in_
  ·intro w hw
   simp[jaf]at hw;rw[hw];exact N0.in_
  ·intro w hw
   simp[jaf,jal,N0.nz,(jbw I mt).2]at hw
   rcases hw with rfl | rfl
   ·exact in_t.1
   ·exact N0.in_
 intro lw ws v au gw hlw c2 V2 hbv hin hinv hws
 have e:=jp4 (H':={H with th:=H.th.set i {t with slots:=t.slots.set kk v}}) I ht hkl rfl rfl rfl rfl rfl
 rw[hbv {H with th:=H.th.set i {t with slots:=t.slots.set kk v}} rfl]at e
 have x1:=jgM I
 have x2:=je0 I
 have x3:=je1 I
 have bd:Bd {H with th:=H.th.set i {t with slots:=t.slots.set kk v}} ls:=by
  refine⟨fun u hu=>?_,x1,by show H.at_.length<64;rw[jdH I];exact o5 ha hth,fun p hp v hv=>jhQ I (I.roots p hp v hv),fun u hu w hw=>?_,x2,x3,by show H.fin.length<1000;exact o39 hf hfr,by show H.rdy.length<1000;exact o40 hf hfr,by rw[e,length_map];exact jAy hws⟩
  ·rcases mem_or_eq_of_mem_set (show u∈H.th.set i _ from hu)with hu | rfl
   ·exact(I.in_ u hu).1
   ·exact in_t.1
  ·rcases mem_or_eq_of_mem_set (show u∈H.th.set i _ from hu)with hu | rfl
   ·exact jdq I (I.slots u hu w hw)
   ·rcases mem_or_eq_of_mem_set hw with hw | rfl
    ·exact jdq I (I.slots t mt w hw)
    ·exact hinv
 have msl: ∀x∈ [t.sl],x∈H.locs:=fun x hx=>by
  rw[mem_singleton.mp hx,jaq];exact mem_append_right _ (jbj mt).2
 refine hc (H:={H with th:=H.th.set i {t with slots:=t.slots.set kk v}}) V2 (jbk S L c2 msl) (jei I ht (by show t.addr<=_;exact o18) (by show _<=t.addr;exact o9)) bd e fun l az A=>?_
 have V3:=V2.ext A.chg
 have hp3:=V3.th _ (jdV ht)
 have gw3:=A.chg.get0 gw
 have hback:((t.slots.set kk v).map Val.pv).set (y/3%((t.slots.map Val.pv).length:Int)).toNat vo.pv=t.slots.map Val.pv:=by rw[ek,<-map_set,List.set_set,jbi hvo]
 have CF:=(c2.thenNil A.chg).back (S:=[]) hp.2
 have nts:t.sl≠t.loc:=Ne.symm (jhE S.nd.th mt)
 have z1:Y.sz<=l:=le_trans c2.1 A.new
 have z3:=jac A.at_
 have zw:=jac gw
 have zn:=A.new
 have V4:=V.ext CF
 have hp4:=V4.th t mt
 have k3: ∀ay,ay=az.set t.sl (.list (t.slots.map Val.pv))->kS (sq (jfO jb9 8).r (m+5) (cl Q)) [some (.ref H.h),some (.ref lr),some (.int y),some (.ref t.loc),some (.int (y/3%((t.slots.map Val.pv).length:Int))),some (.ref lw),some vo.pv,some (.ref l),none] ay:=?_
 ·exact rd hp3.1<|rd hp3.2<|gI (nn hi')<|gI (by rw[hi',length_map,length_set];exact ofNat_lt.mpr hkl)<|k3 _ (congrArg (fun l=>az.set t.sl (.list l)) hback)
 intro ay e4
 have gw4:(az.set t.sl (.list (t.slots.map Val.pv))).get lw=some (.list (ws.map .int)):=by rw[jaa (o8 tslt hlw)];exact gw3
 have gl4:(az.set t.sl (.list (t.slots.map Val.pv))).get l=some (.list ((ws.map (jdF (jaN t.addr))).map .str)):=by rw[jaa (o8 tslt z1)];exact A.at_
 have z4:(az.set t.sl (.list (t.slots.map Val.pv))).sz=az.sz:=jan
 rw[<- e4]at CF V4 hp4 gw4 gl4 z4
 have q1:=jaz (s:="the thing at ") (by decide) in_t.1
 have wl:=jem in_t.1
 have rl:(Str.ofString " refers to ").length<100:=by decide
 unfold jaN at wl
 have q2:(Str.ofString "the thing at "++sOf t.addr).length+(Str.ofString " refers to ").length<=sizeLine:=by exact juu szl wl rl
 refine cmL ws (fun n ys Y''=>ys=((ws.take n).map (jdF (jaN t.addr))).map .str/\Chg [] ay Y'') (fun n ys Y'' ⟨_,c'⟩=>c'.get0 gw4) ⟨rfl,.alloc _ _⟩ ?_ ?_
 ·rintro n w ys aM hw hy ⟨rfl,c5⟩
  have inw:=hin w (mem_of_getElem? hw)
  have hp5:=((V4.ext c5).th t mt).1
  have sw:=jfH inw
  have q3:(Str.ofString "the thing at "++sOf t.addr++Str.ofString " refers to ").length+(sOf w).length<=sizeLine:=by rw[jcw];exact juv szl wl rl sw
  refine rd hp5<|sI in_t.1<|gI q1<|gI q2<|sI inw<|gI q3 ⟨hy,by rw[length_map,length_map,length_take];exact jAz szl hws,?_,c5.setNew (le_refl _)⟩
  rw[ja9 hw,map_append];rfl
 ·rintro ys aM hy ⟨rfl,c5⟩
  rw[take_length]at hy
  exact ja2 (jAA z3 z4) (c5.get0 gl4) hy (k _ (CF.to c5))
noncomputable def jaY(a:Int)(who:Str)(v:Val):List Str:=((jaU v).filter fun w=>decide (w=a)).map fun _=>jdF who a
theorem jbY(a:Int)(who:Str)(v:Val):(jaY a who v).length<=2:=by
 unfold jaY
 rw[length_map]
 exact le_trans (length_filter_le _ _) (jcu v)
section
variable{H H':Hp}{ls:List (Nat×List Val)}{t:Th}
noncomputable def jcO(H:Hp)(a:Int):List (Int×Nat):=(H.th.filter fun u=>decide (u.addr≠a)).map jay
theorem jiU(I:Inv H ls){a w:Int}:(jcO H a).lookup w=if w=a then none else(jcK H.th w).map (·.loc):=by
 have e:(jcO H a).lookup w=(jcK (H.th.filter fun u=>decide (u.addr≠a)) w).map (·.loc):=jhe _ _
 rw[e]
 by_cases hw:w=a
 ·rw[if_pos hw,jjz]
  ·rfl
  ·intro u hu
   have:=(mem_filter.mp hu).2
   rw[hw];simpa using this
 ·rw[if_neg hw]
  congr 1
  unfold jcK
  rw[List.find?_filter]
  congr 1
  funext u
  by_cases hu:u.addr=w
  ·subst hu;simp[hw]
  ·simp[hu]
theorem jiY(I:Inv H ls)(ht:t∈H.th)(hat:H'.at_=jcO H t.addr){v:Val}(hv:jfX H v)(who:Str):bvF H' v who=jaY t.addr who v:=by
 have nz:=(jbw I ht).2
 have fnd: ∀w,jcJ H w->(decide (w=0)||(H'.at_.lookup w).isSome)= !decide (w=t.addr):=fun w hw=>by
  rw[hat,jiU I]
  rcases hw with rfl | ⟨u,hu,rfl⟩
  ·have:(0:Int)≠t.addr:=Ne.symm nz
   simp[this]
  ·have:=(jbw I hu).2
   by_cases e:u.addr=t.addr
   ·rw[if_pos e];simp[e,nz]
   ·rw[if_neg e,jfU I.d hu];simp[e]
 have key: ∀ws:List Int,(∀ w∈ws,jcJ H w)->jga v=false->(ws.filter fun w=> !jaW H' v w).map (jdF who)=(ws.filter fun w=>decide (w=t.addr)).map fun _=>jdF who t.addr:=fun ws hws hp=>by
  induction ws with
  | nil=>rfl
  | cons w r ih=>
   have:=fnd w (hws w (by simp))
   have ih:=ih fun x hx=>hws x (.tail _ hx)
   have hf:jaW H' v w= !decide (w=t.addr):=by unfold jaW;rw[if_neg (by rw[hp];decide),this]
   rw[filter_cons,filter_cons,hf,Bool.not_not]
   by_cases e:w=t.addr
   ·rw[decide_eq_true e]
    simp only[if_true,map_cons]
    rw[ih,e]
   ·rw[decide_eq_false e]
    simp only[Bool.false_eq_true,if_false]
    exact ih
 have z: ∀a:Int,((if a=0 then []else [a]):List Int).filter (fun w=>decide (w=t.addr))= [a].filter fun w=>decide (w=t.addr):=fun a=>by
  by_cases h:a=0
  ·have: ¬(0:Int)=t.addr:=Ne.symm nz
   simp[h,this]
  ·simp[h]
 unfold bvF jaY
 have h1:=key (jaf v) (jcn hv) (by cases v<;>first | rfl | exact hv.elim)
 rw[h1]
 congr 1
 cases v with
 | ref a=>rfl
 | i4 n=>rfl
 | one a=>exact z a
 | two a b=>
  show((if a=0 then []else [a])++(if b=0 then []else [b])).filter _= [a,b].filter _
  rw[filter_append,z a,z b,<-filter_append];rfl
 | pl w z=>exact hv.elim
 | lc=>exact hv.elim
theorem jo3(I:Inv H ls)(ht:t∈H.th)(hat:H'.at_=jcO H t.addr)(hth:H'.th=H.th){v:Val}(hv:jfG H v)(who:Str):bvF H' v who=jaY t.addr who v:=by
 cases v with
 | pl w z=>
  refine jaj hv fun u hu hi=>?_;clear hv
  have e:bvF H' (.pl w z) who= []:=by
   refine jb3 fun x hx=>?_
   simp[jaf]at hx
   unfold jaW
   rw[if_pos (show jga (.pl w z)=true from rfl),hx]
   refine jaT (I.d.split hu) fun A B e hA hB=>?_
   unfold jcb at hi
   exact jaM (A:=A) (B:=B) (t:=u) (by rw[hth];exact e) (fun a h=>by have:=hA a h;exact ju3 hi this) hi fun b h=>by have:=hB b h;exact o13 hi this
  rw[e];rfl
 | ref a=>exact jiY I ht hat (v:=.ref a) hv who
 | i4 a=>exact jiY I ht hat (v:=.i4 a) hv who
 | one a=>exact jiY I ht hat (v:=.one a) hv who
 | two a b=>exact jiY I ht hat (v:=.two a b) hv who
 | lc=>exact hv.elim
theorem jc1{ah aR:Type}{f g:ah->List aR}{l:List ah}(h: ∀x∈l,f x=g x):l.flatMap f=l.flatMap g:=by
 induction l with
 | nil=>rfl
 | cons x r ih=>rw[flatMap_cons,flatMap_cons,h x (by simp),ih fun y hy=>h y (.tail _ hy)]
noncomputable def jeW(H:Hp)(a:Int)(cells:List Val):List Str:=[jbU a]++cells.flatMap (jaY a jaS)++(H.th.flatMap fun u=>u.slots.flatMap (jaY a (jaN u.addr)))++((H.fin.filter fun w=>decide (w=a)).map fun _=>jnC a)++((H.rdy.filter fun w=>decide (w=a)).map fun _=>joA a)
theorem jrx{l0 l1:Nat}{r0 r1:List Val}(I:Inv H [(l0,r0),(l1,r1)])(ht:t∈H.th)(hat:H'.at_=jcO H t.addr)(hth:H'.th=H.th)(hf:H'.fin=H.fin)(hr:H'.rdy=H.rdy)(htop:H'.top=H.top):jaC H' [(l0,r0),(l1,r1)]=jeW H t.addr (r0++r1):=by
 have lk: ∀u∈H.th,(H'.at_.lookup u.addr).isSome= !decide (u.addr=t.addr):=fun u hu=>by
  rw[hat,jiU I]
  by_cases e:u.addr=t.addr
  ·rw[if_pos e];simp[e]
  ·rw[if_neg e,jfU I.d hu];simp[e]
 obtain⟨i,hi⟩:=mem_iff_getElem?.mp ht
 obtain⟨e1,e2⟩:=jbp hi
 have order:jaP H' H'.th 16 2= [jbU t.addr]:=by
  have lay:=I.lay
  rw[e1]at lay
  refine jsd (jb2 lay) fun q1 q2 q3 q4 q5 q6 q7=>?_
  have ap:=I.apart
  rw[e1]at ap
  refine jdo (pairwise_append.mp ap) fun p1 p2 p3=>?_
  obtain⟨p4,p5⟩:=pairwise_cons.mp p2
  have lA: ∀u∈H.th.take i,(H'.at_.lookup u.addr).isSome=true:=fun u hu=>by
   rw[lk u (mem_of_mem_take hu),decide_eq_false (p3 u hu t (by simp))];rfl
  have lB: ∀u∈H.th.drop (i+1),(H'.at_.lookup u.addr).isSome=true:=fun u hu=>by
   rw[lk u (mem_of_mem_drop hu),decide_eq_false (Ne.symm (p4 u hu))];rfl
  rw[hth]
  conv=>lhs;arg 2;rw[e1]
  rw[jbl (H:=H') q1 lA,jaP,<-q2,if_neg (o38),if_neg (o17 q3),if_pos (by rw[lk t ht];simp),jjf (H:=H') (e:=t.addr+t.size) (g:=t.gen) (by rw[q2];exact q7) lB (by rw[jkn I hi,htop];exact Int.le_refl _)]
  rfl
 have index:jbz H'= []:=by
  refine ji0 (by rw[hth];exact I.nda) fun p hp=>?_
  rw[hat]at hp
  refine jaj (mem_map.mp hp) fun u hu zq3=>?_;subst zq3
  rw[hth]
  exact mem_map_of_mem (mem_filter.mp hu).1
 have roots:jaJ H' [(l0,r0),(l1,r1)]=(r0++r1).flatMap (jaY t.addr jaS):=by
  unfold jaJ
  rw[flatMap_cons,flatMap_cons,List.flatMap_nil,append_nil,flatMap_append]
  rw[jc1 (fun v hv=>jo3 I ht hat hth (I.roots (l0,r0) (by simp) v hv) jaS),jc1 (fun v hv=>jo3 I ht hat hth (I.roots (l1,r1) (by simp) v hv) jaS)]
 have ths:jcT H'=H.th.flatMap fun u=>u.slots.flatMap (jaY t.addr (jaN u.addr)):=by
  unfold jcT
  rw[hth]
  exact jc1 fun u hu=>jc1 fun v hv=>jiY I ht hat (I.slots u hu v hv) _
 have lst: ∀(l:List Int) (f:Int->Str),(∀ a∈l,∃u∈H.th,u.addr=a)->(jhf H' l).map f=(l.filter fun w=>decide (w=t.addr)).map fun _=>f t.addr:=fun l f hl=>by
  unfold jhf
  induction l with
  | nil=>rfl
  | cons w r ih=>
   have ih:=ih fun x hx=>hl x (.tail _ hx)
   refine jaj (hl w (by simp)) fun u hu zq4=>?_;subst zq4
   rw[filter_cons,filter_cons,lk u hu,Bool.not_not]
   by_cases e:u.addr=t.addr
   ·rw[decide_eq_true e]
    simp only[if_true,map_cons]
    rw[ih,e]
   ·rw[decide_eq_false e]
    simp only[Bool.false_eq_true,if_false]
    exact ih
 unfold jaC jqM jeW
 rw[order,index,roots,ths,hf,hr,lst H.fin jnC I.fin,lst H.rdy joA I.rdy]
 simp
end
theorem jeU{m l slot:Nat}{a:Int}{is:List Int}{Fn:Int->PV}{elt cond:V}{r:Str}{Z:jao}{Y:AHeap}{Q:PV->AHeap->Prop}(hl:Y.get l=some (.list (is.map Fn)))(hz:is.length<1000)
  (hcond: ∀b Y' (R:PV->AHeap->Prop),(b=a->R (.bool true) Y')->(¬ b=a->R (.bool false) Y')->cond m (up Z slot (some (Fn b))) Y' R)
  (helt: ∀x Y' (R:PV->AHeap->Prop),Chg [] Y Y'->R (.str r) Y'->elt m (up Z slot x) Y' R)
  (k: ∀Y',Chg [] Y Y'->Y'.get Y.sz=some (.list (((is.filter fun w=>decide (w=a)).map fun _=>r).map .str))->Q (.ref Y.sz) Y'):CmR m slot elt false cond (.ref l) Z Y Q:=by
 have szl:=(by decide:(100200:Nat)<sizeLine)
 refine cmL is (fun n ys Y'=>ys=(((is.take n).filter fun w=>decide (w=a)).map fun _=>r).map PV.str/\Chg [] Y Y') (fun n ys Y' ⟨_,c⟩=>c.get0 hl) ⟨rfl,.alloc _ _⟩ ?_ ?_
 ·rintro n b ys Y' hb hy ⟨rfl,c⟩
  have st:=jbL hb (fun w=>decide (w=a))
  have len:=jcQ is n (fun w=>decide (w=a))
  refine hcond b Y' _ (fun h=>helt _ _ _ c ⟨hy,by rw[length_map,length_map];exact jAB hz szl len,?_,c.setNew (le_refl _)⟩) fun h=>⟨hy,?_,c⟩
  ·rw[st,decide_eq_true h,if_pos rfl,map_append,map_append];rfl
  ·rw[st,decide_eq_false h,if_neg (by decide),append_nil]
 ·rintro ys Y' hy ⟨rfl,c⟩
  rw[take_length]at hy
  exact k Y' c hy
theorem jq6{m:Nat}{Y:AHeap}{h lr a f c:Nat}{H:Hp}{ls:List (Nat×List Val)}{y:Int}{Q:PV->AHeap->Prop}(T:Stt Y h lr a f c H ls)(ha:a<=20)(hf:f<=100)(k: ∀Y',Chg [] Y Y'->Q (.bool true) Y'):C (m+6) 67 [.ref h,.ref lr,.int y] Y Q:=by
 obtain⟨rfl,V,I,S,L,F,C⟩:=T
 have hth:=C.th
 have hfr:=C.fr
 have szl:=(by decide:(100200:Nat)<sizeLine)
 have lt:=V.lt
 have hlt:=jac V.h
 refine joW F.ls fun l0 l1 va vb vc vd els=>?_
 subst els
 refine jap rfl rfl<|ja6 (m:=m+4) V F.ne fun i t ht _=>?_
 have mt:=mem_of_getElem? ht
 have hp:=V.th t mt
 have in_t:=I.in_ t mt
 have q1:=jaz (s:="not in the index: ") (by decide) in_t.1
 have q2:=jfz in_t.1
 have q3:=jaz (s:="finals hold ") (by decide) in_t.1
 have q4:=jaz (s:="ready holds ") (by decide) in_t.1
 have glr: ∀{o},(Y.alloc o).get lr=some (.list [.ref l0,.ref l1]):=fun{o}=>(L.ext (.alloc [] o)).lr
 have gl0: ∀{o},(Y.alloc o).get l0=some (.list ([va,vb].map Val.pv)):=fun{o}=>(L.ext (.alloc [] o)).each (l0,[va,vb]) (by simp)
 have gl1: ∀{o},(Y.alloc o).get l1=some (.list ([vc,vd,.ref 16].map Val.pv)):=fun{o}=>(L.ext (.alloc [] o)).each (l1,[vc,vd,.ref 16]) (by simp)
 have k1: ∀(aC:AHeap) (lx:Nat),Chg [] Y aC->aC.get lx=some (.list ([va,vb,vc,vd,.ref 16].map Val.pv))->aC.get Y.sz=some (.list ([jbU t.addr].map .str))->ForR (m+5) (.one 6) false (foB (jsl jbB 3)).r (.ref lx) [some (.ref H.h),some (.ref lr),some (.int y),some (.ref t.loc),some (.int t.addr),some (.ref Y.sz),none,none,none,none,none,none,none,none,none,none] aC (sq (jfO jbB 4).r (m+5) (cl Q)):=?_
 ·exact rd hp.1<|sI in_t.1<|gI q1<|rd glr<|rd glr<|rd gl0<|rd gl1<|k1 _ _ ((Chg.alloc _ _).to (.alloc _ _)) get_alloc_new ((jae (by rw[jai];exact o2)).trans get_alloc_new)
 intro aC lx c1 gc gr
 generalize hcells: [va,vb,vc,vd,.ref 16]=cells at gc
 obtain⟨R0,hR0⟩: ∃R,[jbU t.addr]=R:=⟨_,rfl⟩
 have hR0l:R0.length=1:=by rw[<- hR0];rfl
 rw[hR0]at gr
 have hclen:cells.length=5:=by rw[<- hcells];rfl
 refine jcr cells (fun n Z' Y'=>∃x lw,Z'= [some (.ref H.h),some (.ref lr),some (.int y),some (.ref t.loc),some (.int t.addr),some (.ref lw),x,none,none,none,none,none,none,none,none,none]/\Chg [] aC Y'/\Y.sz<=lw/\Y'.get lw=some (.list ((R0++(cells.take n).flatMap (jaY t.addr jaS)).map .str))) (fun n Z' Y' zh=>by refine jaT zh fun _ _ _ c' _=>?_;clear zh;exact c'.get0 gc) ⟨none,Y.sz,rfl,.refl _ _,le_refl _,by simpa using gr⟩ ?_ ?_
 ·intro n v Z' au hv zu6;refine jmA zu6 fun x' lw zq7 c2 hlw g2=>?_;clear zu6;subst zq7
  have fl:=jbh (f:=jaY t.addr jaS) (n:=2) (l:=cells.take n) fun v _=>jbY _ _ _
  have hnl:(cells.take n).length<=5:=by rw[length_take];exact jAC hclen
  have hh:=jbY t.addr jaS v
  unfold jaY at hh
  rw[length_map]at hh
  refine jek (m:=m+2) (v:=v) _ _ fun l3 az c3 hl3 g3=>jeU (a:=t.addr) (Fn:=PV.int) (r:=jdF jaS t.addr) g3 (by have:=jcu v;exact juw this) (fun b Y' R h1 h2=>cD h1 h2) (fun x Y' R cc hR=>sI in_t.1<|gI q2 (by rw[jfC]at hR;exact hR)) fun ay c4 g4=>rd ((c3.to c4).get0 g2)<|rd g4<|gI (by simp only[length_map,length_append];exact jAD szl hR0l fl hnl hh) ⟨_,_,rfl,((c2.to c3).to c4).to (.alloc _ _),?_,?_⟩
  ·have:=c1.1;have:=c2.1;have:=c3.1;have:=c4.1;walk_at "o"
  ·rw[get_alloc_new,jbs hv,<-map_append,append_assoc];rfl
 intro Z' au zu9;refine jmA zu9 fun x' lw zq0 c2 hlw g2=>?_;clear zu9;subst zq0
 rw[take_length]at g2
 have C2:=c1.to c2
 have V2:=V.ext C2
 obtain⟨R1,hR1⟩: ∃R,R0++cells.flatMap (jaY t.addr jaS)=R:=⟨_,rfl⟩
 rw[hR1]at g2
 have hR1l:R1.length<=20:=by
  have fl:=jbh (f:=jaY t.addr jaS) (n:=2) (l:=cells) fun v _=>jbY _ _ _
  rw[<- hR1,length_append];exact jAE hR0l hclen fl
 have thl: ∀(u:Th),u∈H.th->(u.slots.flatMap (jaY t.addr (jaN u.addr))).length<=6:=fun u hu=>by
  have:=jbh (f:=jaY t.addr (jaN u.addr)) (n:=2) (l:=u.slots) fun v _=>jbY _ _ _
  have:=(I.lay.mem u hu).2.2.2.2.1
  walk_at "o"
 refine rd V2.h<|jcr H.th (fun n Z' Y'=>∃x x2 x3 lw,Z'= [some (.ref H.h),some (.ref lr),some (.int y),some (.ref t.loc),some (.int t.addr),some (.ref lw),x,x2,x3,none,none,none,none,none,none,none]/\Chg [] au Y'/\Y.sz<=lw/\Y'.get lw=some (.list ((R1++(H.th.take n).flatMap fun u=>u.slots.flatMap (jaY t.addr (jaN u.addr))).map .str))) (fun n Z' Y' zh=>by refine jso zh fun _ _ _ _ _ c' _=>?_;clear zh;exact(V2.ext c').tl) ⟨_,_,_,lw,rfl,.refl _ _,hlw,by simpa using g2⟩ ?_ ?_
 ·intro n u Z' az hu zu1;refine juK zu1 fun x' x2 x3 lw3 zq2 c3 hlw3 g3=>?_;clear zu1;subst zq2
  have mu:=mem_of_getElem? hu
  have V3:=V2.ext c3
  have hpu:=V3.th u mu
  have in_u:=I.in_ u mu
  have hul:=(I.lay.mem u mu).2.2.2.2.1
  have fl:=jbh (f:=fun u:Th=>u.slots.flatMap (jaY t.addr (jaN u.addr))) (n:=6) (l:=H.th.take n) fun u hu=>thl u (mem_of_mem_take hu)
  have hnl:(H.th.take n).length<=20:=by rw[length_take];exact jAF ha hth
  obtain⟨R2,hR2⟩: ∃R,R1++((H.th.take n).flatMap fun u=>u.slots.flatMap (jaY t.addr (jaN u.addr)))=R:=⟨_,rfl⟩
  rw[hR2]at g3
  have hR2l:R2.length<=200:=by rw[<- hR2,length_append];exact jAG hR1l fl hnl
  have r1:=jaz (s:="the thing at ") (by decide) in_u.1
  have wl:=jem in_u.1
  have rl:(Str.ofString " refers to ").length<100:=by decide
  unfold jaN at wl
  have st:=jfH in_t.1
  have r2:(Str.ofString "the thing at "++sOf u.addr).length+(Str.ofString " refers to ").length<=sizeLine:=by exact juu szl wl rl
  have r3:(Str.ofString "the thing at "++sOf u.addr++Str.ofString " refers to ").length+(sOf t.addr).length<=sizeLine:=by rw[jcw];exact juv szl wl rl st
  refine rd hpu.1<|jcr u.slots (fun j Z' Y'=>∃x3 lw,Z'= [some (.ref H.h),some (.ref lr),some (.int y),some (.ref t.loc),some (.int t.addr),some (.ref lw),x',some (.ref u.loc),x3,none,none,none,none,none,none,none]/\Chg [] az Y'/\Y.sz<=lw/\Y'.get lw=some (.list ((R2++(u.slots.take j).flatMap (jaY t.addr (jaN u.addr))).map .str))) (fun j Z' Y' zh=>by refine jaT zh fun _ _ _ c' _=>?_;clear zh;exact c'.get0 hpu.2) ⟨_,lw3,rfl,.refl _ _,hlw3,by simpa using g3⟩ ?_ ?_
  ·intro j v Z' ay hv zu4;refine jmA zu4 fun x4 lw4 zq5 c4 hlw4 g4=>?_;clear zu4;subst zq5
   have fl2:=jbh (f:=jaY t.addr (jaN u.addr)) (n:=2) (l:=u.slots.take j) fun v _=>jbY _ _ _
   have hjl:(u.slots.take j).length<=3:=by rw[length_take];exact jAH hul
   have hh:=jbY t.addr (jaN u.addr) v
   unfold jaY at hh
   rw[length_map]at hh
   refine jek (m:=m+2) (v:=v) _ _ fun l5 aM c5 hl5 g5=>jeU (a:=t.addr) (Fn:=PV.int) (r:=jdF (jaN u.addr) t.addr) g5 (by have:=jcu v;exact juw this) (fun b Y' R h1 h2=>cD h1 h2) (fun x Y' R cc hR=>rd ((((V3.ext c4).ext c5).ext cc).th u mu).1<|sI in_u.1<|gI r1<|gI r2<|sI in_t.1<|gI r3 hR) fun aN c6 g6=>rd ((c5.to c6).get0 g4)<|rd g6<|gI (by simp only[length_map,length_append];exact jAI szl hR2l fl2 hjl hh) ⟨_,_,rfl,((c4.to c5).to c6).to (.alloc _ _),?_,?_⟩
   ·have:=C2.1;have:=c3.1;have:=c4.1;have:=c5.1;have:=c6.1;walk_at "o"
   ·rw[get_alloc_new,jbs hv,<-map_append,append_assoc];rfl
  ·intro Z' ay zu7;refine jmA zu7 fun x4 lw4 zq8 c4 hlw4 g4=>?_;clear zu7;subst zq8
   rw[take_length]at g4
   refine⟨_,_,_,_,rfl,c3.to c4,hlw4,?_⟩
   rw[jbs hu,<-append_assoc,hR2]
   exact g4
 intro Z' az zu9;refine juK zu9 fun x' x2 x3 lw3 zq0 c3 hlw3 g3=>?_;clear zu9;subst zq0
 rw[take_length]at g3
 have C3:=C2.to c3
 have V3:=V.ext C3
 obtain⟨R3,hR3⟩: ∃R,R1++(H.th.flatMap fun u=>u.slots.flatMap (jaY t.addr (jaN u.addr)))=R:=⟨_,rfl⟩
 rw[hR3]at g3
 have hR3l:R3.length<=200:=by
  have fl:=jbh (f:=fun u:Th=>u.slots.flatMap (jaY t.addr (jaN u.addr))) (n:=6) (l:=H.th) fun u hu=>thl u hu
  rw[<- hR3,length_append];exact jAJ ha hth hR1l fl
 have ff:=length_filter_le (fun w=>decide (w=t.addr)) H.fin
 have rf:=length_filter_le (fun w=>decide (w=t.addr)) H.rdy
 have k5: ∀(ay:AHeap) (lw:Nat),Chg [] Y ay->Y.sz<=lw->ay.get lw=some (.list ((R3++(H.fin.filter fun w=>decide (w=t.addr)).map fun _=>jnC t.addr).map .str))->kS (sq (jfO jbB 6).r (m+5) (cl Q)) [some (.ref H.h),some (.ref lr),some (.int y),some (.ref t.loc),some (.int t.addr),some (.ref lw),x',x2,x3,none,none,none,none,none,none,none] ay:=?_
 ·refine rd V3.h<|jeU (a:=t.addr) (Fn:=PV.int) (r:=jnC t.addr) V3.fl (o39 hf hfr) (fun b Y' R h1 h2=>cD h1 h2) (fun x Y' R cc hR=>sI in_t.1<|gI q3 hR) fun ay c4 g4=>rd (c4.get0 g3)<|rd g4<|gI (by simp only[length_map];exact jAK hf hfr szl hR3l ff)<|k5 _ _ ((C3.to c4).to (.alloc _ _)) ?_ (by rw[get_alloc_new,map_append])
  have:=C3.1;have:=c4.1;walk_at "o"
 intro dI lw4 C4 hz4 g4'
 have V4':=V.ext C4
 obtain⟨RF,hRF⟩: ∃R,R3++((H.fin.filter fun w=>decide (w=t.addr)).map fun _=>jnC t.addr)++((H.rdy.filter fun w=>decide (w=t.addr)).map fun _=>joA t.addr)=R:=⟨_,rfl⟩
 have hRFl:RF.length<=400:=by rw[<- hRF];simp only[length_append,length_map];exact jAL hf hfr hR3l ff rf
 have k6: ∀(aN:AHeap) (lw:Nat),Chg [] Y aN->Y.sz<=lw->aN.get lw=some (.list (RF.map .str))->kS (sq (jfO jbB 7).r (m+5) (cl Q)) [some (.ref H.h),some (.ref lr),some (.int y),some (.ref t.loc),some (.int t.addr),some (.ref lw),x',x2,x3,none,none,none,none,none,none,none] aN:=?_
 ·refine rd V4'.h<|jeU (a:=t.addr) (Fn:=fun a=>(Val.ref a).pv) (r:=joA t.addr) V4'.rl (o40 hf hfr) (fun b Y' R h1 h2=>cD h1 h2) (fun x Y' R cc hR=>sI in_t.1<|gI q4 hR) fun aM c5 g5=>rd (c5.get0 g4')<|rd g5<|gI (by simp only[length_map,length_append];exact jAM hf hfr szl hR3l ff rf)<|k6 _ _ ((C4.to c5).to (.alloc _ _)) ?_ (by rw[get_alloc_new,<-map_append,hRF])
  have:=C4.1;have:=c5.1;walk_at "o"
 intro aN lw C6 hz5 g6
 have V6:=V.ext C6
 have V6d:=V6.ext (.alloc [] (.dict []))
 have nl:aN.sz∉H.locs:=fun h=>by have:=lt _ h;have:=C6.1;walk_at "o"
 have V7:Hv ((aN.alloc (.dict [])).set H.h (ja0 {H with al:=aN.sz,at_:=[]})) {H with al:=aN.sz,at_:=[]}:=V6d.newAl S.nd (at':=[]) get_alloc_new nl
 have c7:Chg [H.h] aN ((aN.alloc (.dict [])).set H.h (ja0 {H with al:=aN.sz,at_:=[]})):=(Chg.alloc _ _).to (.set (by simp))
 have z7:((aN.alloc (.dict [])).set H.h (ja0 {H with al:=aN.sz,at_:=[]})).sz=aN.sz+1:=by rw[jan,jai]
 have k7: ∀aS,Hv aS {H with al:=aN.sz,at_:=[]}->Chg [H.h] aN aS->aS.sz=aN.sz+1->kS (sq (jfO jbB 9).r (m+5) (cl Q)) [some (.ref H.h),some (.ref lr),some (.int y),some (.ref t.loc),some (.int t.addr),some (.ref lw),x',x2,x3,some (.ref H.al),none,none,none,none,none,none] aS:=?_
 ·exact rd V6.h<|rd V6d.h<|k7 _ V7 c7 z7
 clear V7 c7 z7
 intro aS V7 c7 z7
 have ndA:=fun at'=>S.nd.newAl (a:=at') nl
 refine rd V7.h<|jcr H.th (fun n Z' Y'=>∃x,Z'= [some (.ref H.h),some (.ref lr),some (.int y),some (.ref t.loc),some (.int t.addr),some (.ref lw),x',x2,x3,some (.ref H.al),x,none,none,none,none,none]/\Hv Y' {H with al:=aN.sz,at_:=((H.th.take n).filter fun u=>decide (u.addr≠t.addr)).map jay}/\Chg [aN.sz] aS Y') (fun n Z' Y' zh=>by refine jcs zh fun _ _ V' _=>?_;clear zh;exact V'.tl) ⟨none,rfl,V7,.refl _ _⟩ ?_ ?_
 ·intro n u Z' bl hu zu1;refine jcs zu1 fun x4 zq2 V8 c8=>?_;clear zu1;subst zq2
  have mu:=mem_of_getElem? hu
  have hpu:=(V8.th u mu).1
  have st:=jbL hu (fun u=>decide (u.addr≠t.addr))
  have fresh: ∀p∈((H.th.take n).filter fun u=>decide (u.addr≠t.addr)).map jay,p.1≠u.addr:=fun p hp=>by
   refine jaj (mem_map.mp hp) fun v hv zq4=>?_;subst zq4
   obtain⟨j,hj,hjv⟩:=List.mem_take_iff_getElem.mp (mem_filter.mp hv).1
   have hn:=(List.getElem?_eq_some_iff.mp hu).1
   have:=pairwise_iff_getElem.mp I.apart j n (o31 hj hn) hn (o74 hj hn)
   rw[hjv,(List.getElem?_eq_some_iff.mp hu).2]at this
   exact this
  have fle:=jcQ H.th n (fun u=>decide (u.addr≠t.addr))
  have len:(atE (((H.th.take n).filter fun u=>decide (u.addr≠t.addr)).map jay)).length<1000:=by unfold atE;rw[length_map,length_map];exact jAN ha hth fle
  have ep:=jlq fresh (n:=u.loc)
  refine rd hpu<|cN (fun hne=>rd V8.h<|rd hpu<|rd V8.al<|gI (jas len) ⟨_,rfl,?_,c8.to (.set in1)⟩) fun he=>⟨_,rfl,?_,c8⟩
  ·have:=V8.setAt (ndA _) (((H.th.take (n+1)).filter fun u=>decide (u.addr≠t.addr)).map jay)
   rw[st,decide_eq_true hne,if_pos rfl,map_append]at this ⊢
   rw[show jhO _ _ _=_ from ep]
   exact this
  ·rw[st,decide_eq_false (fun h=>h he),if_neg (by decide),append_nil]
   exact V8
 intro Z' bl zu5;refine jcs zu5 fun x4 zq6 V8 c8=>?_;clear zu5;subst zq6
 rw[take_length]at V8
 have pe:=jrx (H':={H with al:=aN.sz,at_:=jcO H t.addr}) (l0:=l0) (l1:=l1) (r0:=[va,vb]) (r1:=[vc,vd,.ref 16]) I mt rfl rfl rfl rfl rfl
 have erows:jeW H t.addr ([va,vb]++ [vc,vd,.ref 16])=RF:=by
  unfold jeW
  rw[show [va,vb]++ [vc,vd,.ref 16]=cells from hcells,hR0,hR1,hR3,hRF]
 rw[erows]at pe
 have C8:Chg [H.h] Y bl:=(C6.nil c7).trans c8 (fun _ h=>h) fun l hl=>by rw[mem_singleton.mp hl];right;have:=C6.1;exact this
 have bd:Bd {H with al:=aN.sz,at_:=jcO H t.addr} [(l0,[va,vb]),(l1,[vc,vd,.ref 16])]:=by
  have x1:=je0 I
  have x2:=je1 I
  have fle:=length_filter_le (fun u:Th=>decide (u.addr≠t.addr)) H.th
  refine⟨fun u hu=>(I.in_ u hu).1,fun p hp=>?_,?_,fun p hp v hv=>jhQ I (I.roots p hp v hv),fun u hu v hv=>jdq I (I.slots u hu v hv),x1,x2,by show H.fin.length<1000;exact o39 hf hfr,by show H.rdy.length<1000;exact o40 hf hfr,by rw[pe];exact jAO hRFl⟩
  ·refine jaj (mem_map.mp (show p∈jcO H t.addr from hp)) fun u hu zq7=>?_;subst zq7
   exact(I.in_ u (mem_filter.mp hu).1).1
  ·show(jcO H t.addr).length<64
   unfold jcO
   rw[length_map];exact jAP ha hth fle
 refine hc (H:={H with al:=aN.sz,at_:=jcO H t.addr}) V8 (jbk S L C8 (jnh H)) I.srt bd pe fun l bC A=>?_
 have V9:=V8.ext A.chg
 have CF:=(C8.thenNil A.chg).back (S:=[]) V.h
 have z5:=jac g6
 have gRF:bC.get lw=some (.list (RF.map .str)):=A.chg.get0 (c8.get (c7.get g6 (by simp;exact jAQ hlt hz5)) (by simp;exact ne_of_lt z5))
 have zl:=A.new
 have zA:=jac A.at_
 have zc:=c8.1
 have:=C6.1
 exact rd V9.h<|ja2 (by walk_at "o") (by rw[jaa (by walk_at "o")];exact A.at_) (by rw[jaa (ne_of_lt (lt_of_lt_of_le hlt hz5))];exact gRF) (k _ CF)
theorem jls{m:Nat}{Y:AHeap}{h lr a f c:Nat}{H:Hp}{ls:List (Nat×List Val)}{sort y:Int}{Q:PV->AHeap->Prop}(T:Stt Y h lr a f c H ls)(ha:a<=20)(hf:f<=100)(hc:c<64)(k: ∀Y',Chg [] Y Y'->Q (.bool true) Y'):C (m+7) 76 [.ref h,.ref lr,.int sort,.int y] Y Q:=by
 exact jap rfl rfl<|cD (fun _=>jpp T ha hf k) fun _=>cD (fun _=>jpq T ha hf k) fun _=>cD (fun _=>joi T ha hf k) fun _=>cD (fun _=>jq6 T ha hf k) fun _=>cD (fun _=>jpm T ha hf k) fun _=>cD (fun _=>jpt T ha hf k) fun _=>cD (fun _=>jq0 T ha hf k) fun _=>cD (fun _=>jsB T ha hf k) fun _=>cD (fun _=>jmQ T ha hf k) fun _=>cD (fun _=>jq8 T ha hf k) fun _=>cD (fun _=>jpn T ha hf k) fun _=>jpk T ha hf hc k
theorem juW{l z:Nat}{lim bits:Int}{l0 l1:Nat}(h0:0<=bits)(h4:bits<4):Inv (H0 l z lim bits) [(l0,[.ref 0,.ref 0]),(l1,[.ref 0,.ref 0,.ref 0])]:=by
 refine⟨trivial,rfl,rfl,fun t ht=>(by cases ht),fun p hp v hv=>?_,fun a ha=>(by cases ha),fun a ha=>(by cases ha),rfl,⟨h0,h4⟩,by show(0:Nat)<100;decide⟩
 have:v= .ref 0:=by
  simp only[mem_cons,not_mem_nil,or_false]at hp
  rcases hp with rfl | rfl
  ·simpa using hv
  ·simpa using hv
 rw[this];exact .inl rfl
theorem jsM: ∀ns:List Int,ns.length<=63->b_law.r 60 [some (.ref 0),none,none,none,none,none,none,none] ⟨[.frozen (ns.map .int)]⟩ (fun fl _ _=>fl.val= .bool true):=by
 intro ns hns
 have szl:=(by decide:(100200:Nat)<sizeLine)
 have g0:(⟨[.frozen (ns.map .int)]⟩:AHeap).get 0=some (.frozen (ns.map .int)):=rfl
 have hl8:(ns.take 8).length<=8:=by rw[length_take];exact jAR
 have k0: ∀(nums:List Int) (au:AHeap),nums.length<=8->au.get 2=some (.list (nums.map .int))->kS (sq (jfO b_law 1).r 60 (fun fl _ _=>fl.val= .bool true)) [some (.ref 0),some (.ref 2),none,none,none,none,none,none] au:=?_
 ·refine rd g0<|gI (by rw[length_map];exact le_trans hns (by decide))<|cmL (ns.take 8) (fun n ys Y'=>ys=(((ns.take 8).take n).map (· %1000003)).map PV.int/\Chg [] ((⟨[.frozen (ns.map .int)]⟩:AHeap).alloc (.list ((ns.map PV.int).take (Int.toNat 8)))) Y') (fun n ys Y' ⟨_,c⟩=>c.get0 (get_alloc_new.trans (by rw[map_take];rfl))) ⟨rfl,.alloc _ _⟩ ?_ ?_
  ·rintro n b ys Y' hb hy ⟨rfl,c⟩
   refine⟨hy,by rw[length_map,length_map,length_take];exact jAS szl hl8,?_,c.setNew (le_refl _)⟩
   rw[ja9 hb,map_append];rfl
  ·rintro ys au hy ⟨rfl,c⟩
   rw[take_length]at hy
   exact k0 _ _ (by rw[length_map];exact hl8) hy
 intro nums au hnl g2
 have z2:=jac g2
 have a1: ∀{o},(au.alloc o).get 2=some (.list (nums.map .int)):=fun{o}=>by rw[jae z2];exact g2
 obtain⟨b0,hb0⟩: ∃b,(nums.map PV.int++ [.int 2])[0]? =some (.int b):=by
  cases nums with
  | nil=>exact⟨2,rfl⟩
  | cons a r=>exact⟨a,rfl⟩
 have k1: ∀(z:Nat) (ay:AHeap),2<z->z+1+4<ay.sz->Hv ay (H0 z (z+1) 1000 (b0%4))->ay.get 2=some (.list (nums.map .int))->kS (sq (jfO b_law 2).r 60 (fun fl _ _=>fl.val= .bool true)) [some (.ref 0),some (.ref 2),some (.ref z),none,none,none,none,none] ay:=?_
 ·refine rd a1<|rd get_alloc_new<|gI (by rw[length_map];exact jAT szl hnl)<|rd get_alloc_new<|oI hb0<|jkI (m:=59) get_alloc_new fun ay V4 c4=>⟨rfl,?_⟩
  have C4:Chg [] (au.alloc (.list [.int 2])) ((au.alloc (.list [.int 2])).alloc (.list (nums.map PV.int++ [.int 2]))):=.alloc _ _
  have z4:2<((au.alloc (.list [.int 2])).alloc (.list (nums.map PV.int++ [.int 2]))).sz:=lt_of_lt_of_le z2 (((Chg.alloc [] _).to C4).1)
  rw[jai (o:=PObj.inst _ _)]at V4
  exact k1 _ ay z4 (jac V4.rl) V4 (c4.get ((jae z4).trans ((jae (by rw[jai];exact lt_succ_of_lt z2)).trans a1)) (by simp;exact ne_of_lt z4))
 intro z ay z3 hz V4 g4
 have k2: ∀(l1 lr:Nat) (aM:AHeap),l1=ay.sz+1->lr=ay.sz+1+1->Chg [] ay aM->aM.get ay.sz=some (.list [.tup [.int 4,.int 0],.tup [.int 4,.int 0]])->aM.get l1=some (.list [.tup [.int 4,.int 0],.tup [.int 4,.int 0],.tup [.int 4,.int 0]])->aM.get lr=some (.list [.ref ay.sz,.ref l1])->kS (sq (jfO b_law 3).r 60 (fun fl _ _=>fl.val= .bool true)) [some (.ref 0),some (.ref 2),some (.ref z),some (.ref lr),none,none,none,none] aM:=?_
 ·exact k2 _ _ _ jai (by rw[jai,jai]) (((Chg.alloc _ _).to (.alloc _ _)).to (.alloc _ _)) ((jae (by rw[jai,jai];exact o32)).trans ((jae (by rw[jai];exact o2)).trans get_alloc_new)) ((jae (by simp only[jai];exact o2)).trans get_alloc_new) get_alloc_new
 intro l1 lr aM e1 er c5 gA gB gC
 subst e1 er
 have T0:Stp' aM z (ay.sz+1+1) (H0 z (z+1) 1000 (b0%4)) [(ay.sz,[.ref 0,.ref 0]),(ay.sz+1,[.ref 0,.ref 0,.ref 0])]:=by
  have el:(H0 z (z+1) 1000 (b0%4)).locs= [z,z+1,z+1+1,z+1+2,z+1+3,z+1+4]:=rfl
  refine⟨rfl,V4.ext c5,juW (jsP) (jAU),⟨⟨?_,by simp[H0,jaA],fun l hl=>by simp[H0,jaA]at hl⟩,?_,?_,fun x hx h=>?_,?_⟩,⟨?_,fun p hp=>?_⟩,⟨⟨nums,hnl,c5.get0 g4⟩,?_,by walk_at "o",?_⟩⟩
  ·show [z,z+1,z+1+1,z+1+2,z+1+3,z+1+4].Nodup
   simp
   exact jAV
  ·rw[el];simp;walk_at "o"
  ·simp
   walk_at "o"
  ·rw[el]at h
   simp at hx h
   walk_at "o"
  ·simp
  ·exact gC
  ·simp only[mem_cons,not_mem_nil,or_false]at hp
   rcases hp with rfl | rfl
   ·exact gA
   ·exact gB
  ·intro h
   rw[el]at h
   simp only[mem_cons,not_mem_nil,or_false]at h
   walk_at "o"
  ·intro h
   simp only[map_cons,map_nil,mem_cons,not_mem_nil,or_false]at h
   walk_at "o"
 refine jkJ (m:=49) T0 rfl rfl rfl rfl rfl fun r aN H ls T6=>?_
 refine .mk [.tup [.int 1,.int 0],.tup [.int 3,.int 4],.tup [.int 5,.int 2],.tup [.int 6,.int 11],.tup [.int 9,.int 7],.tup [.int 11,.int 0]] (fun i Z' Y'=>∃x y,Z'= [some (.ref 0),some (.ref 2),some (.ref z),some (.ref (ay.sz+1+1)),x,y,none,none]/\Chg [] aN Y') ⟨_,_,rfl,.refl _ _⟩ (fun i Z' Y' _=>rfl) ?_ ?_
 ·intro i x Z' aS hx zu9;refine jdp zu9 fun x' y' zq0 c7=>?_;clear zu9;subst zq0
  obtain⟨p,q,rfl⟩: ∃p q,x= .tup [.int p,.int q]:=by
   have:=mem_of_getElem? hx
   simp only[mem_cons,not_mem_nil,or_false]at this
   rcases this with rfl | rfl | rfl | rfl | rfl | rfl<;>exact⟨_,_,rfl⟩
  exact jls (m:=53) (T6.ext c7) (by decide) (by decide) (by decide) fun bl c8=>⟨_,_,rfl,c7.to c8⟩
 intro Z' aS zu1;refine jdp zu1 fun x' y' zq2 c7=>?_;clear zu1;subst zq2
 have T7:=T6.ext c7
 refine .dy (fun i Z' Y'=>∃x H ls,Z'= [some (.ref 0),some (.ref 2),some (.ref z),some (.ref (ay.sz+1+1)),x',y',x,none]/\i<=8/\Stt Y' z (ay.sz+1+1) (5+i) (2+i) (15+3*i) H ls) 8 ⟨none,H,ls,rfl,by exact jAW,T7⟩ fun i Z' Y' ⟨x,H,ls,bk,hi8,T8⟩=>⟨hi8,?_⟩
 subst bk
 refine jaj T8.K.e fun ks hks gks=>?_
 refine⟨ks.map .int,jhy gks,?_⟩
 cases hxi:(ks.map PV.int)[i]? with
 | some x=>
  refine jaj (jfB hxi) fun n hn zq3=>?_;subst zq3
  have hil:=(List.getElem?_eq_some_iff.mp hn).1
  refine jmh (m:=49) T8 (jAX hi8) (jAY hi8) (jAZ hi8) (jA0) fun r bC H' ls' T9=>jls (m:=53) T9 (jA1 hi8) (jA2 hi8) (jA3 hi8) fun cR c10=>⟨_,H',ls',rfl,succ_le_succ (jA4 hi8 hks hil),(T9.ext c10).weak (jA5) (jA6) (jA7)⟩
 | none=>
  have V8:=T8.V
  have I8:=T8.I
  have C8:=T8.C
  have hh:=T8.hh
  have hth:=C8.th
  have hfr:=C8.fr
  have e:=jry I8
  have bd:=jj1 (H':=H) I8 rfl rfl rfl rfl (jA8 hi8 hth) (jA9 hi8 hfr) e (by simp)
  rw[<- hh]
  refine hc (m:=55) V8 T8.L I8.srt bd e fun l bC A9=>?_
  have g9:=A9.at_
  have V9:=V8.ext A9.chg
  have l9:=jac g9
  refine ja2 (xs:=[]) (o1 l9) (by rw[jae l9];exact g9) get_alloc_new ?_
  have hys:=I8.ylen
  refine jcx (m:=56) (V9.ext (.alloc [] (.list []))) I8.at_ I8.bits (fun t ht=>(I8.in_ t ht).1) (jBa hi8 hth hys) fun l2 cR A10=>?_
  have g10:=A10.at_
  rw[I8.cards]at g10
  have l10:=jac g10
  refine jeR (xs:=[]) (o1 l10) (by rw[jae l10];exact g10) get_alloc_new (fun x hx=>by cases hx) rfl
theorem jne: ∀ns:List Int,ns.length<=63->b_law.wp (Ok P 60) [some (.ref 0),none,none,none,none,none,none,none] ⟨[.frozen (ns.map .int)]⟩ (fun fl _ _=>fl.val= .bool true):=fun ns h=>jo0 (jsM ns h)
end
noncomputable section
theorem jcZ(c:Cls):c∈allCls:=by cases c<;>simp[allCls]
theorem jrV{K:Frag}(ha:jsn K=true)(hb:jta K=true):jph Tt K fat P:=by
 intro f fn h
 have hf:f<83:=by
  have:=(Array.getElem?_eq_some_iff.mp h).1
  exact this
 have this:jsm K f=true:=by
  cases Nat.lt_or_ge f 42 with
  | inl l=>exact all_eq_true.mp ha f (mem_range.mpr l)
  | inr l=>
   obtain⟨k,rfl⟩:=Nat.exists_eq_add_of_le l
   have:=all_eq_true.mp hb k (mem_range.mpr (by omega))
   rw[Nat.add_comm]
   exact this
 unfold jsm at this
 rw[h]at this
 dsimp only at this
 rw[and_eq_true]at this
 exact⟨ctxs.getD f [],by simpa using this.1,this.2⟩
theorem jeF{K:Frag}(h:jdG K=true):(jsn K=true/\jta K=true)/\jkp K=true/\jo2 K=true/\jpu K=true/\jkZ K=true/\jkq K=true/\jrq K=true:=by
 simpa [jdG,jnF,and_eq_true,and_assoc]using h
theorem jrf{T:BT}{n a:Nat}{life:Life}{o:Obj}(e:gT T n a=some o):(absHeap T n life).get? a=some o:=by
 unfold gT at e
 cases h:blt a n with
 | false=>rw[h]at e;cases e
 | true=>
  rw[h,cond_true]at e
  cases g:T.get a with
  | none=>rw[g]at e;cases e
  | some x=>rw[g]at e;exact(abs_get (le_of_ble_eq_true h) g).trans e
theorem jpK{T:BT}{n:Nat}{life:Life}:(jm6 T n).In (absHeap T n life):=by
 unfold jm6
 generalize asL=l
 intro a o e
 induction l with
 | nil=>cases e
 | cons b l ih=>
  rw[List.filterMap_cons]at e
  cases hb:gT T n b with
  | none=>rw[hb]at e;exact ih e
  | some x=>
   rw[hb]at e
   change List.lookup a ((b,x)::_)=some o at e
   rw[lookup_cons]at e
   cases hab:a==b with
   | true=>rw[hab]at e;cases e;rw[beq_iff_eq.mp hab];exact jrf hb
   | false=>rw[hab]at e;exact ih e
def jm3:Bool:=allCls.all fun c=>(List.range c.num).all fun i=>(Tt.fld (c.off+i) !=("new_word":Str))&&(List.range c.num).all fun j=> !(Tt.fld (c.off+i)==Tt.fld (c.off+j))||i==j
theorem jm4:jm3=true:=by kernel_rfl
theorem jbJ{n:Nat}{q:Nat->Bool}(h:(List.range n).all q=true){i:Nat}(hi:i<n):q i=true:=by
 rw[all_eq_true]at h
 exact h i (mem_range.mpr hi)
theorem jk5{f:Nat}{x:Str}(h:Tt.fns[f]? =some x):f<83:=by
 have:=(List.getElem?_eq_some_iff.mp h).1
 exact this
theorem jg9{K:Frag}(hk:jkZ K=true)(c:Cls):nsIn K mainGlobals (Tt.clsn c)=some (some (.ref (clt c)))/\keepIn K (.ref (clt c))=true/\
  (plainGet K (clt c) ⟨#[]⟩=true/\hasDictIn K (clt c)=true/\findIn K (.ref (clt c)) "__setattr__"=some (some (.builtin "object.__setattr__"))/\plainOver K (clt c)=true/\makesIn K (clt c)=true)/\
  ∀i,i<c.num->findIn K (.ref (clt c)) (Tt.fld (c.off+i))=some none:=by
 have h:=hk
 unfold jkZ at h
 rw[all_eq_true]at h
 have h:=h c (jcZ c)
 simp only[and_eq_true,beq_iff_eq]at h
 obtain⟨⟨⟨⟨⟨⟨⟨h1,h2⟩,h3⟩,h4⟩,h5⟩,h6⟩,h7⟩,h8⟩:=h
 exact⟨h1,h2,⟨h3,h4,h5,h6,h7⟩,fun i hi=>by simpa using jbJ h8 hi⟩
theorem jsK{K:Frag}(hk:jdG K=true){U:Heap}{pr loose mg mb}(X:K.In U)(TR:TopRead pr loose mg mb U)(st:(U.get? sysModules).isSome=true):Gl Tt clt fat K U where
 top:=⟨pr,loose,mg,mb,TR⟩
 kin:=X
 gint:=fun j x i h=>by
  have hc:=(jeF hk).2.1
  unfold jkp at hc
  rw[all_eq_true]at hc
  have:=hc (x,i) (mem_of_getElem? h)
  dsimp only at this
  split at this
  ·rename_i k t e
   exact⟨t,by rw[e,beq_iff_eq.mp this]⟩
  ·cases this
 fn:=fun f x h hf=>by
  have:=jbJ (show (List.range 83).all _=true from(jeF hk).2.2.1) (jk5 h)
  rw[h]at this
  dsimp only at this
  rw[and_eq_true,or_eq_true]at this
  rcases this.1 with h1 | h1
  ·have hb:blt f Tt.nGlob=true:=by simp only[blt,Nat.ble_eq];exact hf
   rw[hb]at h1;cases h1
  ·exact beq_iff_eq.mp h1
 keeps:=fun f x h=>by
  have:=jbJ (show (List.range 83).all _=true from(jeF hk).2.2.1) (jk5 h)
  rw[h]at this
  dsimp only at this
  rw[and_eq_true]at this
  exact this.2
 clsg:=fun c=>(jg9 (jeF hk).2.2.2.2.1 c).1
 clsk:=fun c=>(jg9 (jeF hk).2.2.2.2.1 c).2.1
 bi:=fun x hx=>by
  have h:=(jeF hk).2.2.2.1
  unfold jpu at h
  rw[all_eq_true]at h
  exact beq_iff_eq.mp (h x hx)
 cget:=fun c=>(jg9 (jeF hk).2.2.2.2.1 c).2.2.1
 cfld:=fun c=>(jg9 (jeF hk).2.2.2.2.1 c).2.2.2
 cinit:=fun c f h=>by
  have hc:=(jeF hk).2.2.2.2.2.1
  unfold jkq at hc
  rw[all_eq_true]at hc
  have:=jbJ (hc c (jcZ c)) (jk5 h)
  rw[h]at this
  simpa using this
 fldinj:=fun c i j hi hj e=>by
  have hc:=jm4
  unfold jm3 at hc
  rw[all_eq_true]at hc
  have:=jbJ (hc c (jcZ c)) hi
  rw[and_eq_true]at this
  have:=jbJ this.2 hj
  rw[e]at this
  simpa using this
 fldnw:=fun c i hi=>by
  have hc:=jm4
  unfold jm3 at hc
  rw[all_eq_true]at hc
  have:=jbJ (hc c (jcZ c)) hi
  rw[and_eq_true]at this
  simpa using this.1
 nw:=fun f h=>by
  have:=jbJ ((jeF hk).2.2.2.2.2.2) (jk5 h)
  rw[h]at this
  simpa using this
 stat:=st
theorem jnE{O:List Ad}{h:Heap}{vs:List Value}{ns:List Int}(x:IntsAre vs ns):VReps O h (ns.map .int) vs:=by
 induction x with
 | nil=>exact VReps.nil
 | cons n t _ ih=>exact VReps.cons (by simp only[VRep];exact⟨t,rfl⟩) ih
theorem jpP{prog:Program}{w:World}{K:Frag}{ag:Shared}{aQ:Heap}{env:Env}{body:List Stmt}{a:Addr}{vs:List Value}{ns:List Int}{mm:Str->Option Value}{tk:Nat}
  {Ee:Value->Shared->Prop} (G:Gl Tt clt fat K ag.heap) (H:jph Tt K fat P) (hm:jmv Tt env.scope jkf b_law body=true) (hk:(jeQ env.scope jkf&&jiS jkf)=true) (hkind:env.scope.kind= .function)
  (hnc:(env.scope.names.all fun y=>y.2 != .cell)=true) (hgl:env.globals=mainGlobals) (hb:env.builtins=builtinsNs) (hcells:env.cells= []) (hscr:env.scope.names.lookup ("script":Str)=some .local)
  (F:Fr ag.heap ag.heap.objs.size aQ mm) (hmm:mm ("script":Str)=some (.ref a)) (hL:env.locals=ag.heap.objs.size)
  (hl:ag.heap.IsList a vs.toArray) (hI:IntsAre vs ns)
  (law:b_law.wp (Ok P 60) [some (.ref 0),none,none,none,none,none,none,none] ⟨[.frozen (ns.map .int)]⟩ (fun fl _ _=>fl.val= .bool true))
  :wpAny (model prog w) (callerA.deeper env) (execs body env) (fun f s'=>f= .ret (.bool true)/\s'.gens=ag.gens/\s'.os=ag.os/\∃m',Fr ag.heap env.locals s'.heap m') Ee {ag with heap:=aQ,toks:=tk}:=by
 rw[and_eq_true]at hk
 have nocell: ∀y,env.kindOf y≠some .cell:=fun y hy=>by
  have:=mem_of_lookup hy
  rw[all_eq_true]at hnc
  have:=hnc _ this
  simp at this
 have hlt:a<ag.heap.objs.size:=by obtain⟨o,e,_⟩:=hl;exact Heap.lt_size e
 have R:SR prog w clt Tt.fld ag.heap ⟨[.frozen (ns.map .int)]⟩ [(a,a)] aQ:=by
  refine⟨rfl,F.keep,fun i p o h1 h2 h3=>?_,fun i j p q h1 h2 h3=>?_,fun i p o h1 h2=>?_⟩
  ·cases i with
   | zero=>simp at h2;subst h2;cases h3
   | succ i=>simp at h1
  ·cases i with
   | zero=>
    cases j with
    | zero=>exact absurd rfl h3
    | succ j=>simp at h2
   | succ i=>simp at h1
  ·cases i with
   | zero=>
    simp at h1 h2
    subst h1;subst h2
    obtain⟨o,e1,e2⟩:=hl
    exact⟨rfl,vs,⟨o,F.keep _ _ e1,e2⟩,jnE hI⟩
   | succ i=>simp at h1
 have nmu: ∀b,ag.heap.objs.size<=b->¬InMu [(a,a)] b:=fun b hb x=>by
  obtain⟨p,hp,e⟩:=x
  have:=mem_singleton.mp hp
  subst this
  rcases e with rfl | rfl<;>exact absurd hlt (Nat.not_lt.mpr hb)
 have hLn:ag.heap.get? env.locals=none:=by rw[hL];exact jaH _
 obtain⟨oL,es,ep,n1,n2,n3,n4⟩:=id F.ns
 rw[<- hL]at n1
 have FO:FrOk ag.heap env env.scope jkf [some (.ref 0),none,none,none,none,none,none,none] [(a,a)] aQ:=by
  refine⟨⟨hkind,rfl,hgl,hb,rfl,fun y hy=>absurd hy (nocell y),fun i x pv h1 h2=>?_⟩,⟨mm,by rw[hL];exact F.ns⟩,⟨nmu _ (by rw[hL];exact le_refl _),hLn,oL,n1,.of_dict n2⟩,fun y c hc=>?_,fun y z c hc=>?_,jdK hk.2,fun i x h=>?_⟩
  ·match i,h1,h2 with
   | 0,h1,h2=>
    simp at h2
    subst h2
    have:x="script":=by simpa [jkf]using h1.symm
    subst this
    exact⟨.ref a,env.locals,oL,by simp only[VRep];exact⟨(a,a),rfl,rfl⟩,n1,nmu _ (by rw[hL];exact le_refl _),.inl ⟨hscr,rfl,es,ep,n2,n3,(n4 _).trans hmm⟩⟩
   | 1,_,h2=>simp at h2
   | 2,_,h2=>simp at h2
   | 3,_,h2=>simp at h2
   | 4,_,h2=>simp at h2
   | 5,_,h2=>simp at h2
   | 6,_,h2=>simp at h2
   | 7,_,h2=>simp at h2
   | n+8,_,h2=>simp at h2
  ·rw[hcells]at hc;cases hc
  ·rw[hcells]at hc;cases hc
  ·have:=hk.1
   unfold jeQ at this
   rw[all_eq_true]at this
   have:=this _ (mem_of_getElem? h)
   show env.scope.names.lookup x=_\/env.scope.names.lookup x=_
   simpa using this
 have hA:AOk 60 (callerA.deeper env):=by
  refine⟨rfl,?_,?_⟩
  ·show 1+claimMargin+1+3*60<=500
   decide
  ·show 4+3+40*60<=5000
   decide
 refine wpAny_mono (jkG G b_law body env.scope jkf hm _ env _ _ [(a,a)] {ag with heap:=aQ,toks:=tk} _ hA FO R (jaR (jmH G H 60) _ (fun _ _ _=>id) law)) (fun f s' h=>?_) fun _ _ e=>e.elim
 obtain⟨fl,Z',Y',O',q,r,F',R',S⟩:=h
 obtain⟨m',hm'⟩:=F'.ns
 cases fl with
 | next=>cases q
 | ret v=>
  have q:v= .bool true:=q
  subst q
  obtain⟨u,rfl,V⟩:=r
  rw[jcv V]
  exact⟨rfl,S.gens,S.os,m',hm',R'.keep,by rw[hL];exact le_refl _⟩
noncomputable def jsh(h:Heap):Bool:= @decide (∃ K:Frag,K.In h/\jdG K=true) (Classical.propDecidable _)
theorem jpM{h:Heap}{K:Frag}(x:K.In h)(c:jdG K=true):jsh h=true:= @decide_eq_true _ (Classical.propDecidable _) ⟨K,x,c⟩
theorem jrh{h:Heap}(e:jsh h=true): ∃K:Frag,K.In h/\jdG K=true:= @of_decide_eq_true _ (Classical.propDecidable _) e
theorem lo(w:World):(openEnds treeTable LW.prog w 7090).map (fun s=>(openSeen qV lsV (importedModules LW.prog.main.body) (fun s=>xlAt qV [] s&&recOk (RowW.records LW.row.toRowW) s) true s,jsh s.heap))=some (openGood qV lsV,true):=by
 have b:=boot_open (p:=LW.prog) (N:=7090) rfl rfl (fun s=>rfl) w
 obtain⟨⟨h,g,d,t,os⟩,hs,e⟩:=Option.map_eq_some_iff.mp b
 simp only[Prod.mk.injEq]at e
 obtain⟨rfl,rfl,rfl,rfl⟩:=e
 have E1:=e1A w os
 have E3:=e1B w os
 have E2:=e2 w os
 have H:=fun s=> @jrX w os s
 unfold openEnds
 rw[hs]
 generalize jp8 w os=T at E1 E2 E3 H
 generalize topFrom treeTable LW.prog w 7090=F at H ⊢
 obtain⟨s1,h1,q1⟩:=Option.map_eq_some_iff.mp E1
 obtain⟨s2,h2,q2⟩:=Option.map_eq_some_iff.mp E2
 obtain⟨s3,h3,q3⟩:=Option.map_eq_some_iff.mp E3
 rw[h1]at h2 h3
 cases h2
 cases h3
 obtain⟨l,q2⟩:=Prod.mk.inj q2
 have c:jdG (jm6 s1.tree s1.n)=true:=by
  unfold jdG
  rw[q1,q3]
  rfl
 rw[Option.bind_some,H s1 h1 l,Option.map_some,q2,jpM (h:=s1.abs.heap) jpK c]
local macro_rules | `(tactic| k_qdec) => `(tactic| decide +kernel)
theorem cw_holds:PySem.Challenge.rw_sz0046_01.Holds:=by
 w_on
 refine holds_law ws fun said=>?_
 refine holds_open (q:=qV) (loose:=lsV) (Xt:=fun s=>xlAt qV [] s&&recOk (RowW.records LW.row.toRowW) s) (XP:=XL qV []) (Yf:=fun s=>jsh s.heap) (Ya:=fun _=>true) (YP:=fun _ h=>∃K:Frag,K.In h/\jdG K=true) (N:=7090) lo (fun w s e=>jrh e) (fun w h h' ⟨K,x,c⟩ k=>⟨K,x.keeps k,c⟩) (fun s e=>xl_of s (Bool.and_eq_true_iff.mp e).1) XL.keeps (by rfl) (by rfl) (by rfl) (fun s e=>recFacts_of (Bool.and_eq_true_iff.mp e).2) (by rfl) said (by decide +kernel) ⟨rfl,rfl,rfl,rfl,rfl,by decide +kernel⟩ ?hw ?hc
 case hw=>w_witness2
 case hc=>
  intro w dJ ag mg mb G Y fa o pm cd doc dV kV ho hd hcd hD hmg hg args vals as hpre hlay hrd hwl hlo
  obtain⟨K,KX,hK⟩:=Y
  k_behind G ho hd hcd hD hmg hpre hlay hrd hwl hlo cd
  have TT:=‹Top qV _ _ _ _ _›
  have FF:=‹Fr _ _ _ _›
  have II:=‹IntsAre _ _›
  have hl:=‹Heap.IsList _ _ _›
  have hg:=‹_=(#[]:Array _)›
  have hc:=‹¬ ((63:Nat):Int)<_›
  have GG:=jsK hK KX (topRead_of TT) (by
   obtain⟨mm,⟨o,_,_,e,_⟩,_⟩:=(TT.seer (by kernel_rfl)).mods
   rw[e];rfl)
  refine wpAny_mono (jpP GG (jrV (jeF hK).1.1 (jeF hK).1.2) (by kernel_rfl) (by kernel_rfl) rfl (by kernel_rfl) rfl rfl rfl (by kernel_rfl) FF rfl rfl hl II (jne _ (by omega))) (fun f s' h=>?_) fun _ _ e=>e
  obtain⟨rfl,h1,h2,m',h3⟩:=h
  exact goodW_bool h3 (h1.trans hg) (raisesW_false (by wrow_none_raised)) (by kc_post) h2
end
end Mine.Tactic
theorem PySem.Challenge.cw_sz0046_01_holds : PySem.Challenge.rw_sz0046_01.Holds :=
Mine.Tactic.cw_holds
