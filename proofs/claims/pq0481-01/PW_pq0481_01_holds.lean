import PyProof.Rows.All
import Wide.All
import OpenK.AllK
import Wide.FinOn
import Open.Tops
import OpenK.KLine
import OpenK.XDrive
import KE.KTryDeep
import PyProof.ExcClass3
import PyProof.ExcInit
import Lean
import PySem.Challenge.RW_pq0481_01
set_option Elab.async false
set_option linter.all false
set_option compiler.extract_closed false
set_option maxRecDepth 100000
set_option maxHeartbeats 8000000
open PySem PySem.W PyProof.Rows PySem.Calls
namespace Mine
section
open PySem.Challenge PySem.W.Fast
open TablesWhole
theorem rd_vars:readsOut pw_pq0481_01 pw_pq0481_01.main.body "vars"=false:=by rewrite [te13343964577679436407];kernel_rfl
theorem rd_dir:readsOut pw_pq0481_01 pw_pq0481_01.main.body "dir"=false:=by rewrite [te13343964577679436407];kernel_rfl
theorem rd_locals:readsOut pw_pq0481_01 pw_pq0481_01.main.body "locals"=false:=by rewrite [te13343964577679436407];kernel_rfl
theorem none_of_3 {f:Str→Bool} {a b c:Str} (x:f a=false) (y:f b=false) (z:f c=false):[a,b,c].filter f=[]:=by simp only [List.filter,x,y,z]
theorem lk_bare:(["vars","dir","locals"]:List Str).filter (readsOut pw_pq0481_01 pw_pq0481_01.main.body)=[]:=none_of_3 rd_vars rd_dir rd_locals
theorem lk_mods:importedModules pw_pq0481_01.main.body=[]:=by kernel_rfl
theorem lk_strict:(!(importedModules pw_pq0481_01.main.body).all cThrough.contains)=false:=by rw [lk_mods];rfl
theorem nr_0:noRoadLSs { strict:=false,foot:=none,bare:=[] } pw_pq0481_01.main.body=true:=by rewrite [te8326940854005059898];kernel_rfl
theorem nr_all:noRoadLSs { strict:=!(importedModules pw_pq0481_01.main.body).all cThrough.contains,foot:=none,bare:=(["vars","dir","locals"]:List Str).filter (readsOut pw_pq0481_01 pw_pq0481_01.main.body) } pw_pq0481_01.main.body=true:=by
  rw [lk_bare,lk_strict];exact nr_0
theorem nm_1:namesResolve rw_pq0481_01.row.prog=true:=by rewrite [te8377067652309620493];kernel_rfl
theorem nm_2:namesMeet rw_pq0481_01.row.prog rw_pq0481_01.row.prog.main.body (fun _ n=>attrL n)=true:=by rewrite [te17119622794617984870,te17868728402115742887];kernel_rfl
section
theorem ws_nil (top:Scope) (cx:TablesWhole.Ctx) (sc:Scope):wSs holds top cx sc []=true:=by kernel_rfl
theorem ws_cons (top:Scope) (cx:TablesWhole.Ctx) (sc:Scope) (s:Stmt) (r:List Stmt):wSs holds top cx sc (s::r)=(wS holds top cx sc s && wSs holds top cx sc r):=by kernel_rfl
theorem ws_cut (top:Scope) (cx:TablesWhole.Ctx) (sc:Scope) (n:Nat):∀ l:List Stmt,wSs holds top cx sc l=(wSs holds top cx sc (l.take n) && wSs holds top cx sc (l.drop n)):=by
  induction n with
  | zero=>intro l;rw [List.take_zero,List.drop_zero,ws_nil,Bool.true_and]
  | succ n ih =>
    intro l
    cases l with
    | nil=>rw [List.take_nil,List.drop_nil,ws_nil,Bool.true_and]
    | cons s r=>rw [List.take_succ_cons,List.drop_succ_cons,ws_cons,ws_cons,ih r,Bool.and_assoc]
theorem ws_seg {top:Scope} {cx:TablesWhole.Ctx} {sc:Scope} {l:List Stmt} (i n:Nat) (h1:wSs holds top cx sc ((l.drop i).take n)=true) (h2:wSs holds top cx sc (l.drop (i+n))=true):wSs holds top cx sc (l.drop i)=true:=by
  rw [ws_cut top cx sc n (l.drop i),List.drop_drop,h1,h2];rfl
theorem tw_told:wSs gather pw_pq0481_01.main.scope ⟨pw_pq0481_01.main.scope,[],[],[],none⟩ pw_pq0481_01.main.scope pw_pq0481_01.main.body=[]:=by rewrite [te16421684217811934046];kernel_rfl
theorem tw_twice:noTwice pw_pq0481_01.main.scope=true:=by rewrite [te8331962902438777018];kernel_rfl
theorem tw_0:wSs holds pw_pq0481_01.main.scope ⟨pw_pq0481_01.main.scope,[],[],[],none⟩ pw_pq0481_01.main.scope ((pw_pq0481_01.main.body.drop 0).take 40)=true:=by rewrite [te16421684217811934046];kernel_rfl
theorem tw_1:wSs holds pw_pq0481_01.main.scope ⟨pw_pq0481_01.main.scope,[],[],[],none⟩ pw_pq0481_01.main.scope ((pw_pq0481_01.main.body.drop 40).take 40)=true:=by rewrite [te16421684217811934046];kernel_rfl
theorem tw_2:wSs holds pw_pq0481_01.main.scope ⟨pw_pq0481_01.main.scope,[],[],[],none⟩ pw_pq0481_01.main.scope ((pw_pq0481_01.main.body.drop 80).take 40)=true:=by rewrite [te16421684217811934046];kernel_rfl
theorem tw_3:wSs holds pw_pq0481_01.main.scope ⟨pw_pq0481_01.main.scope,[],[],[],none⟩ pw_pq0481_01.main.scope ((pw_pq0481_01.main.body.drop 120).take 40)=true:=by rewrite [te16421684217811934046];kernel_rfl
theorem tw_4:wSs holds pw_pq0481_01.main.scope ⟨pw_pq0481_01.main.scope,[],[],[],none⟩ pw_pq0481_01.main.scope (pw_pq0481_01.main.body.drop 160)=true:=by rewrite [te16421684217811934046];kernel_rfl
theorem tabs_of {p:Program} (h1:noTwice p.main.scope=true) (h2:wSs gather p.main.scope ⟨p.main.scope,[],[],[],none⟩ p.main.scope p.main.body=[])
    (h3:wSs holds p.main.scope ⟨p.main.scope,[],[],[],none⟩ p.main.scope (p.main.body.drop 0)=true) (hm:p.modules=[]) (hp:p.parses=[]) (hh:p.harvested=[]):p.tablesWhole=true:=by
  rw [List.drop_zero] at h3
  unfold Program.tablesWhole wProgram wModule Alg.all
  rw [hm,hp,hh,h2]
  simp only [List.foldr_cons,List.foldr_nil,List.map_nil]
  rw [h3]
  show ((true && (noTwice p.main.scope && (true && true))) && (true && (true && (true && true))))=true
  rw [h1];rfl
theorem tabs:rw_pq0481_01.row.prog.tablesWhole=true :=
  tabs_of (p:=pw_pq0481_01) tw_twice tw_told (ws_seg 0 40 tw_0 (ws_seg 40 40 tw_1 (ws_seg 80 40 tw_2 (ws_seg 120 40 tw_3 tw_4)))) (by kernel_rfl) (by kernel_rfl) (by kernel_rfl)
end
theorem said:rw_pq0481_01.wellSaid=true:=by
  unfold OpenLaw.wellSaid OpenRow.wellSaid OpenRow.partSaid looksOpen
  repeat' (with_reducible refine look_both ?_ ?_)
  · rewrite [te11788848310118352699,te2368527892694137696];decide +kernel
  · rewrite [te9807087744658564304,te2368527892694137696,te12862048085361865435];decide +kernel
  · exact nm_1
  · rewrite [R.allR_eq,te18344453789297297638,te2368527892694137696,te3471404346716756564,sDec_eq,te14412699480532031325];decide +kernel
  · exact nr_all
  · exact nm_2
  · rewrite [te2368527892694137696];decide +kernel
  · rewrite [te2368527892694137696];decide +kernel
  · rewrite [te2368527892694137696,R.allR_eq,te9706382859710513879];decide +kernel
  · rewrite [R.allR_eq,te2368527892694137696,te3471404346716756564,sDec_eq,te18344453789297297638,S.strDecS_eq,te2357444279172408678];decide +kernel
  · rewrite [R.mapR_eq,te2368527892694137696,sDec_eq];decide +kernel
  · rewrite [R.allR_eq,te2368527892694137696,te4857012375875476094,named_eq,te3471404346716756564,sDec_eq,te18344453789297297638];decide +kernel
  · rewrite [te13582783067957832011,te2368527892694137696];decide +kernel
  · rewrite [te5318747976498570220,te2368527892694137696];decide +kernel
  · rewrite [te5318747976498570220,te2368527892694137696];decide +kernel
  · rewrite [R.allR_eq,te2368527892694137696,te5318747976498570220];decide +kernel
  · rewrite [R.allR_eq,te2368527892694137696,te4579403493507170074,R.anyR_eq,te4274047373036748609];decide +kernel
  · rewrite [R.allR_eq,te2368527892694137696];decide +kernel
  · rewrite [te2368527892694137696];decide +kernel
  · rewrite [te3471404346716756564,sDec_eq,te18344453789297297638,te2368527892694137696];decide +kernel
  · rewrite [te3471404346716756564,sDec_eq,te12749700546528644094,te2368527892694137696];decide +kernel
  · decide +kernel
  · rewrite [R.allR_eq,te10501279942588096481];decide +kernel
  · rewrite [te8179353310426384613];decide +kernel
  · decide +kernel
  · decide +kernel
  · rewrite [te8326940854005059898,te797321630700447069,te9572597257264208301];decide +kernel
  · rewrite [te9558739934217749035];decide +kernel
  · rewrite [te16286561074155671207];decide +kernel
  · rewrite [R.allR_eq,sDec_eq];decide +kernel
  · rewrite [R.allR_eq,te797321630700447069,named_eq,sDec_eq,te6984425678791042302];decide +kernel
  · rewrite [R.allR_eq,te17095254045102204799,te12879404354523853263,te6984425678791042302];decide +kernel
  · rewrite [R.allR_eq,te17095254045102204799,te12879404354523853263,te6984425678791042302,te482687673346738481,sDec_eq];decide +kernel
  · rewrite [te17119622794617984870,te3471404346716756564,sDec_eq,te9572597257264208301];decide +kernel
  · rewrite [te3471404346716756564,sDec_eq,te10792542408131684335];decide +kernel
  · rewrite [te7723801398212525404,sDec_eq,te10792542408131684335];decide +kernel
  · rewrite [R.allR_eq,te10792542408131684335,named_eq];decide +kernel
  · rewrite [te17119622794617984870,te3471404346716756564,sDec_eq,te10792542408131684335];decide +kernel
  · rewrite [te17119622794617984870,sDec_eq];decide +kernel
theorem head_first (h:rw_pq0481_01.row.wellSaid=true→rw_pq0481_01.row.Holds):rw_pq0481_01.Holds:=holds_law said h
end
section
noncomputable abbrev Pw:Program:=PySem.Challenge.pw_pq0481_01
noncomputable def stAt (i:Nat):Stmt:=Pw.main.body[i]?.getD (.Pass ⟨0,0,0,0⟩)
noncomputable def mAt (i j:Nat):Stmt:=match stAt i with
  | .ClassDef _ _ _ b _ _ _ _ _ _ _=>b[j]?.getD (.Pass ⟨0,0,0,0⟩)
  | s=>s
noncomputable def fName:Stmt→Str
  | .FunctionDef n _ _ _ _ _ _ _ _ _=>n
  | _=>Str.ofString ""
noncomputable def fParams:Stmt→Arguments
  | .FunctionDef _ a _ _ _ _ _ _ _ _=>a
  | _=>⟨[],[],none,[],[],none,[]⟩
noncomputable def fBody:Stmt→List Stmt
  | .FunctionDef _ _ b _ _ _ _ _ _ _=>b
  | _=>[]
noncomputable def fScope:Stmt→Scope
  | .FunctionDef _ _ _ _ _ _ s _ _ _=>s
  | _=>{ kind:=.module,names:=[],isGenerator:=false,isCoroutine:=false,more:=[] }
noncomputable abbrev fobj (st:Stmt) (qual:Str) (mod code dfl:Value):Obj :=
  ⟨.type "function",none,.func { name:=fName st,qualname:=qual,params:=fParams st,body:=.stmts (fBody st),scope:=fScope st,globals:=mainGlobals,closure:=[],defaults:=dfl,kwdefaults:=.none,doc:=.none,pyModule:=mod,annotations:=none,code:=code,closureTuple:=.none,builtins:=builtinsNs },#[]⟩
noncomputable def K0 (P:Params):Frag :=
  ((nat_lit 1),⟨(.type "dict"),none,(.dict (List.toArray (
    ⟨PyData.keyHash P (Str.ofString "builtins"),(.str (Str.ofString "builtins") 162),(.ref 4)⟩ ::
    ⟨PyData.keyHash P (Str.ofString "__main__"),(.str (Str.ofString "__main__") 163),(.ref 5)⟩::[])) 2),List.toArray []⟩) ::
  ((nat_lit 2),⟨.none,none,(.dict (List.toArray (
    ⟨PyData.keyHash P (Str.ofString "type.__subclasses__.Exception.0"),(.str (Str.ofString "type.__subclasses__.Exception.0") 336),(.int (109) 0)⟩ ::
    ⟨PyData.keyHash P (Str.ofString "type.__subclasses__.Exception.n"),(.str (Str.ofString "type.__subclasses__.Exception.n") 337),(.int (1) 0)⟩::[])) 2),List.toArray []⟩) ::
  ((nat_lit 3),⟨(.type "dict"),none,(.dict (List.toArray (
    ⟨PyData.keyHash P (Str.ofString "__name__"),(.str (Str.ofString "__name__") 165),(.str (Str.ofString "law_pq0481_01") 2121)⟩ ::
    ⟨PyData.keyHash P (Str.ofString "__doc__"),(.str (Str.ofString "__doc__") 166),.none⟩ ::
    ⟨PyData.keyHash P (Str.ofString "__package__"),(.str (Str.ofString "__package__") 167),.none⟩ ::
    ⟨PyData.keyHash P (Str.ofString "__loader__"),(.str (Str.ofString "__loader__") 168),(.builtin "__main__.__loader__#opaque")⟩ ::
    ⟨PyData.keyHash P (Str.ofString "__spec__"),(.str (Str.ofString "__spec__") 169),.none⟩ ::
    ⟨PyData.keyHash P (Str.ofString "__annotations__"),(.str (Str.ofString "__annotations__") 170),(.ref 6)⟩ ::
    ⟨PyData.keyHash P (Str.ofString "__builtins__"),(.str (Str.ofString "__builtins__") 171),(.ref 4)⟩ ::
    ⟨PyData.keyHash P (Str.ofString "__file__"),(.str (Str.ofString "__file__") 173),(.str (Str.ofString "/claim/cut.py") 172)⟩ ::
    ⟨PyData.keyHash P (Str.ofString "__cached__"),(.str (Str.ofString "__cached__") 174),.none⟩ ::
    ⟨PyData.keyHash P (Str.ofString "_wall"),(.str (Str.ofString "_wall") 193),(.ref 21)⟩ ::
    ⟨PyData.keyHash P (Str.ofString "net_kinds"),(.str (Str.ofString "net_kinds") 201),(.ref 28)⟩ ::
    ⟨PyData.keyHash P (Str.ofString "Design"),(.str (Str.ofString "Design") 301),(.ref 87)⟩ ::
    ⟨PyData.keyHash P (Str.ofString "GateloomError"),(.str (Str.ofString "GateloomError") 339),(.ref 109)⟩ ::
    ⟨PyData.keyHash P (Str.ofString "DesignError"),(.str (Str.ofString "DesignError") 355),(.ref 122)⟩ ::
    ⟨PyData.keyHash P (Str.ofString "LimitReached"),(.str (Str.ofString "LimitReached") 371),(.ref 134)⟩ ::
    ⟨PyData.keyHash P (Str.ofString "mask"),(.str (Str.ofString "mask") 380),(.ref 143)⟩ ::
    ⟨PyData.keyHash P (Str.ofString "vec"),(.str (Str.ofString "vec") 391),(.ref 151)⟩ ::
    ⟨PyData.keyHash P (Str.ofString "zeros"),(.str (Str.ofString "zeros") 398),(.ref 158)⟩ ::
    ⟨PyData.keyHash P (Str.ofString "all_x"),(.str (Str.ofString "all_x") 406),(.ref 165)⟩ ::
    ⟨PyData.keyHash P (Str.ofString "all_z"),(.str (Str.ofString "all_z") 413),(.ref 172)⟩ ::
    ⟨PyData.keyHash P (Str.ofString "from_int"),(.str (Str.ofString "from_int") 421),(.ref 179)⟩ ::
    ⟨PyData.keyHash P (Str.ofString "is_known"),(.str (Str.ofString "is_known") 428),(.ref 186)⟩ ::
    ⟨PyData.keyHash P (Str.ofString "to_int"),(.str (Str.ofString "to_int") 439),(.ref 193)⟩ ::
    ⟨PyData.keyHash P (Str.ofString "code"),(.str (Str.ofString "code") 447),(.ref 200)⟩ ::
    ⟨PyData.keyHash P (Str.ofString "slice_vec"),(.str (Str.ofString "slice_vec") 463),(.ref 207)⟩ ::
    ⟨PyData.keyHash P (Str.ofString "put_slice"),(.str (Str.ofString "put_slice") 479),(.ref 214)⟩ ::
    ⟨PyData.keyHash P (Str.ofString "concat"),(.str (Str.ofString "concat") 490),(.ref 221)⟩ ::
    ⟨PyData.keyHash P (Str.ofString "extend"),(.str (Str.ofString "extend") 503),(.ref 228)⟩ ::
    ⟨PyData.keyHash P (Str.ofString "z_to_x"),(.str (Str.ofString "z_to_x") 510),(.ref 235)⟩ ::
    ⟨PyData.keyHash P (Str.ofString "truth"),(.str (Str.ofString "truth") 517),(.ref 242)⟩ ::
    ⟨PyData.keyHash P (Str.ofString "Store"),(.str (Str.ofString "Store") 586),(.ref 280)⟩ ::
    ⟨PyData.keyHash P (Str.ofString "Context"),(.str (Str.ofString "Context") 645),(.ref 323)⟩ ::
    ⟨PyData.keyHash P (Str.ofString "add"),(.str (Str.ofString "add") 655),(.ref 334)⟩ ::
    ⟨PyData.keyHash P (Str.ofString "sub"),(.str (Str.ofString "sub") 663),(.ref 341)⟩ ::
    ⟨PyData.keyHash P (Str.ofString "mul"),(.str (Str.ofString "mul") 671),(.ref 348)⟩ ::
    ⟨PyData.keyHash P (Str.ofString "neg"),(.str (Str.ofString "neg") 678),(.ref 355)⟩ ::
    ⟨PyData.keyHash P (Str.ofString "quotient"),(.str (Str.ofString "quotient") 687),(.ref 362)⟩ ::
    ⟨PyData.keyHash P (Str.ofString "div"),(.str (Str.ofString "div") 698),(.ref 369)⟩ ::
    ⟨PyData.keyHash P (Str.ofString "mod"),(.str (Str.ofString "mod") 709),(.ref 376)⟩ ::
    ⟨PyData.keyHash P (Str.ofString "raise_whole"),(.str (Str.ofString "raise_whole") 722),(.ref 383)⟩ ::
    ⟨PyData.keyHash P (Str.ofString "power"),(.str (Str.ofString "power") 735),(.ref 390)⟩ ::
    ⟨PyData.keyHash P (Str.ofString "shift_left"),(.str (Str.ofString "shift_left") 745),(.ref 397)⟩ ::
    ⟨PyData.keyHash P (Str.ofString "shift_right"),(.str (Str.ofString "shift_right") 754),(.ref 404)⟩ ::
    ⟨PyData.keyHash P (Str.ofString "shift_arith"),(.str (Str.ofString "shift_arith") 769),(.ref 411)⟩ ::
    ⟨PyData.keyHash P (Str.ofString "ordered"),(.str (Str.ofString "ordered") 780),(.ref 418)⟩ ::
    ⟨PyData.keyHash P (Str.ofString "less"),(.str (Str.ofString "less") 790),(.ref 425)⟩ ::
    ⟨PyData.keyHash P (Str.ofString "less_equal"),(.str (Str.ofString "less_equal") 800),(.ref 432)⟩ ::
    ⟨PyData.keyHash P (Str.ofString "greater"),(.str (Str.ofString "greater") 809),(.ref 439)⟩ ::
    ⟨PyData.keyHash P (Str.ofString "greater_equal"),(.str (Str.ofString "greater_equal") 818),(.ref 446)⟩ ::
    ⟨PyData.keyHash P (Str.ofString "one_bit"),(.str (Str.ofString "one_bit") 827),(.ref 453)⟩ ::
    ⟨PyData.keyHash P (Str.ofString "bit_not"),(.str (Str.ofString "bit_not") 837),(.ref 460)⟩ ::
    ⟨PyData.keyHash P (Str.ofString "bit_and"),(.str (Str.ofString "bit_and") 851),(.ref 467)⟩ ::
    ⟨PyData.keyHash P (Str.ofString "bit_or"),(.str (Str.ofString "bit_or") 866),(.ref 474)⟩ ::
    ⟨PyData.keyHash P (Str.ofString "bit_xor"),(.str (Str.ofString "bit_xor") 875),(.ref 481)⟩ ::
    ⟨PyData.keyHash P (Str.ofString "bit_xnor"),(.str (Str.ofString "bit_xnor") 883),(.ref 488)⟩ ::
    ⟨PyData.keyHash P (Str.ofString "reduce_and"),(.str (Str.ofString "reduce_and") 893),(.ref 495)⟩ ::
    ⟨PyData.keyHash P (Str.ofString "reduce_nand"),(.str (Str.ofString "reduce_nand") 900),(.ref 502)⟩ ::
    ⟨PyData.keyHash P (Str.ofString "reduce_or"),(.str (Str.ofString "reduce_or") 907),(.ref 509)⟩ ::
    ⟨PyData.keyHash P (Str.ofString "reduce_nor"),(.str (Str.ofString "reduce_nor") 914),(.ref 516)⟩ ::
    ⟨PyData.keyHash P (Str.ofString "reduce_xor"),(.str (Str.ofString "reduce_xor") 923),(.ref 523)⟩ ::
    ⟨PyData.keyHash P (Str.ofString "reduce_xnor"),(.str (Str.ofString "reduce_xnor") 930),(.ref 530)⟩ ::
    ⟨PyData.keyHash P (Str.ofString "logic_not"),(.str (Str.ofString "logic_not") 937),(.ref 537)⟩ ::
    ⟨PyData.keyHash P (Str.ofString "logic_and"),(.str (Str.ofString "logic_and") 945),(.ref 544)⟩ ::
    ⟨PyData.keyHash P (Str.ofString "logic_or"),(.str (Str.ofString "logic_or") 953),(.ref 551)⟩ ::
    ⟨PyData.keyHash P (Str.ofString "equal"),(.str (Str.ofString "equal") 962),(.ref 558)⟩ ::
    ⟨PyData.keyHash P (Str.ofString "not_equal"),(.str (Str.ofString "not_equal") 970),(.ref 565)⟩ ::
    ⟨PyData.keyHash P (Str.ofString "case_equal"),(.str (Str.ofString "case_equal") 978),(.ref 572)⟩ ::
    ⟨PyData.keyHash P (Str.ofString "case_not_equal"),(.str (Str.ofString "case_not_equal") 986),(.ref 579)⟩ ::
    ⟨PyData.keyHash P (Str.ofString "matches"),(.str (Str.ofString "matches") 997),(.ref 586)⟩ ::
    ⟨PyData.keyHash P (Str.ofString "choose"),(.str (Str.ofString "choose") 1010),(.ref 593)⟩ ::
    ⟨PyData.keyHash P (Str.ofString "unary"),(.str (Str.ofString "unary") 1020),(.ref 600)⟩ ::
    ⟨PyData.keyHash P (Str.ofString "arithmetic"),(.str (Str.ofString "arithmetic") 1030),(.ref 607)⟩ ::
    ⟨PyData.keyHash P (Str.ofString "comparison"),(.str (Str.ofString "comparison") 1040),(.ref 614)⟩ ::
    ⟨PyData.keyHash P (Str.ofString "bitwise"),(.str (Str.ofString "bitwise") 1049),(.ref 621)⟩ ::
    ⟨PyData.keyHash P (Str.ofString "binary"),(.str (Str.ofString "binary") 1060),(.ref 628)⟩ ::
    ⟨PyData.keyHash P (Str.ofString "whole_of"),(.str (Str.ofString "whole_of") 1069),(.ref 635)⟩ ::
    ⟨PyData.keyHash P (Str.ofString "memory_word"),(.str (Str.ofString "memory_word") 1079),(.ref 642)⟩ ::
    ⟨PyData.keyHash P (Str.ofString "picked"),(.str (Str.ofString "picked") 1089),(.ref 649)⟩ ::
    ⟨PyData.keyHash P (Str.ofString "conditional"),(.str (Str.ofString "conditional") 1099),(.ref 656)⟩ ::
    ⟨PyData.keyHash P (Str.ofString "bits_needed"),(.str (Str.ofString "bits_needed") 1107),(.ref 663)⟩ ::
    ⟨PyData.keyHash P (Str.ofString "system_value"),(.str (Str.ofString "system_value") 1118),(.ref 1081)⟩ ::
    ⟨PyData.keyHash P (Str.ofString "system_value_evaluate"),(.str (Str.ofString "system_value_evaluate") 1119),(.ref 670)⟩ ::
    ⟨PyData.keyHash P (Str.ofString "evaluate"),(.str (Str.ofString "evaluate") 1125),(.ref 675)⟩ ::
    ⟨PyData.keyHash P (Str.ofString "locate"),(.str (Str.ofString "locate") 1134),(.ref 682)⟩ ::
    ⟨PyData.keyHash P (Str.ofString "holder_width"),(.str (Str.ofString "holder_width") 1142),(.ref 689)⟩ ::
    ⟨PyData.keyHash P (Str.ofString "resolve_target"),(.str (Str.ofString "resolve_target") 1161),(.ref 696)⟩ ::
    ⟨PyData.keyHash P (Str.ofString "store_rows"),(.str (Str.ofString "store_rows") 1178),(.ref 703)⟩ ::
    ⟨PyData.keyHash P (Str.ofString "DEPTH_LIMIT"),(.str (Str.ofString "DEPTH_LIMIT") 1182),(.int (24) 1181)⟩ ::
    ⟨PyData.keyHash P (Str.ofString "FunctionContext"),(.str (Str.ofString "FunctionContext") 1249),(.ref 747)⟩ ::
    ⟨PyData.keyHash P (Str.ofString "run_block"),(.str (Str.ofString "run_block") 1259),(.ref 756)⟩ ::
    ⟨PyData.keyHash P (Str.ofString "run_set"),(.str (Str.ofString "run_set") 1269),(.ref 763)⟩ ::
    ⟨PyData.keyHash P (Str.ofString "run_case"),(.str (Str.ofString "run_case") 1282),(.ref 770)⟩ ::
    ⟨PyData.keyHash P (Str.ofString "run_while"),(.str (Str.ofString "run_while") 1293),(.ref 777)⟩ ::
    ⟨PyData.keyHash P (Str.ofString "run_repeat"),(.str (Str.ofString "run_repeat") 1303),(.ref 784)⟩ ::
    ⟨PyData.keyHash P (Str.ofString "run_for"),(.str (Str.ofString "run_for") 1311),(.ref 791)⟩ ::
    ⟨PyData.keyHash P (Str.ofString "run_statement"),(.str (Str.ofString "run_statement") 1320),(.ref 798)⟩ ::
    ⟨PyData.keyHash P (Str.ofString "children"),(.str (Str.ofString "children") 1330),(.ref 805)⟩ ::
    ⟨PyData.keyHash P (Str.ofString "subexpressions"),(.str (Str.ofString "subexpressions") 1341),(.ref 812)⟩ ::
    ⟨PyData.keyHash P (Str.ofString "expr_reads"),(.str (Str.ofString "expr_reads") 1350),(.ref 819)⟩ ::
    ⟨PyData.keyHash P (Str.ofString "expr_calls"),(.str (Str.ofString "expr_calls") 1359),(.ref 826)⟩ ::
    ⟨PyData.keyHash P (Str.ofString "target_indexes"),(.str (Str.ofString "target_indexes") 1368),(.ref 833)⟩ ::
    ⟨PyData.keyHash P (Str.ofString "target_writes"),(.str (Str.ofString "target_writes") 1377),(.ref 840)⟩ ::
    ⟨PyData.keyHash P (Str.ofString "stmt_parts"),(.str (Str.ofString "stmt_parts") 1383),(.ref 845)⟩ ::
    ⟨PyData.keyHash P (Str.ofString "substatements"),(.str (Str.ofString "substatements") 1394),(.ref 852)⟩ ::
    ⟨PyData.keyHash P (Str.ofString "stmt_targets"),(.str (Str.ofString "stmt_targets") 1400),(.ref 857)⟩ ::
    ⟨PyData.keyHash P (Str.ofString "stmt_exprs"),(.str (Str.ofString "stmt_exprs") 1412),(.ref 864)⟩ ::
    ⟨PyData.keyHash P (Str.ofString "stmt_reads"),(.str (Str.ofString "stmt_reads") 1423),(.ref 871)⟩ ::
    ⟨PyData.keyHash P (Str.ofString "stmt_writes"),(.str (Str.ofString "stmt_writes") 1434),(.ref 878)⟩ ::
    ⟨PyData.keyHash P (Str.ofString "stmt_calls"),(.str (Str.ofString "stmt_calls") 1445),(.ref 885)⟩ ::
    ⟨PyData.keyHash P (Str.ofString "MAX_WIDTH"),(.str (Str.ofString "MAX_WIDTH") 1449),(.int (65536) 1448)⟩ ::
    ⟨PyData.keyHash P (Str.ofString "last_select"),(.str (Str.ofString "last_select") 1458),(.ref 892)⟩ ::
    ⟨PyData.keyHash P (Str.ofString "is_memory"),(.str (Str.ofString "is_memory") 1466),(.ref 899)⟩ ::
    ⟨PyData.keyHash P (Str.ofString "shape"),(.str (Str.ofString "shape") 1476),(.ref 1207)⟩ ::
    ⟨PyData.keyHash P (Str.ofString "shape_elabparts"),(.str (Str.ofString "shape_elabparts") 1477),(.ref 906)⟩ ::
    ⟨PyData.keyHash P (Str.ofString "read_entry"),(.str (Str.ofString "read_entry") 1487),(.ref 913)⟩ ::
    ⟨PyData.keyHash P (Str.ofString "folds"),(.str (Str.ofString "folds") 1494),(.ref 920)⟩ ::
    ⟨PyData.keyHash P (Str.ofString "folded"),(.str (Str.ofString "folded") 1502),(.ref 927)⟩ ::
    ⟨PyData.keyHash P (Str.ofString "checked_width"),(.str (Str.ofString "checked_width") 1510),(.ref 934)⟩ ::
    ⟨PyData.keyHash P (Str.ofString "selected"),(.str (Str.ofString "selected") 1519),(.ref 941)⟩ ::
    ⟨PyData.keyHash P (Str.ofString "text_vec"),(.str (Str.ofString "text_vec") 1528),(.ref 948)⟩ ::
    ⟨PyData.keyHash P (Str.ofString "inner_join"),(.str (Str.ofString "inner_join") 1535),(.ref 955)⟩ ::
    ⟨PyData.keyHash P (Str.ofString "is_context_operator"),(.str (Str.ofString "is_context_operator") 1542),(.ref 962)⟩ ::
    ⟨PyData.keyHash P (Str.ofString "is_shift"),(.str (Str.ofString "is_shift") 1549),(.ref 969)⟩ ::
    ⟨PyData.keyHash P (Str.ofString "widen"),(.str (Str.ofString "widen") 1558),(.ref 976)⟩ ::
    ⟨PyData.keyHash P (Str.ofString "number_value"),(.str (Str.ofString "number_value") 1569),(.ref 983)⟩ ::
    ⟨PyData.keyHash P (Str.ofString "is_changing"),(.str (Str.ofString "is_changing") 1576),(.ref 990)⟩ ::
    ⟨PyData.keyHash P (Str.ofString "asks_system"),(.str (Str.ofString "asks_system") 1586),(.ref 997)⟩ ::
    ⟨PyData.keyHash P (Str.ofString "is_constant"),(.str (Str.ofString "is_constant") 1599),(.ref 1004)⟩ ::
    ⟨PyData.keyHash P (Str.ofString "MOST_NESTING"),(.str (Str.ofString "MOST_NESTING") 1603),(.int (8) 1602)⟩ ::
    ⟨PyData.keyHash P (Str.ofString "path_names"),(.str (Str.ofString "path_names") 1614),(.ref 1011)⟩ ::
    ⟨PyData.keyHash P (Str.ofString "entry_of"),(.str (Str.ofString "entry_of") 1623),(.ref 1018)⟩ ::
    ⟨PyData.keyHash P (Str.ofString "base_entry"),(.str (Str.ofString "base_entry") 1633),(.ref 1025)⟩ ::
    ⟨PyData.keyHash P (Str.ofString "select_width"),(.str (Str.ofString "select_width") 1641),(.ref 1032)⟩ ::
    ⟨PyData.keyHash P (Str.ofString "select_where"),(.str (Str.ofString "select_where") 1659),(.ref 1039)⟩ ::
    ⟨PyData.keyHash P (Str.ofString "named_type"),(.str (Str.ofString "named_type") 1669),(.ref 1046)⟩ ::
    ⟨PyData.keyHash P (Str.ofString "named_value"),(.str (Str.ofString "named_value") 1682),(.ref 1053)⟩ ::
    ⟨PyData.keyHash P (Str.ofString "function_of"),(.str (Str.ofString "function_of") 1692),(.ref 1060)⟩ ::
    ⟨PyData.keyHash P (Str.ofString "call_value"),(.str (Str.ofString "call_value") 1704),(.ref 1067)⟩ ::
    ⟨PyData.keyHash P (Str.ofString "system_type"),(.str (Str.ofString "system_type") 1714),(.ref 1074)⟩ ::
    ⟨PyData.keyHash P (Str.ofString "system_value_elabexpr"),(.str (Str.ofString "system_value_elabexpr") 1726),(.ref 1081)⟩ ::
    ⟨PyData.keyHash P (Str.ofString "joined_parts"),(.str (Str.ofString "joined_parts") 1736),(.ref 1088)⟩ ::
    ⟨PyData.keyHash P (Str.ofString "copies"),(.str (Str.ofString "copies") 1745),(.ref 1095)⟩ ::
    ⟨PyData.keyHash P (Str.ofString "joined_width"),(.str (Str.ofString "joined_width") 1755),(.ref 1102)⟩ ::
    ⟨PyData.keyHash P (Str.ofString "joined_value"),(.str (Str.ofString "joined_value") 1766),(.ref 1109)⟩ ::
    ⟨PyData.keyHash P (Str.ofString "both_types"),(.str (Str.ofString "both_types") 1777),(.ref 1116)⟩ ::
    ⟨PyData.keyHash P (Str.ofString "expr_type"),(.str (Str.ofString "expr_type") 1787),(.ref 1123)⟩ ::
    ⟨PyData.keyHash P (Str.ofString "unary_value"),(.str (Str.ofString "unary_value") 1798),(.ref 1130)⟩ ::
    ⟨PyData.keyHash P (Str.ofString "binary_value"),(.str (Str.ofString "binary_value") 1814),(.ref 1137)⟩ ::
    ⟨PyData.keyHash P (Str.ofString "build"),(.str (Str.ofString "build") 1828),(.ref 1144)⟩ ::
    ⟨PyData.keyHash P (Str.ofString "self_determined"),(.str (Str.ofString "self_determined") 1838),(.ref 1151)⟩ ::
    ⟨PyData.keyHash P (Str.ofString "sized"),(.str (Str.ofString "sized") 1849),(.ref 1158)⟩ ::
    ⟨PyData.keyHash P (Str.ofString "constant_vec"),(.str (Str.ofString "constant_vec") 1859),(.ref 1165)⟩ ::
    ⟨PyData.keyHash P (Str.ofString "constant"),(.str (Str.ofString "constant") 1869),(.ref 1172)⟩ ::
    ⟨PyData.keyHash P (Str.ofString "whole"),(.str (Str.ofString "whole") 1881),(.ref 1179)⟩ ::
    ⟨PyData.keyHash P (Str.ofString "small_whole"),(.str (Str.ofString "small_whole") 1890),(.ref 1186)⟩ ::
    ⟨PyData.keyHash P (Str.ofString "range_of"),(.str (Str.ofString "range_of") 1900),(.ref 1193)⟩ ::
    ⟨PyData.keyHash P (Str.ofString "MOST_WIDTH"),(.str (Str.ofString "MOST_WIDTH") 1904),(.int (4096) 1903)⟩ ::
    ⟨PyData.keyHash P (Str.ofString "width_of"),(.str (Str.ofString "width_of") 1914),(.ref 1200)⟩ ::
    ⟨PyData.keyHash P (Str.ofString "shape_elabdecl"),(.str (Str.ofString "shape_elabdecl") 1928),(.ref 1207)⟩ ::
    ⟨PyData.keyHash P (Str.ofString "called_names"),(.str (Str.ofString "called_names") 1940),(.ref 1214)⟩ ::
    ⟨PyData.keyHash P (Str.ofString "declared_name"),(.str (Str.ofString "declared_name") 1947),(.ref 1221)⟩ ::
    ⟨PyData.keyHash P (Str.ofString "port_items"),(.str (Str.ofString "port_items") 1953),(.ref 1226)⟩ ::
    ⟨PyData.keyHash P (Str.ofString "partner_places"),(.str (Str.ofString "partner_places") 1965),(.ref 1233)⟩ ::
    ⟨PyData.keyHash P (Str.ofString "default_net"),(.str (Str.ofString "default_net") 1972),(.ref 1240)⟩ ::
    ⟨PyData.keyHash P (Str.ofString "port_shape"),(.str (Str.ofString "port_shape") 1988),(.ref 1247)⟩ ::
    ⟨PyData.keyHash P (Str.ofString "check_port_range"),(.str (Str.ofString "check_port_range") 2000),(.ref 1254)⟩ ::
    ⟨PyData.keyHash P (Str.ofString "Scope"),(.str (Str.ofString "Scope") 2120),(.ref 1327)⟩ ::
    ⟨PyData.keyHash P (Str.ofString "_law_open"),(.str (Str.ofString "_law_open") 2131),(.ref 1338)⟩ ::
    ⟨PyData.keyHash P (Str.ofString "_law_next"),(.str (Str.ofString "_law_next") 2139),(.ref 1345)⟩ ::
    ⟨PyData.keyHash P (Str.ofString "_law_expression"),(.str (Str.ofString "_law_expression") 2150),(.ref 1352)⟩ ::
    ⟨PyData.keyHash P (Str.ofString "_law_span"),(.str (Str.ofString "_law_span") 2157),(.ref 1359)⟩ ::
    ⟨PyData.keyHash P (Str.ofString "_law_item"),(.str (Str.ofString "_law_item") 2169),(.ref 1366)⟩ ::
    ⟨PyData.keyHash P (Str.ofString "_law_told"),(.str (Str.ofString "_law_told") 2179),(.ref 1373)⟩ ::
    ⟨PyData.keyHash P (Str.ofString "law"),(.str (Str.ofString "law") 2185),(.ref 1378)⟩::[])) 174),List.toArray []⟩) ::
  ((nat_lit 27),⟨(.type "code"),none,(.fields (List.toArray [(.str (Str.ofString "net_kinds") 196),(.str (Str.ofString "net_kinds") 197),(.str (Str.ofString "/claim/cut.py") 198),(.int (5) 0),(.int (0) 0),(.int (0) 0),(.int (0) 0),(.int (3) 0),(.ref 22),(.bool true),(.int (181) 0),(.ref 23),.none,(.ref 24),(.ref 25),(.ref 26),(.int (199) 0),(.int (5) 0),(.str (Str.ofString "/claim/cut.py") 200)])),List.toArray []⟩) ::
  ((nat_lit 28),fobj (stAt 2) (Str.ofString "net_kinds") (.str (Str.ofString "gateloom.design") 194) (.ref 27) .none) ::
  ((nat_lit 41),⟨(.type "code"),none,(.fields (List.toArray [(.str (Str.ofString "__init__") 214),(.str (Str.ofString "Design.__init__") 215),(.str (Str.ofString "/claim/cut.py") 216),(.int (9) 0),(.int (1) 0),(.int (0) 0),(.int (0) 0),(.int (3) 0),(.ref 36),(.bool true),(.int (181) 0),(.ref 37),.none,(.ref 38),(.ref 39),(.ref 40),(.int (218) 0),(.int (9) 0),(.str (Str.ofString "/claim/cut.py") 219)])),List.toArray []⟩) ::
  ((nat_lit 42),fobj (mAt 3 0) (Str.ofString "Design.__init__") (.str (Str.ofString "gateloom.design") 194) (.ref 41) .none) ::
  ((nat_lit 55),⟨(.type "code"),none,(.fields (List.toArray [(.str (Str.ofString "add_scope") 235),(.str (Str.ofString "Design.add_scope") 236),(.str (Str.ofString "/claim/cut.py") 237),(.int (26) 0),(.int (2) 0),(.int (0) 0),(.int (0) 0),(.int (3) 0),(.ref 50),(.bool true),(.int (181) 0),(.ref 51),.none,(.ref 52),(.ref 53),(.ref 54),(.int (240) 0),(.int (26) 0),(.str (Str.ofString "/claim/cut.py") 241)])),List.toArray []⟩) ::
  ((nat_lit 56),fobj (mAt 3 2) (Str.ofString "Design.add_scope") (.str (Str.ofString "gateloom.design") 194) (.ref 55) .none) ::
  ((nat_lit 86),⟨(.type "dict"),none,(.dict (List.toArray (
    ⟨PyData.keyHash P (Str.ofString "__module__"),(.str (Str.ofString "__module__") 209),(.str (Str.ofString "gateloom.design") 194)⟩ ::
    ⟨PyData.keyHash P (Str.ofString "__firstlineno__"),(.str (Str.ofString "__firstlineno__") 213),(.int (7) 212)⟩ ::
    ⟨PyData.keyHash P (Str.ofString "__init__"),(.str (Str.ofString "__init__") 220),(.ref 42)⟩ ::
    ⟨PyData.keyHash P (Str.ofString "add_signal"),(.str (Str.ofString "add_signal") 234),(.ref 49)⟩ ::
    ⟨PyData.keyHash P (Str.ofString "add_scope"),(.str (Str.ofString "add_scope") 242),(.ref 56)⟩ ::
    ⟨PyData.keyHash P (Str.ofString "add_routine"),(.str (Str.ofString "add_routine") 253),(.ref 63)⟩ ::
    ⟨PyData.keyHash P (Str.ofString "add_process"),(.str (Str.ofString "add_process") 264),(.ref 70)⟩ ::
    ⟨PyData.keyHash P (Str.ofString "find"),(.str (Str.ofString "find") 272),(.ref 77)⟩ ::
    ⟨PyData.keyHash P (Str.ofString "routine"),(.str (Str.ofString "routine") 281),(.ref 84)⟩ ::
    ⟨PyData.keyHash P (Str.ofString "__static_attributes__"),(.str (Str.ofString "__static_attributes__") 294),(.ref 85)⟩ ::
    ⟨PyData.keyHash P (Str.ofString "__dict__"),(.str (Str.ofString "__dict__") 296),(.ref 88)⟩ ::
    ⟨PyData.keyHash P (Str.ofString "__weakref__"),(.str (Str.ofString "__weakref__") 298),(.ref 89)⟩ ::
    ⟨PyData.keyHash P (Str.ofString "__doc__"),(.str (Str.ofString "__doc__") 299),.none⟩::[])) 4),List.toArray []⟩) ::
  ((nat_lit 87),⟨(.type "type"),none,(.cls { name:=(Str.ofString "Design"),bases:=[(.type "object")],mro:=[(.ref 87),(.type "object")],ns:=86,qualname:=(Str.ofString "Design"),hasDict:=true,slotNames:=[],subclasses:=[],abstract:=false,collection:=none,hasDel:=false }),List.toArray [none,none,(some (.str (Str.ofString "Design") 202)),(some (.str (Str.ofString "Design") 210)),(some (.builtin "object.__new__")),(some (.bool true))]⟩) ::
  ((nat_lit 88),⟨(.type "getset_descriptor"),none,(.fields (List.toArray [(.str (Str.ofString "__dict__") 295),(.ref 87),(.builtin "function.__dict__"),(.builtin "function.__dict__#set")])),List.toArray []⟩) ::
  ((nat_lit 89),⟨(.type "getset_descriptor"),none,(.fields (List.toArray [(.str (Str.ofString "__weakref__") 297),(.ref 87),(.builtin "ExceptionGroup.__weakref__"),.none])),List.toArray []⟩) ::
  ((nat_lit 99),⟨(.type "tuple"),none,(.seq (List.toArray [(.int (-1) 317),(.str (Str.ofString "") 318)]) 0),List.toArray []⟩) ::
  ((nat_lit 105),⟨(.type "code"),none,(.fields (List.toArray [(.str (Str.ofString "__init__") 319),(.str (Str.ofString "GateloomError.__init__") 320),(.str (Str.ofString "/claim/cut.py") 321),(.int (49) 0),(.int (4) 0),(.int (0) 0),(.int (0) 0),(.int (3) 0),(.ref 100),(.bool true),(.int (181) 0),(.ref 101),.none,(.ref 102),(.ref 103),(.ref 104),(.int (326) 0),(.int (49) 0),(.str (Str.ofString "/claim/cut.py") 327)])),List.toArray []⟩) ::
  ((nat_lit 106),fobj (mAt 5 0) (Str.ofString "GateloomError.__init__") (.str (Str.ofString "gateloom.errors") 302) (.ref 105) (.ref 99)) ::
  ((nat_lit 108),⟨(.type "dict"),none,(.dict (List.toArray (
    ⟨PyData.keyHash P (Str.ofString "__module__"),(.str (Str.ofString "__module__") 311),(.str (Str.ofString "gateloom.errors") 302)⟩ ::
    ⟨PyData.keyHash P (Str.ofString "__firstlineno__"),(.str (Str.ofString "__firstlineno__") 315),(.int (47) 314)⟩ ::
    ⟨PyData.keyHash P (Str.ofString "__init__"),(.str (Str.ofString "__init__") 328),(.ref 106)⟩ ::
    ⟨PyData.keyHash P (Str.ofString "__static_attributes__"),(.str (Str.ofString "__static_attributes__") 332),(.ref 107)⟩ ::
    ⟨PyData.keyHash P (Str.ofString "__weakref__"),(.str (Str.ofString "__weakref__") 334),(.ref 110)⟩ ::
    ⟨PyData.keyHash P (Str.ofString "__doc__"),(.str (Str.ofString "__doc__") 335),.none⟩::[])) 3),List.toArray []⟩) ::
  ((nat_lit 109),⟨(.type "type"),none,(.cls { name:=(Str.ofString "GateloomError"),bases:=[(.type "Exception")],mro:=[(.ref 109),(.type "Exception"),(.type "BaseException"),(.type "object")],ns:=108,qualname:=(Str.ofString "GateloomError"),hasDict:=true,slotNames:=[],subclasses:=[(.ref 122),(.ref 134)],abstract:=false,collection:=none,hasDel:=false }),List.toArray [(some (.ref 92)),none,(some (.str (Str.ofString "GateloomError") 304)),(some (.str (Str.ofString "GateloomError") 312)),(some (.builtin "Exception.__new__")),(some (.bool true))]⟩) ::
  ((nat_lit 110),⟨(.type "getset_descriptor"),none,(.fields (List.toArray [(.str (Str.ofString "__weakref__") 333),(.ref 109),(.builtin "ExceptionGroup.__weakref__"),.none])),List.toArray []⟩) ::
  ((nat_lit 121),⟨(.type "dict"),none,(.dict (List.toArray (
    ⟨PyData.keyHash P (Str.ofString "__module__"),(.str (Str.ofString "__module__") 347),(.str (Str.ofString "gateloom.errors") 302)⟩ ::
    ⟨PyData.keyHash P (Str.ofString "__firstlineno__"),(.str (Str.ofString "__firstlineno__") 351),(.int (53) 350)⟩ ::
    ⟨PyData.keyHash P (Str.ofString "__static_attributes__"),(.str (Str.ofString "__static_attributes__") 352),(.ref 120)⟩ ::
    ⟨PyData.keyHash P (Str.ofString "__doc__"),(.str (Str.ofString "__doc__") 353),.none⟩::[])) 2),List.toArray []⟩) ::
  ((nat_lit 122),⟨(.type "type"),none,(.cls { name:=(Str.ofString "DesignError"),bases:=[(.ref 109)],mro:=[(.ref 122),(.ref 109),(.type "Exception"),(.type "BaseException"),(.type "object")],ns:=121,qualname:=(Str.ofString "DesignError"),hasDict:=true,slotNames:=[],subclasses:=[],abstract:=false,collection:=none,hasDel:=false }),List.toArray [(some (.ref 113)),none,(some (.str (Str.ofString "DesignError") 340)),(some (.str (Str.ofString "DesignError") 348)),(some (.builtin "Exception.__new__")),(some (.bool true))]⟩) ::
  ((nat_lit 142),⟨(.type "code"),none,(.fields (List.toArray [(.str (Str.ofString "mask") 374),(.str (Str.ofString "mask") 375),(.str (Str.ofString "/claim/cut.py") 376),(.int (58) 0),(.int (1) 0),(.int (0) 0),(.int (0) 0),(.int (3) 0),(.ref 137),(.bool true),(.int (181) 0),(.ref 138),.none,(.ref 139),(.ref 140),(.ref 141),(.int (378) 0),(.int (58) 0),(.str (Str.ofString "/claim/cut.py") 379)])),List.toArray []⟩) ::
  ((nat_lit 143),fobj (stAt 9) (Str.ofString "mask") (.str (Str.ofString "gateloom.vec") 372) (.ref 142) .none) ::
  ((nat_lit 144),⟨(.type "tuple"),none,(.seq (List.toArray [(.int (0) 381)]) 0),List.toArray []⟩) ::
  ((nat_lit 150),⟨(.type "code"),none,(.fields (List.toArray [(.str (Str.ofString "vec") 382),(.str (Str.ofString "vec") 383),(.str (Str.ofString "/claim/cut.py") 384),(.int (60) 0),(.int (3) 0),(.int (0) 0),(.int (0) 0),(.int (3) 0),(.ref 145),(.bool true),(.int (181) 0),(.ref 146),.none,(.ref 147),(.ref 148),(.ref 149),(.int (389) 0),(.int (60) 0),(.str (Str.ofString "/claim/cut.py") 390)])),List.toArray []⟩) ::
  ((nat_lit 151),fobj (stAt 10) (Str.ofString "vec") (.str (Str.ofString "gateloom.vec") 372) (.ref 150) (.ref 144)) ::
  ((nat_lit 192),⟨(.type "code"),none,(.fields (List.toArray [(.str (Str.ofString "to_int") 429),(.str (Str.ofString "to_int") 430),(.str (Str.ofString "/claim/cut.py") 431),(.int (74) 0),(.int (2) 0),(.int (0) 0),(.int (0) 0),(.int (3) 0),(.ref 187),(.bool true),(.int (181) 0),(.ref 188),.none,(.ref 189),(.ref 190),(.ref 191),(.int (437) 0),(.int (74) 0),(.str (Str.ofString "/claim/cut.py") 438)])),List.toArray []⟩) ::
  ((nat_lit 193),fobj (stAt 16) (Str.ofString "to_int") (.str (Str.ofString "gateloom.vec") 372) (.ref 192) .none) ::
  ((nat_lit 227),⟨(.type "code"),none,(.fields (List.toArray [(.str (Str.ofString "extend") 491),(.str (Str.ofString "extend") 492),(.str (Str.ofString "/claim/cut.py") 493),(.int (114) 0),(.int (3) 0),(.int (0) 0),(.int (0) 0),(.int (3) 0),(.ref 222),(.bool true),(.int (181) 0),(.ref 223),.none,(.ref 224),(.ref 225),(.ref 226),(.int (501) 0),(.int (114) 0),(.str (Str.ofString "/claim/cut.py") 502)])),List.toArray []⟩) ::
  ((nat_lit 228),fobj (stAt 21) (Str.ofString "extend") (.str (Str.ofString "gateloom.vec") 372) (.ref 227) .none) ::
  ((nat_lit 933),⟨(.type "code"),none,(.fields (List.toArray [(.str (Str.ofString "checked_width") 1503),(.str (Str.ofString "checked_width") 1504),(.str (Str.ofString "/claim/cut.py") 1505),(.int (884) 0),(.int (2) 0),(.int (0) 0),(.int (0) 0),(.int (3) 0),(.ref 928),(.bool true),(.int (181) 0),(.ref 929),.none,(.ref 930),(.ref 931),(.ref 932),(.int (1508) 0),(.int (884) 0),(.str (Str.ofString "/claim/cut.py") 1509)])),List.toArray []⟩) ::
  ((nat_lit 934),fobj (stAt 118) (Str.ofString "checked_width") (.str (Str.ofString "gateloom.elabparts") 1446) (.ref 933) .none) ::
  ((nat_lit 982),⟨(.type "code"),none,(.fields (List.toArray [(.str (Str.ofString "number_value") 1559),(.str (Str.ofString "number_value") 1560),(.str (Str.ofString "/claim/cut.py") 1561),(.int (909) 0),(.int (3) 0),(.int (0) 0),(.int (0) 0),(.int (3) 0),(.ref 977),(.bool true),(.int (181) 0),(.ref 978),.none,(.ref 979),(.ref 980),(.ref 981),(.int (1567) 0),(.int (909) 0),(.str (Str.ofString "/claim/cut.py") 1568)])),List.toArray []⟩) ::
  ((nat_lit 983),fobj (stAt 125) (Str.ofString "number_value") (.str (Str.ofString "gateloom.elabparts") 1446) (.ref 982) .none) ::
  ((nat_lit 1122),⟨(.type "code"),none,(.fields (List.toArray [(.str (Str.ofString "expr_type") 1778),(.str (Str.ofString "expr_type") 1779),(.str (Str.ofString "/claim/cut.py") 1780),(.int (1106) 0),(.int (2) 0),(.int (0) 0),(.int (0) 0),(.int (3) 0),(.ref 1117),(.bool true),(.int (181) 0),(.ref 1118),.none,(.ref 1119),(.ref 1120),(.ref 1121),(.int (1785) 0),(.int (1106) 0),(.str (Str.ofString "/claim/cut.py") 1786)])),List.toArray []⟩) ::
  ((nat_lit 1123),fobj (stAt 148) (Str.ofString "expr_type") (.str (Str.ofString "gateloom.elabexpr") 1600) (.ref 1122) .none) ::
  ((nat_lit 1143),⟨(.type "code"),none,(.fields (List.toArray [(.str (Str.ofString "build") 1815),(.str (Str.ofString "build") 1816),(.str (Str.ofString "/claim/cut.py") 1817),(.int (1160) 0),(.int (4) 0),(.int (0) 0),(.int (0) 0),(.int (3) 0),(.ref 1138),(.bool true),(.int (181) 0),(.ref 1139),.none,(.ref 1140),(.ref 1141),(.ref 1142),(.int (1826) 0),(.int (1160) 0),(.str (Str.ofString "/claim/cut.py") 1827)])),List.toArray []⟩) ::
  ((nat_lit 1144),fobj (stAt 151) (Str.ofString "build") (.str (Str.ofString "gateloom.elabexpr") 1600) (.ref 1143) .none) ::
  ((nat_lit 1150),⟨(.type "code"),none,(.fields (List.toArray [(.str (Str.ofString "self_determined") 1829),(.str (Str.ofString "self_determined") 1830),(.str (Str.ofString "/claim/cut.py") 1831),(.int (1183) 0),(.int (2) 0),(.int (0) 0),(.int (0) 0),(.int (3) 0),(.ref 1145),(.bool true),(.int (181) 0),(.ref 1146),.none,(.ref 1147),(.ref 1148),(.ref 1149),(.int (1836) 0),(.int (1183) 0),(.str (Str.ofString "/claim/cut.py") 1837)])),List.toArray []⟩) ::
  ((nat_lit 1151),fobj (stAt 152) (Str.ofString "self_determined") (.str (Str.ofString "gateloom.elabexpr") 1600) (.ref 1150) .none) ::
  ((nat_lit 1164),⟨(.type "code"),none,(.fields (List.toArray [(.str (Str.ofString "constant_vec") 1850),(.str (Str.ofString "constant_vec") 1851),(.str (Str.ofString "/claim/cut.py") 1852),(.int (1189) 0),(.int (3) 0),(.int (0) 0),(.int (0) 0),(.int (3) 0),(.ref 1159),(.bool true),(.int (181) 0),(.ref 1160),.none,(.ref 1161),(.ref 1162),(.ref 1163),(.int (1857) 0),(.int (1189) 0),(.str (Str.ofString "/claim/cut.py") 1858)])),List.toArray []⟩) ::
  ((nat_lit 1165),fobj (stAt 154) (Str.ofString "constant_vec") (.str (Str.ofString "gateloom.elabexpr") 1600) (.ref 1164) .none) ::
  ((nat_lit 1171),⟨(.type "code"),none,(.fields (List.toArray [(.str (Str.ofString "constant") 1860),(.str (Str.ofString "constant") 1861),(.str (Str.ofString "/claim/cut.py") 1862),(.int (1196) 0),(.int (2) 0),(.int (0) 0),(.int (0) 0),(.int (3) 0),(.ref 1166),(.bool true),(.int (181) 0),(.ref 1167),.none,(.ref 1168),(.ref 1169),(.ref 1170),(.int (1867) 0),(.int (1196) 0),(.str (Str.ofString "/claim/cut.py") 1868)])),List.toArray []⟩) ::
  ((nat_lit 1172),fobj (stAt 155) (Str.ofString "constant") (.str (Str.ofString "gateloom.elabexpr") 1600) (.ref 1171) .none) ::
  ((nat_lit 1178),⟨(.type "code"),none,(.fields (List.toArray [(.str (Str.ofString "whole") 1870),(.str (Str.ofString "whole") 1871),(.str (Str.ofString "/claim/cut.py") 1872),(.int (1199) 0),(.int (2) 0),(.int (0) 0),(.int (0) 0),(.int (3) 0),(.ref 1173),(.bool true),(.int (181) 0),(.ref 1174),.none,(.ref 1175),(.ref 1176),(.ref 1177),(.int (1879) 0),(.int (1199) 0),(.str (Str.ofString "/claim/cut.py") 1880)])),List.toArray []⟩) ::
  ((nat_lit 1179),fobj (stAt 156) (Str.ofString "whole") (.str (Str.ofString "gateloom.elabexpr") 1600) (.ref 1178) .none) ::
  ((nat_lit 1192),⟨(.type "code"),none,(.fields (List.toArray [(.str (Str.ofString "range_of") 1891),(.str (Str.ofString "range_of") 1892),(.str (Str.ofString "/claim/cut.py") 1893),(.int (1217) 0),(.int (2) 0),(.int (0) 0),(.int (0) 0),(.int (3) 0),(.ref 1187),(.bool true),(.int (181) 0),(.ref 1188),.none,(.ref 1189),(.ref 1190),(.ref 1191),(.int (1898) 0),(.int (1217) 0),(.str (Str.ofString "/claim/cut.py") 1899)])),List.toArray []⟩) ::
  ((nat_lit 1193),fobj (stAt 158) (Str.ofString "range_of") (.str (Str.ofString "gateloom.elabexpr") 1600) (.ref 1192) .none) ::
  ((nat_lit 1206),⟨(.type "code"),none,(.fields (List.toArray [(.str (Str.ofString "shape") 1915),(.str (Str.ofString "shape") 1916),(.str (Str.ofString "/claim/cut.py") 1917),(.int (1231) 0),(.int (5) 0),(.int (0) 0),(.int (0) 0),(.int (3) 0),(.ref 1201),(.bool true),(.int (181) 0),(.ref 1202),.none,(.ref 1203),(.ref 1204),(.ref 1205),(.int (1925) 0),(.int (1231) 0),(.str (Str.ofString "/claim/cut.py") 1926)])),List.toArray []⟩) ::
  ((nat_lit 1207),fobj (stAt 162) (Str.ofString "shape") (.str (Str.ofString "gateloom.elabdecl") 1901) (.ref 1206) .none) ::
  ((nat_lit 1213),⟨(.type "code"),none,(.fields (List.toArray [(.str (Str.ofString "called_names") 1931),(.str (Str.ofString "called_names") 1932),(.str (Str.ofString "/claim/cut.py") 1933),(.int (1242) 0),(.int (1) 0),(.int (0) 0),(.int (0) 0),(.int (3) 0),(.ref 1208),(.bool true),(.int (181) 0),(.ref 1209),.none,(.ref 1210),(.ref 1211),(.ref 1212),(.int (1938) 0),(.int (1242) 0),(.str (Str.ofString "/claim/cut.py") 1939)])),List.toArray []⟩) ::
  ((nat_lit 1214),fobj (stAt 165) (Str.ofString "called_names") (.str (Str.ofString "gateloom.elabitems") 1929) (.ref 1213) .none) ::
  ((nat_lit 1220),⟨(.type "code"),none,(.fields (List.toArray [(.str (Str.ofString "declared_name") 1941),(.str (Str.ofString "declared_name") 1942),(.str (Str.ofString "/claim/cut.py") 1943),(.int (1252) 0),(.int (1) 0),(.int (0) 0),(.int (0) 0),(.int (3) 0),(.ref 1215),(.bool true),(.int (181) 0),(.ref 1216),.none,(.ref 1217),(.ref 1218),(.ref 1219),(.int (1945) 0),(.int (1252) 0),(.str (Str.ofString "/claim/cut.py") 1946)])),List.toArray []⟩) ::
  ((nat_lit 1221),fobj (stAt 166) (Str.ofString "declared_name") (.str (Str.ofString "gateloom.elabitems") 1929) (.ref 1220) .none) ::
  ((nat_lit 1225),⟨(.type "code"),none,(.fields (List.toArray [(.str (Str.ofString "port_items") 1948),(.str (Str.ofString "port_items") 1949),(.str (Str.ofString "/claim/cut.py") 1950),(.int (1256) 0),(.int (1) 0),(.int (0) 0),(.int (0) 0),(.int (3) 0),(.ref 1222),(.bool true),(.int (181) 0),(.ref 1223),.none,.none,.none,(.ref 1224),(.int (1951) 0),(.int (1256) 0),(.str (Str.ofString "/claim/cut.py") 1952)])),List.toArray []⟩) ::
  ((nat_lit 1226),fobj (stAt 167) (Str.ofString "port_items") (.str (Str.ofString "gateloom.elabitems") 1929) (.ref 1225) .none) ::
  ((nat_lit 1232),⟨(.type "code"),none,(.fields (List.toArray [(.str (Str.ofString "partner_places") 1954),(.str (Str.ofString "partner_places") 1955),(.str (Str.ofString "/claim/cut.py") 1956),(.int (1258) 0),(.int (2) 0),(.int (0) 0),(.int (0) 0),(.int (3) 0),(.ref 1227),(.bool true),(.int (181) 0),(.ref 1228),.none,(.ref 1229),(.ref 1230),(.ref 1231),(.int (1963) 0),(.int (1258) 0),(.str (Str.ofString "/claim/cut.py") 1964)])),List.toArray []⟩) ::
  ((nat_lit 1233),fobj (stAt 168) (Str.ofString "partner_places") (.str (Str.ofString "gateloom.elabitems") 1929) (.ref 1232) .none) ::
  ((nat_lit 1239),⟨(.type "code"),none,(.fields (List.toArray [(.str (Str.ofString "default_net") 1966),(.str (Str.ofString "default_net") 1967),(.str (Str.ofString "/claim/cut.py") 1968),(.int (1267) 0),(.int (1) 0),(.int (0) 0),(.int (0) 0),(.int (3) 0),(.ref 1234),(.bool true),(.int (181) 0),(.ref 1235),.none,(.ref 1236),(.ref 1237),(.ref 1238),(.int (1970) 0),(.int (1267) 0),(.str (Str.ofString "/claim/cut.py") 1971)])),List.toArray []⟩) ::
  ((nat_lit 1240),fobj (stAt 169) (Str.ofString "default_net") (.str (Str.ofString "gateloom.elabitems") 1929) (.ref 1239) .none) ::
  ((nat_lit 1246),⟨(.type "code"),none,(.fields (List.toArray [(.str (Str.ofString "port_shape") 1973),(.str (Str.ofString "port_shape") 1974),(.str (Str.ofString "/claim/cut.py") 1975),(.int (1271) 0),(.int (3) 0),(.int (0) 0),(.int (0) 0),(.int (3) 0),(.ref 1241),(.bool true),(.int (181) 0),(.ref 1242),.none,(.ref 1243),(.ref 1244),(.ref 1245),(.int (1986) 0),(.int (1271) 0),(.str (Str.ofString "/claim/cut.py") 1987)])),List.toArray []⟩) ::
  ((nat_lit 1247),fobj (stAt 170) (Str.ofString "port_shape") (.str (Str.ofString "gateloom.elabitems") 1929) (.ref 1246) .none) ::
  ((nat_lit 1253),⟨(.type "code"),none,(.fields (List.toArray [(.str (Str.ofString "check_port_range") 1989),(.str (Str.ofString "check_port_range") 1990),(.str (Str.ofString "/claim/cut.py") 1991),(.int (1287) 0),(.int (3) 0),(.int (0) 0),(.int (0) 0),(.int (3) 0),(.ref 1248),(.bool true),(.int (181) 0),(.ref 1249),.none,(.ref 1250),(.ref 1251),(.ref 1252),(.int (1998) 0),(.int (1287) 0),(.str (Str.ofString "/claim/cut.py") 1999)])),List.toArray []⟩) ::
  ((nat_lit 1254),fobj (stAt 171) (Str.ofString "check_port_range") (.str (Str.ofString "gateloom.elabitems") 1929) (.ref 1253) .none) ::
  ((nat_lit 1267),⟨(.type "code"),none,(.fields (List.toArray [(.str (Str.ofString "__init__") 2015),(.str (Str.ofString "Scope.__init__") 2016),(.str (Str.ofString "/claim/cut.py") 2017),(.int (1299) 0),(.int (5) 0),(.int (0) 0),(.int (0) 0),(.int (3) 0),(.ref 1262),(.bool true),(.int (181) 0),(.ref 1263),.none,(.ref 1264),(.ref 1265),(.ref 1266),(.int (2023) 0),(.int (1299) 0),(.str (Str.ofString "/claim/cut.py") 2024)])),List.toArray []⟩) ::
  ((nat_lit 1268),fobj (mAt 173 0) (Str.ofString "Scope.__init__") (.str (Str.ofString "gateloom.scopes") 2001) (.ref 1267) .none) ::
  ((nat_lit 1326),⟨(.type "dict"),none,(.dict (List.toArray (
    ⟨PyData.keyHash P (Str.ofString "__module__"),(.str (Str.ofString "__module__") 2010),(.str (Str.ofString "gateloom.scopes") 2001)⟩ ::
    ⟨PyData.keyHash P (Str.ofString "__firstlineno__"),(.str (Str.ofString "__firstlineno__") 2014),(.int (1297) 2013)⟩ ::
    ⟨PyData.keyHash P (Str.ofString "__init__"),(.str (Str.ofString "__init__") 2025),(.ref 1268)⟩ ::
    ⟨PyData.keyHash P (Str.ofString "child"),(.str (Str.ofString "child") 2036),(.ref 1275)⟩ ::
    ⟨PyData.keyHash P (Str.ofString "declare"),(.str (Str.ofString "declare") 2046),(.ref 1282)⟩ ::
    ⟨PyData.keyHash P (Str.ofString "module_scope"),(.str (Str.ofString "module_scope") 2053),(.ref 1289)⟩ ::
    ⟨PyData.keyHash P (Str.ofString "lookup"),(.str (Str.ofString "lookup") 2062),(.ref 1296)⟩ ::
    ⟨PyData.keyHash P (Str.ofString "lookup_routine"),(.str (Str.ofString "lookup_routine") 2072),(.ref 1303)⟩ ::
    ⟨PyData.keyHash P (Str.ofString "descend"),(.str (Str.ofString "descend") 2084),(.ref 1310)⟩ ::
    ⟨PyData.keyHash P (Str.ofString "resolve"),(.str (Str.ofString "resolve") 2095),(.ref 1317)⟩ ::
    ⟨PyData.keyHash P (Str.ofString "answers_to"),(.str (Str.ofString "answers_to") 2103),(.ref 1324)⟩ ::
    ⟨PyData.keyHash P (Str.ofString "__static_attributes__"),(.str (Str.ofString "__static_attributes__") 2113),(.ref 1325)⟩ ::
    ⟨PyData.keyHash P (Str.ofString "__dict__"),(.str (Str.ofString "__dict__") 2115),(.ref 1328)⟩ ::
    ⟨PyData.keyHash P (Str.ofString "__weakref__"),(.str (Str.ofString "__weakref__") 2117),(.ref 1329)⟩ ::
    ⟨PyData.keyHash P (Str.ofString "__doc__"),(.str (Str.ofString "__doc__") 2118),.none⟩::[])) 4),List.toArray []⟩) ::
  ((nat_lit 1327),⟨(.type "type"),none,(.cls { name:=(Str.ofString "Scope"),bases:=[(.type "object")],mro:=[(.ref 1327),(.type "object")],ns:=1326,qualname:=(Str.ofString "Scope"),hasDict:=true,slotNames:=[],subclasses:=[],abstract:=false,collection:=none,hasDel:=false }),List.toArray [none,none,(some (.str (Str.ofString "Scope") 2003)),(some (.str (Str.ofString "Scope") 2011)),(some (.builtin "object.__new__")),(some (.bool true))]⟩) ::
  ((nat_lit 1328),⟨(.type "getset_descriptor"),none,(.fields (List.toArray [(.str (Str.ofString "__dict__") 2114),(.ref 1327),(.builtin "function.__dict__"),(.builtin "function.__dict__#set")])),List.toArray []⟩) ::
  ((nat_lit 1329),⟨(.type "getset_descriptor"),none,(.fields (List.toArray [(.str (Str.ofString "__weakref__") 2116),(.ref 1327),(.builtin "ExceptionGroup.__weakref__"),.none])),List.toArray []⟩) ::
  ((nat_lit 1337),⟨(.type "code"),none,(.fields (List.toArray [(.str (Str.ofString "_law_open") 2123),(.str (Str.ofString "_law_open") 2124),(.str (Str.ofString "/claim/cut.py") 2125),(.int (1380) 0),(.int (1) 0),(.int (0) 0),(.int (0) 0),(.int (3) 0),(.ref 1332),(.bool true),(.int (181) 0),(.ref 1333),.none,(.ref 1334),(.ref 1335),(.ref 1336),(.int (2129) 0),(.int (1380) 0),(.str (Str.ofString "/claim/cut.py") 2130)])),List.toArray []⟩) ::
  ((nat_lit 1338),fobj (stAt 175) (Str.ofString "_law_open") (.str (Str.ofString "law_pq0481_01") 2121) (.ref 1337) .none) ::
  ((nat_lit 1344),⟨(.type "code"),none,(.fields (List.toArray [(.str (Str.ofString "_law_next") 2132),(.str (Str.ofString "_law_next") 2133),(.str (Str.ofString "/claim/cut.py") 2134),(.int (1385) 0),(.int (2) 0),(.int (0) 0),(.int (0) 0),(.int (3) 0),(.ref 1339),(.bool true),(.int (181) 0),(.ref 1340),.none,(.ref 1341),(.ref 1342),(.ref 1343),(.int (2137) 0),(.int (1385) 0),(.str (Str.ofString "/claim/cut.py") 2138)])),List.toArray []⟩) ::
  ((nat_lit 1345),fobj (stAt 176) (Str.ofString "_law_next") (.str (Str.ofString "law_pq0481_01") 2121) (.ref 1344) .none) ::
  ((nat_lit 1351),⟨(.type "code"),none,(.fields (List.toArray [(.str (Str.ofString "_law_expression") 2140),(.str (Str.ofString "_law_expression") 2141),(.str (Str.ofString "/claim/cut.py") 2142),(.int (1390) 0),(.int (3) 0),(.int (0) 0),(.int (0) 0),(.int (3) 0),(.ref 1346),(.bool true),(.int (181) 0),(.ref 1347),.none,(.ref 1348),(.ref 1349),(.ref 1350),(.int (2148) 0),(.int (1390) 0),(.str (Str.ofString "/claim/cut.py") 2149)])),List.toArray []⟩) ::
  ((nat_lit 1352),fobj (stAt 177) (Str.ofString "_law_expression") (.str (Str.ofString "law_pq0481_01") 2121) (.ref 1351) .none) ::
  ((nat_lit 1358),⟨(.type "code"),none,(.fields (List.toArray [(.str (Str.ofString "_law_span") 2151),(.str (Str.ofString "_law_span") 2152),(.str (Str.ofString "/claim/cut.py") 2153),(.int (1404) 0),(.int (1) 0),(.int (0) 0),(.int (0) 0),(.int (3) 0),(.ref 1353),(.bool true),(.int (181) 0),(.ref 1354),.none,(.ref 1355),(.ref 1356),(.ref 1357),(.int (2155) 0),(.int (1404) 0),(.str (Str.ofString "/claim/cut.py") 2156)])),List.toArray []⟩) ::
  ((nat_lit 1359),fobj (stAt 178) (Str.ofString "_law_span") (.str (Str.ofString "law_pq0481_01") 2121) (.ref 1358) .none) ::
  ((nat_lit 1365),⟨(.type "code"),none,(.fields (List.toArray [(.str (Str.ofString "_law_item") 2158),(.str (Str.ofString "_law_item") 2159),(.str (Str.ofString "/claim/cut.py") 2160),(.int (1406) 0),(.int (1) 0),(.int (0) 0),(.int (0) 0),(.int (3) 0),(.ref 1360),(.bool true),(.int (181) 0),(.ref 1361),.none,(.ref 1362),(.ref 1363),(.ref 1364),(.int (2167) 0),(.int (1406) 0),(.str (Str.ofString "/claim/cut.py") 2168)])),List.toArray []⟩) ::
  ((nat_lit 1366),fobj (stAt 179) (Str.ofString "_law_item") (.str (Str.ofString "law_pq0481_01") 2121) (.ref 1365) .none) ::
  ((nat_lit 1372),⟨(.type "code"),none,(.fields (List.toArray [(.str (Str.ofString "_law_told") 2170),(.str (Str.ofString "_law_told") 2171),(.str (Str.ofString "/claim/cut.py") 2172),(.int (1419) 0),(.int (3) 0),(.int (0) 0),(.int (0) 0),(.int (3) 0),(.ref 1367),(.bool true),(.int (181) 0),(.ref 1368),.none,(.ref 1369),(.ref 1370),(.ref 1371),(.int (2177) 0),(.int (1419) 0),(.str (Str.ofString "/claim/cut.py") 2178)])),List.toArray []⟩) ::
  ((nat_lit 1373),fobj (stAt 180) (Str.ofString "_law_told") (.str (Str.ofString "law_pq0481_01") 2121) (.ref 1372) .none) ::
  ((nat_lit 1377),⟨(.type "code"),none,(.fields (List.toArray [(.str (Str.ofString "law") 2180),(.str (Str.ofString "law") 2181),(.str (Str.ofString "/claim/cut.py") 2182),(.int (1424) 0),(.int (1) 0),(.int (0) 0),(.int (0) 0),(.int (3) 0),(.ref 1374),(.bool true),(.int (181) 0),(.ref 1375),.none,.none,.none,(.ref 1376),(.int (2183) 0),(.int (1424) 0),(.str (Str.ofString "/claim/cut.py") 2184)])),List.toArray []⟩) ::
  ((nat_lit 1378),fobj (stAt 181) (Str.ofString "law") (.str (Str.ofString "law_pq0481_01") 2121) (.ref 1377) .none)::[]
noncomputable def as0:List Addr:=(nat_lit 1)::(nat_lit 2)::(nat_lit 3)::(nat_lit 27)::(nat_lit 28)::(nat_lit 41)::(nat_lit 42)::(nat_lit 55)::(nat_lit 56)::(nat_lit 86)::(nat_lit 87)::(nat_lit 88)::(nat_lit 89)::(nat_lit 99)::(nat_lit 105)::(nat_lit 106)::(nat_lit 108)::(nat_lit 109)::(nat_lit 110)::(nat_lit 121)::(nat_lit 122)::(nat_lit 142)::(nat_lit 143)::(nat_lit 144)::(nat_lit 150)::(nat_lit 151)::(nat_lit 192)::(nat_lit 193)::(nat_lit 227)::(nat_lit 228)::(nat_lit 933)::(nat_lit 934)::(nat_lit 982)::(nat_lit 983)::(nat_lit 1122)::(nat_lit 1123)::(nat_lit 1143)::(nat_lit 1144)::(nat_lit 1150)::(nat_lit 1151)::(nat_lit 1164)::(nat_lit 1165)::(nat_lit 1171)::(nat_lit 1172)::(nat_lit 1178)::(nat_lit 1179)::(nat_lit 1192)::(nat_lit 1193)::(nat_lit 1206)::(nat_lit 1207)::(nat_lit 1213)::(nat_lit 1214)::(nat_lit 1220)::(nat_lit 1221)::(nat_lit 1225)::(nat_lit 1226)::(nat_lit 1232)::(nat_lit 1233)::(nat_lit 1239)::(nat_lit 1240)::(nat_lit 1246)::(nat_lit 1247)::(nat_lit 1253)::(nat_lit 1254)::(nat_lit 1267)::(nat_lit 1268)::(nat_lit 1326)::(nat_lit 1327)::(nat_lit 1328)::(nat_lit 1329)::(nat_lit 1337)::(nat_lit 1338)::(nat_lit 1344)::(nat_lit 1345)::(nat_lit 1351)::(nat_lit 1352)::(nat_lit 1358)::(nat_lit 1359)::(nat_lit 1365)::(nat_lit 1366)::(nat_lit 1372)::(nat_lit 1373)::(nat_lit 1377)::(nat_lit 1378)::[]
end
section
namespace H
noncomputable abbrev Q:=Params
noncomputable abbrev O:=Obj
noncomputable abbrev D:=DictEntry
noncomputable abbrev T:=Params→BT
noncomputable abbrev S (x:String):Str:=Str.ofString x
noncomputable abbrev s (x:String) (t:Nat):Value:=.str (Str.ofString x) t
noncomputable abbrev n (i:Int) (t:Nat):Value:=.int i t
noncomputable abbrev r (a:Nat):Value:=.ref a
noncomputable abbrev e (P:Params) (x:String) (t:Nat) (v:Value):DictEntry:=⟨PyData.keyHash P (Str.ofString x),.str (Str.ofString x) t,v⟩
noncomputable abbrev tup (l:List Value):Obj:=⟨.type "tuple",none,.seq (List.toArray l) 0,List.toArray []⟩
noncomputable abbrev raw (st:Stmt) (q:Str):Obj:=⟨.none,none,.func { name:=fName st,qualname:=q,params:=fParams st,body:=.stmts (fBody st),scope:=fScope st,globals:=0,closure:=[],defaults:=.none,kwdefaults:=.none,doc:=.none,pyModule:=.none,annotations:=none,code:=.none,closureTuple:=.none,builtins:=0 },List.toArray []⟩
noncomputable abbrev cO (a b:String) (t l k x u:Nat):Obj:=⟨.type "code",none,.fields (List.toArray (s a t::s b (t+1)::s "/claim/cut.py" (t+2)::n l 0::n k 0::n 0 0::n 0 0::n 3 0::r x::.bool true::n 181 0::r (x+1)::.none::r (x+2)::r (x+3)::r (x+4)::n u 0::n l 0::s "/claim/cut.py" (u+1)::[])),List.toArray []⟩
noncomputable abbrev N (o:Params→Obj) (l r:Params→BT):Params→BT:=fun P=>.node (o P) (l P) (r P)
noncomputable abbrev Z:Params→BT:=fun _=>.nil
noncomputable abbrev M (o:Params→Obj):Params→BT:=fun P=>.node (o P) .nil .nil
noncomputable abbrev sT (t:BT) (k u:Nat) (os:OsState):SharedT:=⟨t,k,{},Array.mk [],{},u,os⟩
noncomputable abbrev sts (a k:Nat):List Stmt:=(Pw.main.body.drop a).take k
noncomputable def E0:Env:={ scope:=Pw.main.scope,locals:=mainNs,globals:=mainNs,cells:=[],code:=.ref 13,frame:=some 14 }
noncomputable abbrev p0:Pos:=⟨0,0,0,0⟩
noncomputable abbrev bPw:List Stmt:=behindTheImports Pw
theorem twin:@segRunT treeTable=@PySem.W.Fast.tw10110043849684766642 PySem.W.Fast.tw14364793385576792824:=by
  rw [PySem.W.Fast.te10110043849684766642,PySem.W.Fast.te14364793385576792824]
theorem via {p:Program} {w:World} {a:Nat} {ann:Option Value} {B k:Nat} {x:SharedT} {th:Thread} {y:Option (Flow × SharedT × Code × Pos)} (h:PySem.W.Fast.tw10110043849684766642 PySem.W.Fast.tw14364793385576792824 p w a ann B k x th=y):segRunT treeTable p w a ann B k x th=y:=by
  rw [twin];exact h
noncomputable def o0 (P:Q):O:=tup ([])
noncomputable def o1 (P:Q):O:=⟨.none,none,(.fields (List.toArray ([]))),List.toArray ([])⟩
noncomputable def o2 (P:Q):O:=⟨(.type "code"),none,(.fields (List.toArray ((s "<module>" 182)::(s "<module>" 183)::(s "/claim/cut.py" 184)::(n 1 0)::(n 0 0)::(n 0 0)::(n 0 0)::(n 0 0)::(r 11)::(.bool false)::(n 181 0)::(r 12)::.none::.none::.none::.none::(n 185 0)::(n 1 0)::(s "/claim/cut.py" 186)::[]))),List.toArray ([])⟩
noncomputable def o3 (P:Q):O:=⟨(.type "frame"),none,.plain,List.toArray ((some (r 13))::(some (r 3))::(some (r 3))::none::(some (s "__main__" 164))::none::(some (r 0))::[])⟩
noncomputable def e0 (P:Q):D:=(e P "type.__subclasses__.Exception.0" 336 (n 109 0))
noncomputable def e1 (P:Q):D:=(e P "type.__subclasses__.Exception.n" 337 (n 1 0))
noncomputable def o4 (P:Q):O:=⟨.none,none,(.dict (List.toArray (e0 P::e1 P::[])) 2),List.toArray ([])⟩
noncomputable def e2 (P:Q):D:=(e P "__name__" 165 (s "gateloom.errors" 302))
noncomputable def e3 (P:Q):D:=(e P "__doc__" 166 .none)
noncomputable def e4 (P:Q):D:=(e P "__package__" 167 .none)
noncomputable def e5 (P:Q):D:=(e P "__loader__" 168 (.builtin "__main__.__loader__#opaque"))
noncomputable def e6 (P:Q):D:=(e P "__spec__" 169 .none)
noncomputable def e7 (P:Q):D:=(e P "__annotations__" 170 (r 6))
noncomputable def e8 (P:Q):D:=(e P "__builtins__" 171 (r 4))
noncomputable def e9 (P:Q):D:=(e P "__file__" 173 (s "/claim/cut.py" 172))
noncomputable def e10 (P:Q):D:=(e P "__cached__" 174 .none)
noncomputable def e11 (P:Q):D:=(e P "_wall" 193 (r 21))
noncomputable def e12 (P:Q):D:=(e P "net_kinds" 201 (r 28))
noncomputable def e13 (P:Q):D:=(e P "Design" 301 (r 87))
noncomputable def e14 (P:Q):D:=(e P "GateloomError" 339 (r 109))
noncomputable def o5 (P:Q):O:=⟨(.type "dict"),none,(.dict (List.toArray (e2 P::e3 P::e4 P::e5 P::e6 P::e7 P::e8 P::e9 P::e10 P::e11 P::e12 P::e13 P::e14 P::[])) 13),List.toArray ([])⟩
noncomputable def o6 (P:Q):O:=⟨.none,none,(.fields (List.toArray ((n 1 0)::(n 0 0)::(r 20)::(n 5 0)::(n 0 0)::(r 27)::(n 7 0)::(n 0 0)::(r 34)::(n 47 0)::(n 0 0)::(r 97)::[]))),List.toArray ([])⟩
noncomputable def o7 (P:Q):O:=tup ((s "k" 190)::[])
noncomputable def o8 (P:Q):O:=raw (stAt 0) (S "_wall")
noncomputable def o9 (P:Q):O:=cO "_wall" "_wall" 187 1 1 15 191
noncomputable def o10 (P:Q):O:=fobj (stAt 0) (S "_wall") (s "__main__" 164) (r 20) .none
noncomputable def o11 (P:Q):O:=raw (stAt 2) (S "net_kinds")
noncomputable def o12 (P:Q):O:=cO "net_kinds" "net_kinds" 196 5 0 22 199
noncomputable def o13 (P:Q):O:=fobj (stAt 2) (S "net_kinds") (s "gateloom.design" 194) (r 27) .none
noncomputable def o14 (P:Q):O:=⟨(.type "builtin_function_or_method"),none,(.fields (List.toArray ((.builtin "type.__prepare__")::(.type "type")::[]))),List.toArray ([])⟩
noncomputable def e15 (P:Q):D:=(e P "__module__" 209 (s "gateloom.design" 194))
noncomputable def e16 (P:Q):D:=(e P "__qualname__" 211 (s "Design" 210))
noncomputable def e17 (P:Q):D:=(e P "__firstlineno__" 213 (n 7 212))
noncomputable def e18 (P:Q):D:=(e P "__init__" 220 (r 42))
noncomputable def e19 (P:Q):D:=(e P "add_signal" 234 (r 49))
noncomputable def e20 (P:Q):D:=(e P "add_scope" 242 (r 56))
noncomputable def e21 (P:Q):D:=(e P "add_routine" 253 (r 63))
noncomputable def e22 (P:Q):D:=(e P "add_process" 264 (r 70))
noncomputable def e23 (P:Q):D:=(e P "find" 272 (r 77))
noncomputable def e24 (P:Q):D:=(e P "routine" 281 (r 84))
noncomputable def e25 (P:Q):D:=(e P "__static_attributes__" 294 (r 85))
noncomputable def o15 (P:Q):O:=⟨(.type "dict"),none,(.dict (List.toArray (e15 P::e16 P::e17 P::e18 P::e19 P::e20 P::e21 P::e22 P::e23 P::e24 P::e25 P::[])) 11),List.toArray ([])⟩
noncomputable def o16 (P:Q):O:=⟨.none,none,(.fields (List.toArray ((n 9 0)::(n 4 0)::(r 41)::(n 23 0)::(n 4 0)::(r 48)::(n 26 0)::(n 4 0)::(r 55)::(n 30 0)::(n 4 0)::(r 62)::(n 33 0)::(n 4 0)::(r 69)::(n 36 0)::(n 4 0)::(r 76)::(n 39 0)::(n 4 0)::(r 83)::[]))),List.toArray ([])⟩
noncomputable def o17 (P:Q):O:=⟨(.type "code"),none,(.fields (List.toArray ((s "Design" 204)::(s "Design" 205)::(s "/claim/cut.py" 206)::(n 7 0)::(n 0 0)::(n 0 0)::(n 0 0)::(n 0 0)::(r 32)::(.bool false)::(n 181 0)::(r 33)::.none::.none::.none::.none::(n 207 0)::(n 7 0)::(s "/claim/cut.py" 208)::[]))),List.toArray ([])⟩
noncomputable def o18 (P:Q):O:=⟨(.type "frame"),none,.plain,List.toArray ((some (r 34))::(some (r 3))::(some (r 31))::none::(some (s "gateloom.design" 194))::none::(some (r 0))::[])⟩
noncomputable def o19 (P:Q):O:=tup ((s "self" 217)::[])
noncomputable def o20 (P:Q):O:=raw (mAt 3 0) (S "Design.__init__")
noncomputable def o21 (P:Q):O:=cO "__init__" "Design.__init__" 214 9 1 36 218
noncomputable def o22 (P:Q):O:=fobj (mAt 3 0) (S "Design.__init__") (s "gateloom.design" 194) (r 41) .none
noncomputable def o23 (P:Q):O:=tup ((s "self" 224)::(s "path" 225)::(s "kind" 226)::(s "width" 227)::(s "signed" 228)::(s "msb" 229)::(s "lsb" 230)::(s "at" 231)::[])
noncomputable def o24 (P:Q):O:=raw (mAt 3 1) (S "Design.add_signal")
noncomputable def o25 (P:Q):O:=cO "add_signal" "Design.add_signal" 221 23 8 43 232
noncomputable def o26 (P:Q):O:=fobj (mAt 3 1) (S "Design.add_signal") (s "gateloom.design" 194) (r 48) .none
noncomputable def o27 (P:Q):O:=tup ((s "self" 238)::(s "path" 239)::[])
noncomputable def o28 (P:Q):O:=raw (mAt 3 2) (S "Design.add_scope")
noncomputable def o29 (P:Q):O:=cO "add_scope" "Design.add_scope" 235 26 2 50 240
noncomputable def o30 (P:Q):O:=fobj (mAt 3 2) (S "Design.add_scope") (s "gateloom.design" 194) (r 55) .none
noncomputable def o31 (P:Q):O:=tup ((s "self" 246)::(s "path" 247)::(s "is_function" 248)::(s "automatic" 249)::(s "at" 250)::[])
noncomputable def o32 (P:Q):O:=raw (mAt 3 3) (S "Design.add_routine")
noncomputable def o33 (P:Q):O:=cO "add_routine" "Design.add_routine" 243 30 5 57 251
noncomputable def o34 (P:Q):O:=fobj (mAt 3 3) (S "Design.add_routine") (s "gateloom.design" 194) (r 62) .none
noncomputable def o35 (P:Q):O:=tup ((s "self" 257)::(s "kind" 258)::(s "body" 259)::(s "path" 260)::(s "at" 261)::[])
noncomputable def o36 (P:Q):O:=raw (mAt 3 4) (S "Design.add_process")
noncomputable def o37 (P:Q):O:=cO "add_process" "Design.add_process" 254 33 5 64 262
noncomputable def o38 (P:Q):O:=fobj (mAt 3 4) (S "Design.add_process") (s "gateloom.design" 194) (r 69) .none
noncomputable def o39 (P:Q):O:=tup ((s "self" 268)::(s "path" 269)::[])
noncomputable def o40 (P:Q):O:=raw (mAt 3 5) (S "Design.find")
noncomputable def o41 (P:Q):O:=cO "find" "Design.find" 265 36 2 71 270
noncomputable def o42 (P:Q):O:=fobj (mAt 3 5) (S "Design.find") (s "gateloom.design" 194) (r 76) .none
noncomputable def o43 (P:Q):O:=tup ((s "self" 276)::(s "n" 277)::(s "routine" 278)::[])
noncomputable def o44 (P:Q):O:=raw (mAt 3 6) (S "Design.routine")
noncomputable def o45 (P:Q):O:=cO "routine" "Design.routine" 273 39 2 78 279
noncomputable def o46 (P:Q):O:=fobj (mAt 3 6) (S "Design.routine") (s "gateloom.design" 194) (r 83) .none
noncomputable def o47 (P:Q):O:=tup ((s "assigns" 282)::(s "by_path" 283)::(s "gates" 284)::(s "maker" 285)::(s "nesting" 286)::(s "ports" 287)::(s "processes" 288)::(s "routines" 289)::(s "scopes" 290)::(s "signals" 291)::(s "tops" 292)::(s "udps" 293)::[])
noncomputable def e26 (P:Q):D:=(e P "__dict__" 296 (r 88))
noncomputable def e27 (P:Q):D:=(e P "__weakref__" 298 (r 89))
noncomputable def e28 (P:Q):D:=(e P "__doc__" 299 .none)
noncomputable def o48 (P:Q):O:=⟨(.type "dict"),none,(.dict (List.toArray (e15 P::e17 P::e18 P::e19 P::e20 P::e21 P::e22 P::e23 P::e24 P::e25 P::e26 P::e27 P::e28 P::[])) 4),List.toArray ([])⟩
noncomputable def o49 (P:Q):O:=⟨(.type "type"),none,(.cls { name:=(S "Design"),bases:=(.type "object")::[],mro:=(r 87)::(.type "object")::[],ns:=86,qualname:=(S "Design"),hasDict:=true,slotNames:=[],subclasses:=[],abstract:=false,collection:=none,hasDel:=false }),List.toArray (none::none::(some (s "Design" 202))::(some (s "Design" 210))::(some (.builtin "object.__new__"))::(some (.bool true))::[])⟩
noncomputable def o50 (P:Q):O:=⟨(.type "getset_descriptor"),none,(.fields (List.toArray ((s "__dict__" 295)::(r 87)::(.builtin "function.__dict__")::(.builtin "function.__dict__#set")::[]))),List.toArray ([])⟩
noncomputable def o51 (P:Q):O:=⟨(.type "getset_descriptor"),none,(.fields (List.toArray ((s "__weakref__" 297)::(r 87)::(.builtin "ExceptionGroup.__weakref__")::.none::[]))),List.toArray ([])⟩
noncomputable def o52 (P:Q):O:=⟨(.type "super"),none,(.fields (List.toArray ((r 87)::(r 87)::(r 87)::[]))),List.toArray ([])⟩
noncomputable def o53 (P:Q):O:=⟨(.type "builtin_function_or_method"),none,(.fields (List.toArray ((.builtin "object.__init_subclass__")::(r 87)::[]))),List.toArray ([])⟩
noncomputable def o54 (P:Q):O:=tup ((.type "Exception")::[])
noncomputable def e29 (P:Q):D:=(e P "__module__" 311 (s "gateloom.errors" 302))
noncomputable def e30 (P:Q):D:=(e P "__qualname__" 313 (s "GateloomError" 312))
noncomputable def e31 (P:Q):D:=(e P "__firstlineno__" 315 (n 47 314))
noncomputable def e32 (P:Q):D:=(e P "__init__" 328 (r 106))
noncomputable def e33 (P:Q):D:=(e P "__static_attributes__" 332 (r 107))
noncomputable def o55 (P:Q):O:=⟨(.type "dict"),none,(.dict (List.toArray (e29 P::e30 P::e31 P::e32 P::e33 P::[])) 5),List.toArray ([])⟩
noncomputable def o56 (P:Q):O:=⟨.none,none,(.fields (List.toArray ((n 49 0)::(n 4 0)::(r 105)::[]))),List.toArray ([])⟩
noncomputable def o57 (P:Q):O:=⟨(.type "code"),none,(.fields (List.toArray ((s "GateloomError" 306)::(s "GateloomError" 307)::(s "/claim/cut.py" 308)::(n 47 0)::(n 0 0)::(n 0 0)::(n 0 0)::(n 0 0)::(r 95)::(.bool false)::(n 181 0)::(r 96)::.none::.none::.none::.none::(n 309 0)::(n 47 0)::(s "/claim/cut.py" 310)::[]))),List.toArray ([])⟩
noncomputable def o58 (P:Q):O:=⟨(.type "frame"),none,.plain,List.toArray ((some (r 97))::(some (r 3))::(some (r 94))::none::(some (s "gateloom.errors" 302))::none::(some (r 0))::[])⟩
noncomputable def o59 (P:Q):O:=tup ((n (-1) 317)::(s "" 318)::[])
noncomputable def o60 (P:Q):O:=tup ((s "self" 322)::(s "kind" 323)::(s "at" 324)::(s "detail" 325)::[])
noncomputable def o61 (P:Q):O:=raw (mAt 5 0) (S "GateloomError.__init__")
noncomputable def o62 (P:Q):O:=cO "__init__" "GateloomError.__init__" 319 49 4 100 326
noncomputable def o63 (P:Q):O:=fobj (mAt 5 0) (S "GateloomError.__init__") (s "gateloom.errors" 302) (r 105) (r 99)
noncomputable def o64 (P:Q):O:=tup ((s "at" 329)::(s "detail" 330)::(s "kind" 331)::[])
noncomputable def e34 (P:Q):D:=(e P "__weakref__" 334 (r 110))
noncomputable def e35 (P:Q):D:=(e P "__doc__" 335 .none)
noncomputable def o65 (P:Q):O:=⟨(.type "dict"),none,(.dict (List.toArray (e29 P::e31 P::e32 P::e33 P::e34 P::e35 P::[])) 3),List.toArray ([])⟩
noncomputable def o66 (P:Q):O:=⟨(.type "type"),none,(.cls { name:=(S "GateloomError"),bases:=(.type "Exception")::[],mro:=(r 109)::(.type "Exception")::(.type "BaseException")::(.type "object")::[],ns:=108,qualname:=(S "GateloomError"),hasDict:=true,slotNames:=[],subclasses:=[],abstract:=false,collection:=none,hasDel:=false }),List.toArray ((some (r 92))::none::(some (s "GateloomError" 304))::(some (s "GateloomError" 312))::(some (.builtin "Exception.__new__"))::(some (.bool true))::[])⟩
noncomputable def o67 (P:Q):O:=⟨(.type "getset_descriptor"),none,(.fields (List.toArray ((s "__weakref__" 333)::(r 109)::(.builtin "ExceptionGroup.__weakref__")::.none::[]))),List.toArray ([])⟩
noncomputable def o68 (P:Q):O:=⟨(.type "super"),none,(.fields (List.toArray ((r 109)::(r 109)::(r 109)::[]))),List.toArray ([])⟩
noncomputable def o69 (P:Q):O:=⟨(.type "builtin_function_or_method"),none,(.fields (List.toArray ((.builtin "object.__init_subclass__")::(r 109)::[]))),List.toArray ([])⟩
noncomputable def e36 (P:Q):D:=(e P "__name__" 165 (s "gateloom.vec" 372))
noncomputable def e37 (P:Q):D:=(e P "DesignError" 355 (r 122))
noncomputable def e38 (P:Q):D:=(e P "LimitReached" 371 (r 134))
noncomputable def e39 (P:Q):D:=(e P "mask" 380 (r 143))
noncomputable def e40 (P:Q):D:=(e P "vec" 391 (r 151))
noncomputable def e41 (P:Q):D:=(e P "zeros" 398 (r 158))
noncomputable def e42 (P:Q):D:=(e P "all_x" 406 (r 165))
noncomputable def e43 (P:Q):D:=(e P "all_z" 413 (r 172))
noncomputable def e44 (P:Q):D:=(e P "from_int" 421 (r 179))
noncomputable def e45 (P:Q):D:=(e P "is_known" 428 (r 186))
noncomputable def e46 (P:Q):D:=(e P "to_int" 439 (r 193))
noncomputable def e47 (P:Q):D:=(e P "code" 447 (r 200))
noncomputable def e48 (P:Q):D:=(e P "slice_vec" 463 (r 207))
noncomputable def e49 (P:Q):D:=(e P "put_slice" 479 (r 214))
noncomputable def o70 (P:Q):O:=⟨(.type "dict"),none,(.dict (List.toArray (e36 P::e3 P::e4 P::e5 P::e6 P::e7 P::e8 P::e9 P::e10 P::e11 P::e12 P::e13 P::e14 P::e37 P::e38 P::e39 P::e40 P::e41 P::e42 P::e43 P::e44 P::e45 P::e46 P::e47 P::e48 P::e49 P::[])) 26),List.toArray ([])⟩
noncomputable def o71 (P:Q):O:=⟨.none,none,(.fields (List.toArray ((n 1 0)::(n 0 0)::(r 20)::(n 5 0)::(n 0 0)::(r 27)::(n 7 0)::(n 0 0)::(r 34)::(n 47 0)::(n 0 0)::(r 97)::(n 53 0)::(n 0 0)::(r 118)::(n 55 0)::(n 0 0)::(r 130)::(n 58 0)::(n 0 0)::(r 142)::(n 60 0)::(n 0 0)::(r 150)::(n 63 0)::(n 0 0)::(r 157)::(n 65 0)::(n 0 0)::(r 164)::(n 68 0)::(n 0 0)::(r 171)::(n 70 0)::(n 0 0)::(r 178)::(n 72 0)::(n 0 0)::(r 185)::(n 74 0)::(n 0 0)::(r 192)::(n 81 0)::(n 0 0)::(r 199)::(n 83 0)::(n 0 0)::(r 206)::(n 94 0)::(n 0 0)::(r 213)::[]))),List.toArray ([])⟩
noncomputable def o72 (P:Q):O:=⟨(.type "type"),none,(.cls { name:=(S "GateloomError"),bases:=(.type "Exception")::[],mro:=(r 109)::(.type "Exception")::(.type "BaseException")::(.type "object")::[],ns:=108,qualname:=(S "GateloomError"),hasDict:=true,slotNames:=[],subclasses:=(r 122)::(r 134)::[],abstract:=false,collection:=none,hasDel:=false }),List.toArray ((some (r 92))::none::(some (s "GateloomError" 304))::(some (s "GateloomError" 312))::(some (.builtin "Exception.__new__"))::(some (.bool true))::[])⟩
noncomputable def o73 (P:Q):O:=tup ((r 109)::[])
noncomputable def e50 (P:Q):D:=(e P "__module__" 347 (s "gateloom.errors" 302))
noncomputable def e51 (P:Q):D:=(e P "__qualname__" 349 (s "DesignError" 348))
noncomputable def e52 (P:Q):D:=(e P "__firstlineno__" 351 (n 53 350))
noncomputable def e53 (P:Q):D:=(e P "__static_attributes__" 352 (r 120))
noncomputable def o74 (P:Q):O:=⟨(.type "dict"),none,(.dict (List.toArray (e50 P::e51 P::e52 P::e53 P::[])) 4),List.toArray ([])⟩
noncomputable def o75 (P:Q):O:=⟨(.type "code"),none,(.fields (List.toArray ((s "DesignError" 342)::(s "DesignError" 343)::(s "/claim/cut.py" 344)::(n 53 0)::(n 0 0)::(n 0 0)::(n 0 0)::(n 0 0)::(r 116)::(.bool false)::(n 181 0)::(r 117)::.none::.none::.none::.none::(n 345 0)::(n 53 0)::(s "/claim/cut.py" 346)::[]))),List.toArray ([])⟩
noncomputable def o76 (P:Q):O:=⟨(.type "frame"),none,.plain,List.toArray ((some (r 118))::(some (r 3))::(some (r 115))::none::(some (s "gateloom.errors" 302))::none::(some (r 0))::[])⟩
noncomputable def e54 (P:Q):D:=(e P "__doc__" 353 .none)
noncomputable def o77 (P:Q):O:=⟨(.type "dict"),none,(.dict (List.toArray (e50 P::e52 P::e53 P::e54 P::[])) 2),List.toArray ([])⟩
noncomputable def o78 (P:Q):O:=⟨(.type "type"),none,(.cls { name:=(S "DesignError"),bases:=(r 109)::[],mro:=(r 122)::(r 109)::(.type "Exception")::(.type "BaseException")::(.type "object")::[],ns:=121,qualname:=(S "DesignError"),hasDict:=true,slotNames:=[],subclasses:=[],abstract:=false,collection:=none,hasDel:=false }),List.toArray ((some (r 113))::none::(some (s "DesignError" 340))::(some (s "DesignError" 348))::(some (.builtin "Exception.__new__"))::(some (.bool true))::[])⟩
noncomputable def o79 (P:Q):O:=⟨(.type "super"),none,(.fields (List.toArray ((r 122)::(r 122)::(r 122)::[]))),List.toArray ([])⟩
noncomputable def o80 (P:Q):O:=⟨(.type "builtin_function_or_method"),none,(.fields (List.toArray ((.builtin "object.__init_subclass__")::(r 122)::[]))),List.toArray ([])⟩
noncomputable def e55 (P:Q):D:=(e P "__module__" 363 (s "gateloom.errors" 302))
noncomputable def e56 (P:Q):D:=(e P "__qualname__" 365 (s "LimitReached" 364))
noncomputable def e57 (P:Q):D:=(e P "__firstlineno__" 367 (n 55 366))
noncomputable def e58 (P:Q):D:=(e P "__static_attributes__" 368 (r 132))
noncomputable def o81 (P:Q):O:=⟨(.type "dict"),none,(.dict (List.toArray (e55 P::e56 P::e57 P::e58 P::[])) 4),List.toArray ([])⟩
noncomputable def o82 (P:Q):O:=⟨(.type "code"),none,(.fields (List.toArray ((s "LimitReached" 358)::(s "LimitReached" 359)::(s "/claim/cut.py" 360)::(n 55 0)::(n 0 0)::(n 0 0)::(n 0 0)::(n 0 0)::(r 128)::(.bool false)::(n 181 0)::(r 129)::.none::.none::.none::.none::(n 361 0)::(n 55 0)::(s "/claim/cut.py" 362)::[]))),List.toArray ([])⟩
noncomputable def o83 (P:Q):O:=⟨(.type "frame"),none,.plain,List.toArray ((some (r 130))::(some (r 3))::(some (r 127))::none::(some (s "gateloom.errors" 302))::none::(some (r 0))::[])⟩
noncomputable def e59 (P:Q):D:=(e P "__doc__" 369 .none)
noncomputable def o84 (P:Q):O:=⟨(.type "dict"),none,(.dict (List.toArray (e55 P::e57 P::e58 P::e59 P::[])) 2),List.toArray ([])⟩
noncomputable def o85 (P:Q):O:=⟨(.type "type"),none,(.cls { name:=(S "LimitReached"),bases:=(r 109)::[],mro:=(r 134)::(r 109)::(.type "Exception")::(.type "BaseException")::(.type "object")::[],ns:=133,qualname:=(S "LimitReached"),hasDict:=true,slotNames:=[],subclasses:=[],abstract:=false,collection:=none,hasDel:=false }),List.toArray ((some (r 125))::none::(some (s "LimitReached" 356))::(some (s "LimitReached" 364))::(some (.builtin "Exception.__new__"))::(some (.bool true))::[])⟩
noncomputable def o86 (P:Q):O:=⟨(.type "super"),none,(.fields (List.toArray ((r 134)::(r 134)::(r 134)::[]))),List.toArray ([])⟩
noncomputable def o87 (P:Q):O:=⟨(.type "builtin_function_or_method"),none,(.fields (List.toArray ((.builtin "object.__init_subclass__")::(r 134)::[]))),List.toArray ([])⟩
noncomputable def o88 (P:Q):O:=tup ((s "w" 377)::[])
noncomputable def o89 (P:Q):O:=raw (stAt 9) (S "mask")
noncomputable def o90 (P:Q):O:=cO "mask" "mask" 374 58 1 137 378
noncomputable def o91 (P:Q):O:=fobj (stAt 9) (S "mask") (s "gateloom.vec" 372) (r 142) .none
noncomputable def o92 (P:Q):O:=tup ((n 0 381)::[])
noncomputable def o93 (P:Q):O:=tup ((s "w" 385)::(s "a" 386)::(s "b" 387)::(s "full" 388)::[])
noncomputable def o94 (P:Q):O:=raw (stAt 10) (S "vec")
noncomputable def o95 (P:Q):O:=cO "vec" "vec" 382 60 3 145 389
noncomputable def o96 (P:Q):O:=fobj (stAt 10) (S "vec") (s "gateloom.vec" 372) (r 150) (r 144)
noncomputable def o97 (P:Q):O:=tup ((s "w" 395)::[])
noncomputable def o98 (P:Q):O:=raw (stAt 11) (S "zeros")
noncomputable def o99 (P:Q):O:=cO "zeros" "zeros" 392 63 1 152 396
noncomputable def o100 (P:Q):O:=fobj (stAt 11) (S "zeros") (s "gateloom.vec" 372) (r 157) .none
noncomputable def o101 (P:Q):O:=tup ((s "w" 402)::(s "full" 403)::[])
noncomputable def o102 (P:Q):O:=raw (stAt 12) (S "all_x")
noncomputable def o103 (P:Q):O:=cO "all_x" "all_x" 399 65 1 159 404
noncomputable def o104 (P:Q):O:=fobj (stAt 12) (S "all_x") (s "gateloom.vec" 372) (r 164) .none
noncomputable def o105 (P:Q):O:=tup ((s "w" 410)::[])
noncomputable def o106 (P:Q):O:=raw (stAt 13) (S "all_z")
noncomputable def o107 (P:Q):O:=cO "all_z" "all_z" 407 68 1 166 411
noncomputable def o108 (P:Q):O:=fobj (stAt 13) (S "all_z") (s "gateloom.vec" 372) (r 171) .none
noncomputable def o109 (P:Q):O:=tup ((s "w" 417)::(s "n" 418)::[])
noncomputable def o110 (P:Q):O:=raw (stAt 14) (S "from_int")
noncomputable def o111 (P:Q):O:=cO "from_int" "from_int" 414 70 2 173 419
noncomputable def o112 (P:Q):O:=fobj (stAt 14) (S "from_int") (s "gateloom.vec" 372) (r 178) .none
noncomputable def o113 (P:Q):O:=tup ((s "v" 425)::[])
noncomputable def o114 (P:Q):O:=raw (stAt 15) (S "is_known")
noncomputable def o115 (P:Q):O:=cO "is_known" "is_known" 422 72 1 180 426
noncomputable def o116 (P:Q):O:=fobj (stAt 15) (S "is_known") (s "gateloom.vec" 372) (r 185) .none
noncomputable def o117 (P:Q):O:=tup ((s "v" 432)::(s "signed" 433)::(s "w" 434)::(s "a" 435)::(s "b" 436)::[])
noncomputable def o118 (P:Q):O:=raw (stAt 16) (S "to_int")
noncomputable def o119 (P:Q):O:=cO "to_int" "to_int" 429 74 2 187 437
noncomputable def o120 (P:Q):O:=fobj (stAt 16) (S "to_int") (s "gateloom.vec" 372) (r 192) .none
noncomputable def o121 (P:Q):O:=tup ((s "v" 443)::(s "i" 444)::[])
noncomputable def o122 (P:Q):O:=raw (stAt 17) (S "code")
noncomputable def o123 (P:Q):O:=cO "code" "code" 440 81 2 194 445
noncomputable def o124 (P:Q):O:=fobj (stAt 17) (S "code") (s "gateloom.vec" 372) (r 199) .none
noncomputable def o125 (P:Q):O:=tup ((s "v" 451)::(s "lo" 452)::(s "w" 453)::(s "first" 454)::(s "last" 455)::(s "inner" 456)::(s "shift" 457)::(s "outside" 458)::(s "a" 459)::(s "b" 460)::[])
noncomputable def o126 (P:Q):O:=raw (stAt 18) (S "slice_vec")
noncomputable def o127 (P:Q):O:=cO "slice_vec" "slice_vec" 448 83 3 201 461
noncomputable def o128 (P:Q):O:=fobj (stAt 18) (S "slice_vec") (s "gateloom.vec" 372) (r 206) .none
noncomputable def o129 (P:Q):O:=tup ((s "v" 467)::(s "lo" 468)::(s "part" 469)::(s "first" 470)::(s "last" 471)::(s "inner" 472)::(s "skip" 473)::(s "keep" 474)::(s "a" 475)::(s "b" 476)::[])
noncomputable def o130 (P:Q):O:=raw (stAt 19) (S "put_slice")
noncomputable def o131 (P:Q):O:=cO "put_slice" "put_slice" 464 94 3 208 477
noncomputable def o132 (P:Q):O:=fobj (stAt 19) (S "put_slice") (s "gateloom.vec" 372) (r 213) .none
noncomputable def e60 (P:Q):D:=(e P "__name__" 165 (s "gateloom.store" 518))
noncomputable def e61 (P:Q):D:=(e P "concat" 490 (r 221))
noncomputable def e62 (P:Q):D:=(e P "extend" 503 (r 228))
noncomputable def e63 (P:Q):D:=(e P "z_to_x" 510 (r 235))
noncomputable def e64 (P:Q):D:=(e P "truth" 517 (r 242))
noncomputable def e65 (P:Q):D:=(e P "Store" 586 (r 280))
noncomputable def e66 (P:Q):D:=(e P "Context" 645 (r 323))
noncomputable def o133 (P:Q):O:=⟨(.type "dict"),none,(.dict (List.toArray (e60 P::e3 P::e4 P::e5 P::e6 P::e7 P::e8 P::e9 P::e10 P::e11 P::e12 P::e13 P::e14 P::e37 P::e38 P::e39 P::e40 P::e41 P::e42 P::e43 P::e44 P::e45 P::e46 P::e47 P::e48 P::e49 P::e61 P::e62 P::e63 P::e64 P::e65 P::e66 P::[])) 32),List.toArray ([])⟩
noncomputable def o134 (P:Q):O:=⟨.none,none,(.fields (List.toArray ((n 1 0)::(n 0 0)::(r 20)::(n 5 0)::(n 0 0)::(r 27)::(n 7 0)::(n 0 0)::(r 34)::(n 47 0)::(n 0 0)::(r 97)::(n 53 0)::(n 0 0)::(r 118)::(n 55 0)::(n 0 0)::(r 130)::(n 58 0)::(n 0 0)::(r 142)::(n 60 0)::(n 0 0)::(r 150)::(n 63 0)::(n 0 0)::(r 157)::(n 65 0)::(n 0 0)::(r 164)::(n 68 0)::(n 0 0)::(r 171)::(n 70 0)::(n 0 0)::(r 178)::(n 72 0)::(n 0 0)::(r 185)::(n 74 0)::(n 0 0)::(r 192)::(n 81 0)::(n 0 0)::(r 199)::(n 83 0)::(n 0 0)::(r 206)::(n 94 0)::(n 0 0)::(r 213)::(n 105 0)::(n 0 0)::(r 220)::(n 114 0)::(n 0 0)::(r 227)::(n 124 0)::(n 0 0)::(r 234)::(n 126 0)::(n 0 0)::(r 241)::(n 133 0)::(n 0 0)::(r 248)::(n 179 0)::(n 0 0)::(r 290)::[]))),List.toArray ([])⟩
noncomputable def o135 (P:Q):O:=tup ((s "vs" 483)::(s "w" 484)::(s "a" 485)::(s "b" 486)::(s "v" 487)::[])
noncomputable def o136 (P:Q):O:=raw (stAt 20) (S "concat")
noncomputable def o137 (P:Q):O:=cO "concat" "concat" 480 105 1 215 488
noncomputable def o138 (P:Q):O:=fobj (stAt 20) (S "concat") (s "gateloom.vec" 372) (r 220) .none
noncomputable def o139 (P:Q):O:=tup ((s "v" 494)::(s "w" 495)::(s "signed" 496)::(s "fill" 497)::(s "top" 498)::(s "a" 499)::(s "b" 500)::[])
noncomputable def o140 (P:Q):O:=raw (stAt 21) (S "extend")
noncomputable def o141 (P:Q):O:=cO "extend" "extend" 491 114 3 222 501
noncomputable def o142 (P:Q):O:=fobj (stAt 21) (S "extend") (s "gateloom.vec" 372) (r 227) .none
noncomputable def o143 (P:Q):O:=tup ((s "v" 507)::[])
noncomputable def o144 (P:Q):O:=raw (stAt 22) (S "z_to_x")
noncomputable def o145 (P:Q):O:=cO "z_to_x" "z_to_x" 504 124 1 229 508
noncomputable def o146 (P:Q):O:=fobj (stAt 22) (S "z_to_x") (s "gateloom.vec" 372) (r 234) .none
noncomputable def o147 (P:Q):O:=tup ((s "v" 514)::[])
noncomputable def o148 (P:Q):O:=raw (stAt 23) (S "truth")
noncomputable def o149 (P:Q):O:=cO "truth" "truth" 511 126 1 236 515
noncomputable def o150 (P:Q):O:=fobj (stAt 23) (S "truth") (s "gateloom.vec" 372) (r 241) .none
noncomputable def e67 (P:Q):D:=(e P "__module__" 527 (s "gateloom.store" 518))
noncomputable def e68 (P:Q):D:=(e P "__qualname__" 529 (s "Store" 528))
noncomputable def e69 (P:Q):D:=(e P "__firstlineno__" 531 (n 133 530))
noncomputable def e70 (P:Q):D:=(e P "__init__" 539 (r 256))
noncomputable def e71 (P:Q):D:=(e P "get" 549 (r 263))
noncomputable def e72 (P:Q):D:=(e P "word" 561 (r 270))
noncomputable def e73 (P:Q):D:=(e P "set_bits" 574 (r 277))
noncomputable def e74 (P:Q):D:=(e P "__static_attributes__" 579 (r 278))
noncomputable def o151 (P:Q):O:=⟨(.type "dict"),none,(.dict (List.toArray (e67 P::e68 P::e69 P::e70 P::e71 P::e72 P::e73 P::e74 P::[])) 8),List.toArray ([])⟩
noncomputable def o152 (P:Q):O:=⟨.none,none,(.fields (List.toArray ((n 135 0)::(n 4 0)::(r 255)::(n 141 0)::(n 4 0)::(r 262)::(n 150 0)::(n 4 0)::(r 269)::(n 161 0)::(n 4 0)::(r 276)::[]))),List.toArray ([])⟩
noncomputable def o153 (P:Q):O:=⟨(.type "code"),none,(.fields (List.toArray ((s "Store" 522)::(s "Store" 523)::(s "/claim/cut.py" 524)::(n 133 0)::(n 0 0)::(n 0 0)::(n 0 0)::(n 0 0)::(r 246)::(.bool false)::(n 181 0)::(r 247)::.none::.none::.none::.none::(n 525 0)::(n 133 0)::(s "/claim/cut.py" 526)::[]))),List.toArray ([])⟩
noncomputable def o154 (P:Q):O:=⟨(.type "frame"),none,.plain,List.toArray ((some (r 248))::(some (r 3))::(some (r 245))::none::(some (s "gateloom.store" 518))::none::(some (r 0))::[])⟩
noncomputable def o155 (P:Q):O:=tup ((s "self" 535)::(s "signals" 536)::[])
noncomputable def o156 (P:Q):O:=raw (mAt 25 0) (S "Store.__init__")
noncomputable def o157 (P:Q):O:=cO "__init__" "Store.__init__" 532 135 2 250 537
noncomputable def o158 (P:Q):O:=fobj (mAt 25 0) (S "Store.__init__") (s "gateloom.store" 518) (r 255) .none
noncomputable def o159 (P:Q):O:=tup ((s "self" 543)::(s "key" 544)::(s "value" 545)::(s "signal" 546)::[])
noncomputable def o160 (P:Q):O:=raw (mAt 25 1) (S "Store.get")
noncomputable def o161 (P:Q):O:=cO "get" "Store.get" 540 141 2 257 547
noncomputable def o162 (P:Q):O:=fobj (mAt 25 1) (S "Store.get") (s "gateloom.store" 518) (r 262) .none
noncomputable def o163 (P:Q):O:=tup ((s "self" 553)::(s "key" 554)::(s "place" 555)::(s "words" 556)::(s "value" 557)::(s "signal" 558)::[])
noncomputable def o164 (P:Q):O:=raw (mAt 25 2) (S "Store.word")
noncomputable def o165 (P:Q):O:=cO "word" "Store.word" 550 150 3 264 559
noncomputable def o166 (P:Q):O:=fobj (mAt 25 2) (S "Store.word") (s "gateloom.store" 518) (r 269) .none
noncomputable def o167 (P:Q):O:=tup ((s "self" 565)::(s "key" 566)::(s "place" 567)::(s "lo" 568)::(s "value" 569)::(s "old" 570)::(s "new" 571)::[])
noncomputable def o168 (P:Q):O:=raw (mAt 25 3) (S "Store.set_bits")
noncomputable def o169 (P:Q):O:=cO "set_bits" "Store.set_bits" 562 161 5 271 572
noncomputable def o170 (P:Q):O:=fobj (mAt 25 3) (S "Store.set_bits") (s "gateloom.store" 518) (r 276) .none
noncomputable def o171 (P:Q):O:=tup ((s "memories" 575)::(s "random_seed" 576)::(s "signals" 577)::(s "values" 578)::[])
noncomputable def e75 (P:Q):D:=(e P "__dict__" 581 (r 281))
noncomputable def e76 (P:Q):D:=(e P "__weakref__" 583 (r 282))
noncomputable def e77 (P:Q):D:=(e P "__doc__" 584 .none)
noncomputable def o172 (P:Q):O:=⟨(.type "dict"),none,(.dict (List.toArray (e67 P::e69 P::e70 P::e71 P::e72 P::e73 P::e74 P::e75 P::e76 P::e77 P::[])) 4),List.toArray ([])⟩
noncomputable def o173 (P:Q):O:=⟨(.type "type"),none,(.cls { name:=(S "Store"),bases:=(.type "object")::[],mro:=(r 280)::(.type "object")::[],ns:=279,qualname:=(S "Store"),hasDict:=true,slotNames:=[],subclasses:=[],abstract:=false,collection:=none,hasDel:=false }),List.toArray (none::none::(some (s "Store" 520))::(some (s "Store" 528))::(some (.builtin "object.__new__"))::(some (.bool true))::[])⟩
noncomputable def o174 (P:Q):O:=⟨(.type "getset_descriptor"),none,(.fields (List.toArray ((s "__dict__" 580)::(r 280)::(.builtin "function.__dict__")::(.builtin "function.__dict__#set")::[]))),List.toArray ([])⟩
noncomputable def o175 (P:Q):O:=⟨(.type "getset_descriptor"),none,(.fields (List.toArray ((s "__weakref__" 582)::(r 280)::(.builtin "ExceptionGroup.__weakref__")::.none::[]))),List.toArray ([])⟩
noncomputable def o176 (P:Q):O:=⟨(.type "super"),none,(.fields (List.toArray ((r 280)::(r 280)::(r 280)::[]))),List.toArray ([])⟩
noncomputable def o177 (P:Q):O:=⟨(.type "builtin_function_or_method"),none,(.fields (List.toArray ((.builtin "object.__init_subclass__")::(r 280)::[]))),List.toArray ([])⟩
noncomputable def e78 (P:Q):D:=(e P "__module__" 594 (s "gateloom.store" 518))
noncomputable def e79 (P:Q):D:=(e P "__qualname__" 596 (s "Context" 595))
noncomputable def e80 (P:Q):D:=(e P "__firstlineno__" 598 (n 179 597))
noncomputable def e81 (P:Q):D:=(e P "__init__" 609 (r 299))
noncomputable def e82 (P:Q):D:=(e P "call" 618 (r 306))
noncomputable def e83 (P:Q):D:=(e P "next_random" 626 (r 313))
noncomputable def e84 (P:Q):D:=(e P "time_vec" 634 (r 320))
noncomputable def e85 (P:Q):D:=(e P "__static_attributes__" 638 (r 321))
noncomputable def o178 (P:Q):O:=⟨(.type "dict"),none,(.dict (List.toArray (e78 P::e79 P::e80 P::e81 P::e82 P::e83 P::e84 P::e85 P::[])) 8),List.toArray ([])⟩
noncomputable def o179 (P:Q):O:=⟨.none,none,(.fields (List.toArray ((n 181 0)::(n 4 0)::(r 298)::(n 186 0)::(n 4 0)::(r 305)::(n 189 0)::(n 4 0)::(r 312)::(n 196 0)::(n 4 0)::(r 319)::[]))),List.toArray ([])⟩
noncomputable def o180 (P:Q):O:=⟨(.type "code"),none,(.fields (List.toArray ((s "Context" 589)::(s "Context" 590)::(s "/claim/cut.py" 591)::(n 179 0)::(n 0 0)::(n 0 0)::(n 0 0)::(n 0 0)::(r 288)::(.bool false)::(n 181 0)::(r 289)::.none::.none::.none::.none::(n 592 0)::(n 179 0)::(s "/claim/cut.py" 593)::[]))),List.toArray ([])⟩
noncomputable def o181 (P:Q):O:=⟨(.type "frame"),none,.plain,List.toArray ((some (r 290))::(some (r 3))::(some (r 287))::none::(some (s "gateloom.store" 518))::none::(some (r 0))::[])⟩
noncomputable def o182 (P:Q):O:=tup ((n 0 599)::[])
noncomputable def o183 (P:Q):O:=tup ((s "self" 603)::(s "store" 604)::(s "frame" 605)::(s "now" 606)::[])
noncomputable def o184 (P:Q):O:=raw (mAt 26 0) (S "Context.__init__")
noncomputable def o185 (P:Q):O:=cO "__init__" "Context.__init__" 600 181 4 293 607
noncomputable def o186 (P:Q):O:=fobj (mAt 26 0) (S "Context.__init__") (s "gateloom.store" 518) (r 298) (r 292)
noncomputable def o187 (P:Q):O:=tup ((s "self" 613)::(s "number" 614)::(s "args" 615)::[])
noncomputable def o188 (P:Q):O:=raw (mAt 26 1) (S "Context.call")
noncomputable def o189 (P:Q):O:=cO "call" "Context.call" 610 186 3 300 616
noncomputable def o190 (P:Q):O:=fobj (mAt 26 1) (S "Context.call") (s "gateloom.store" 518) (r 305) .none
noncomputable def o191 (P:Q):O:=tup ((s "self" 622)::(s "seed" 623)::[])
noncomputable def o192 (P:Q):O:=raw (mAt 26 2) (S "Context.next_random")
noncomputable def o193 (P:Q):O:=cO "next_random" "Context.next_random" 619 189 1 307 624
noncomputable def o194 (P:Q):O:=fobj (mAt 26 2) (S "Context.next_random") (s "gateloom.store" 518) (r 312) .none
noncomputable def o195 (P:Q):O:=tup ((s "self" 630)::(s "width" 631)::[])
noncomputable def o196 (P:Q):O:=raw (mAt 26 3) (S "Context.time_vec")
noncomputable def o197 (P:Q):O:=cO "time_vec" "Context.time_vec" 627 196 2 314 632
noncomputable def o198 (P:Q):O:=fobj (mAt 26 3) (S "Context.time_vec") (s "gateloom.store" 518) (r 319) .none
noncomputable def o199 (P:Q):O:=tup ((s "frame" 635)::(s "now" 636)::(s "store" 637)::[])
noncomputable def e86 (P:Q):D:=(e P "__dict__" 640 (r 324))
noncomputable def e87 (P:Q):D:=(e P "__weakref__" 642 (r 325))
noncomputable def e88 (P:Q):D:=(e P "__doc__" 643 .none)
noncomputable def o200 (P:Q):O:=⟨(.type "dict"),none,(.dict (List.toArray (e78 P::e80 P::e81 P::e82 P::e83 P::e84 P::e85 P::e86 P::e87 P::e88 P::[])) 4),List.toArray ([])⟩
noncomputable def o201 (P:Q):O:=⟨(.type "type"),none,(.cls { name:=(S "Context"),bases:=(.type "object")::[],mro:=(r 323)::(.type "object")::[],ns:=322,qualname:=(S "Context"),hasDict:=true,slotNames:=[],subclasses:=[],abstract:=false,collection:=none,hasDel:=false }),List.toArray (none::none::(some (s "Context" 587))::(some (s "Context" 595))::(some (.builtin "object.__new__"))::(some (.bool true))::[])⟩
noncomputable def o202 (P:Q):O:=⟨(.type "getset_descriptor"),none,(.fields (List.toArray ((s "__dict__" 639)::(r 323)::(.builtin "function.__dict__")::(.builtin "function.__dict__#set")::[]))),List.toArray ([])⟩
noncomputable def o203 (P:Q):O:=⟨(.type "getset_descriptor"),none,(.fields (List.toArray ((s "__weakref__" 641)::(r 323)::(.builtin "ExceptionGroup.__weakref__")::.none::[]))),List.toArray ([])⟩
noncomputable def o204 (P:Q):O:=⟨(.type "super"),none,(.fields (List.toArray ((r 323)::(r 323)::(r 323)::[]))),List.toArray ([])⟩
noncomputable def o205 (P:Q):O:=⟨(.type "builtin_function_or_method"),none,(.fields (List.toArray ((.builtin "object.__init_subclass__")::(r 323)::[]))),List.toArray ([])⟩
noncomputable def e89 (P:Q):D:=(e P "__name__" 165 (s "gateloom.vecops" 819))
noncomputable def e90 (P:Q):D:=(e P "add" 655 (r 334))
noncomputable def e91 (P:Q):D:=(e P "sub" 663 (r 341))
noncomputable def e92 (P:Q):D:=(e P "mul" 671 (r 348))
noncomputable def e93 (P:Q):D:=(e P "neg" 678 (r 355))
noncomputable def e94 (P:Q):D:=(e P "quotient" 687 (r 362))
noncomputable def e95 (P:Q):D:=(e P "div" 698 (r 369))
noncomputable def e96 (P:Q):D:=(e P "mod" 709 (r 376))
noncomputable def e97 (P:Q):D:=(e P "raise_whole" 722 (r 383))
noncomputable def e98 (P:Q):D:=(e P "power" 735 (r 390))
noncomputable def e99 (P:Q):D:=(e P "shift_left" 745 (r 397))
noncomputable def e100 (P:Q):D:=(e P "shift_right" 754 (r 404))
noncomputable def e101 (P:Q):D:=(e P "shift_arith" 769 (r 411))
noncomputable def e102 (P:Q):D:=(e P "ordered" 780 (r 418))
noncomputable def e103 (P:Q):D:=(e P "less" 790 (r 425))
noncomputable def e104 (P:Q):D:=(e P "less_equal" 800 (r 432))
noncomputable def e105 (P:Q):D:=(e P "greater" 809 (r 439))
noncomputable def e106 (P:Q):D:=(e P "greater_equal" 818 (r 446))
noncomputable def e107 (P:Q):D:=(e P "one_bit" 827 (r 453))
noncomputable def e108 (P:Q):D:=(e P "bit_not" 837 (r 460))
noncomputable def e109 (P:Q):D:=(e P "bit_and" 851 (r 467))
noncomputable def e110 (P:Q):D:=(e P "bit_or" 866 (r 474))
noncomputable def e111 (P:Q):D:=(e P "bit_xor" 875 (r 481))
noncomputable def e112 (P:Q):D:=(e P "bit_xnor" 883 (r 488))
noncomputable def e113 (P:Q):D:=(e P "reduce_and" 893 (r 495))
noncomputable def o206 (P:Q):O:=⟨(.type "dict"),none,(.dict (List.toArray (e89 P::e3 P::e4 P::e5 P::e6 P::e7 P::e8 P::e9 P::e10 P::e11 P::e12 P::e13 P::e14 P::e37 P::e38 P::e39 P::e40 P::e41 P::e42 P::e43 P::e44 P::e45 P::e46 P::e47 P::e48 P::e49 P::e61 P::e62 P::e63 P::e64 P::e65 P::e66 P::e90 P::e91 P::e92 P::e93 P::e94 P::e95 P::e96 P::e97 P::e98 P::e99 P::e100 P::e101 P::e102 P::e103 P::e104 P::e105 P::e106 P::e107 P::e108 P::e109 P::e110 P::e111 P::e112 P::e113 P::[])) 56),List.toArray ([])⟩
noncomputable def o207 (P:Q):O:=⟨.none,none,(.fields (List.toArray ((n 1 0)::(n 0 0)::(r 20)::(n 5 0)::(n 0 0)::(r 27)::(n 7 0)::(n 0 0)::(r 34)::(n 47 0)::(n 0 0)::(r 97)::(n 53 0)::(n 0 0)::(r 118)::(n 55 0)::(n 0 0)::(r 130)::(n 58 0)::(n 0 0)::(r 142)::(n 60 0)::(n 0 0)::(r 150)::(n 63 0)::(n 0 0)::(r 157)::(n 65 0)::(n 0 0)::(r 164)::(n 68 0)::(n 0 0)::(r 171)::(n 70 0)::(n 0 0)::(r 178)::(n 72 0)::(n 0 0)::(r 185)::(n 74 0)::(n 0 0)::(r 192)::(n 81 0)::(n 0 0)::(r 199)::(n 83 0)::(n 0 0)::(r 206)::(n 94 0)::(n 0 0)::(r 213)::(n 105 0)::(n 0 0)::(r 220)::(n 114 0)::(n 0 0)::(r 227)::(n 124 0)::(n 0 0)::(r 234)::(n 126 0)::(n 0 0)::(r 241)::(n 133 0)::(n 0 0)::(r 248)::(n 179 0)::(n 0 0)::(r 290)::(n 199 0)::(n 0 0)::(r 333)::(n 203 0)::(n 0 0)::(r 340)::(n 207 0)::(n 0 0)::(r 347)::(n 211 0)::(n 0 0)::(r 354)::(n 215 0)::(n 0 0)::(r 361)::(n 220 0)::(n 0 0)::(r 368)::(n 226 0)::(n 0 0)::(r 375)::(n 232 0)::(n 0 0)::(r 382)::(n 243 0)::(n 0 0)::(r 389)::(n 258 0)::(n 0 0)::(r 396)::(n 266 0)::(n 0 0)::(r 403)::(n 273 0)::(n 0 0)::(r 410)::(n 283 0)::(n 0 0)::(r 417)::(n 291 0)::(n 0 0)::(r 424)::(n 296 0)::(n 0 0)::(r 431)::(n 301 0)::(n 0 0)::(r 438)::(n 303 0)::(n 0 0)::(r 445)::(n 306 0)::(n 0 0)::(r 452)::(n 308 0)::(n 0 0)::(r 459)::(n 311 0)::(n 0 0)::(r 466)::(n 316 0)::(n 0 0)::(r 473)::(n 322 0)::(n 0 0)::(r 480)::(n 325 0)::(n 0 0)::(r 487)::(n 327 0)::(n 0 0)::(r 494)::[]))),List.toArray ([])⟩
noncomputable def o208 (P:Q):O:=tup ((s "u" 651)::(s "v" 652)::[])
noncomputable def o209 (P:Q):O:=raw (stAt 28) (S "add")
noncomputable def o210 (P:Q):O:=cO "add" "add" 648 199 2 328 653
noncomputable def o211 (P:Q):O:=fobj (stAt 28) (S "add") (s "gateloom.vecarith" 646) (r 333) .none
noncomputable def o212 (P:Q):O:=tup ((s "u" 659)::(s "v" 660)::[])
noncomputable def o213 (P:Q):O:=raw (stAt 29) (S "sub")
noncomputable def o214 (P:Q):O:=cO "sub" "sub" 656 203 2 335 661
noncomputable def o215 (P:Q):O:=fobj (stAt 29) (S "sub") (s "gateloom.vecarith" 646) (r 340) .none
noncomputable def o216 (P:Q):O:=tup ((s "u" 667)::(s "v" 668)::[])
noncomputable def o217 (P:Q):O:=raw (stAt 30) (S "mul")
noncomputable def o218 (P:Q):O:=cO "mul" "mul" 664 207 2 342 669
noncomputable def o219 (P:Q):O:=fobj (stAt 30) (S "mul") (s "gateloom.vecarith" 646) (r 347) .none
noncomputable def o220 (P:Q):O:=tup ((s "v" 675)::[])
noncomputable def o221 (P:Q):O:=raw (stAt 31) (S "neg")
noncomputable def o222 (P:Q):O:=cO "neg" "neg" 672 211 1 349 676
noncomputable def o223 (P:Q):O:=fobj (stAt 31) (S "neg") (s "gateloom.vecarith" 646) (r 354) .none
noncomputable def o224 (P:Q):O:=tup ((s "m" 682)::(s "n" 683)::(s "found" 684)::[])
noncomputable def o225 (P:Q):O:=raw (stAt 32) (S "quotient")
noncomputable def o226 (P:Q):O:=cO "quotient" "quotient" 679 215 2 356 685
noncomputable def o227 (P:Q):O:=fobj (stAt 32) (S "quotient") (s "gateloom.vecarith" 646) (r 361) .none
noncomputable def o228 (P:Q):O:=tup ((s "u" 691)::(s "v" 692)::(s "signed" 693)::(s "m" 694)::(s "n" 695)::[])
noncomputable def o229 (P:Q):O:=raw (stAt 33) (S "div")
noncomputable def o230 (P:Q):O:=cO "div" "div" 688 220 3 363 696
noncomputable def o231 (P:Q):O:=fobj (stAt 33) (S "div") (s "gateloom.vecarith" 646) (r 368) .none
noncomputable def o232 (P:Q):O:=tup ((s "u" 702)::(s "v" 703)::(s "signed" 704)::(s "m" 705)::(s "n" 706)::[])
noncomputable def o233 (P:Q):O:=raw (stAt 34) (S "mod")
noncomputable def o234 (P:Q):O:=cO "mod" "mod" 699 226 3 370 707
noncomputable def o235 (P:Q):O:=fobj (stAt 34) (S "mod") (s "gateloom.vecarith" 646) (r 375) .none
noncomputable def o236 (P:Q):O:=tup ((s "base" 713)::(s "exponent" 714)::(s "w" 715)::(s "full" 716)::(s "result" 717)::(s "square" 718)::(s "rest" 719)::[])
noncomputable def o237 (P:Q):O:=raw (stAt 35) (S "raise_whole")
noncomputable def o238 (P:Q):O:=cO "raise_whole" "raise_whole" 710 232 3 377 720
noncomputable def o239 (P:Q):O:=fobj (stAt 35) (S "raise_whole") (s "gateloom.vecarith" 646) (r 382) .none
noncomputable def o240 (P:Q):O:=tup ((s "u" 726)::(s "v" 727)::(s "usigned" 728)::(s "vsigned" 729)::(s "w" 730)::(s "base" 731)::(s "exponent" 732)::[])
noncomputable def o241 (P:Q):O:=raw (stAt 36) (S "power")
noncomputable def o242 (P:Q):O:=cO "power" "power" 723 243 4 384 733
noncomputable def o243 (P:Q):O:=fobj (stAt 36) (S "power") (s "gateloom.vecarith" 646) (r 389) .none
noncomputable def o244 (P:Q):O:=tup ((s "u" 739)::(s "n" 740)::(s "w" 741)::(s "full" 742)::[])
noncomputable def o245 (P:Q):O:=raw (stAt 37) (S "shift_left")
noncomputable def o246 (P:Q):O:=cO "shift_left" "shift_left" 736 258 2 391 743
noncomputable def o247 (P:Q):O:=fobj (stAt 37) (S "shift_left") (s "gateloom.vecarith" 646) (r 396) .none
noncomputable def o248 (P:Q):O:=tup ((s "u" 749)::(s "n" 750)::(s "w" 751)::[])
noncomputable def o249 (P:Q):O:=raw (stAt 38) (S "shift_right")
noncomputable def o250 (P:Q):O:=cO "shift_right" "shift_right" 746 266 2 398 752
noncomputable def o251 (P:Q):O:=fobj (stAt 38) (S "shift_right") (s "gateloom.vecarith" 646) (r 403) .none
noncomputable def o252 (P:Q):O:=tup ((s "u" 758)::(s "n" 759)::(s "signed" 760)::(s "w" 761)::(s "count" 762)::(s "fill" 763)::(s "top" 764)::(s "a" 765)::(s "b" 766)::[])
noncomputable def o253 (P:Q):O:=raw (stAt 39) (S "shift_arith")
noncomputable def o254 (P:Q):O:=cO "shift_arith" "shift_arith" 755 273 3 405 767
noncomputable def o255 (P:Q):O:=fobj (stAt 39) (S "shift_arith") (s "gateloom.vecarith" 646) (r 410) .none
noncomputable def o256 (P:Q):O:=tup ((s "u" 773)::(s "v" 774)::(s "signed" 775)::(s "m" 776)::(s "n" 777)::[])
noncomputable def o257 (P:Q):O:=raw (stAt 40) (S "ordered")
noncomputable def o258 (P:Q):O:=cO "ordered" "ordered" 770 283 3 412 778
noncomputable def o259 (P:Q):O:=fobj (stAt 40) (S "ordered") (s "gateloom.vecarith" 646) (r 417) .none
noncomputable def o260 (P:Q):O:=tup ((s "u" 784)::(s "v" 785)::(s "signed" 786)::(s "sign" 787)::[])
noncomputable def o261 (P:Q):O:=raw (stAt 41) (S "less")
noncomputable def o262 (P:Q):O:=cO "less" "less" 781 291 3 419 788
noncomputable def o263 (P:Q):O:=fobj (stAt 41) (S "less") (s "gateloom.vecarith" 646) (r 424) .none
noncomputable def o264 (P:Q):O:=tup ((s "u" 794)::(s "v" 795)::(s "signed" 796)::(s "sign" 797)::[])
noncomputable def o265 (P:Q):O:=raw (stAt 42) (S "less_equal")
noncomputable def o266 (P:Q):O:=cO "less_equal" "less_equal" 791 296 3 426 798
noncomputable def o267 (P:Q):O:=fobj (stAt 42) (S "less_equal") (s "gateloom.vecarith" 646) (r 431) .none
noncomputable def o268 (P:Q):O:=tup ((s "u" 804)::(s "v" 805)::(s "signed" 806)::[])
noncomputable def o269 (P:Q):O:=raw (stAt 43) (S "greater")
noncomputable def o270 (P:Q):O:=cO "greater" "greater" 801 301 3 433 807
noncomputable def o271 (P:Q):O:=fobj (stAt 43) (S "greater") (s "gateloom.vecarith" 646) (r 438) .none
noncomputable def o272 (P:Q):O:=tup ((s "u" 813)::(s "v" 814)::(s "signed" 815)::[])
noncomputable def o273 (P:Q):O:=raw (stAt 44) (S "greater_equal")
noncomputable def o274 (P:Q):O:=cO "greater_equal" "greater_equal" 810 303 3 440 816
noncomputable def o275 (P:Q):O:=fobj (stAt 44) (S "greater_equal") (s "gateloom.vecarith" 646) (r 445) .none
noncomputable def o276 (P:Q):O:=tup ((s "c" 824)::[])
noncomputable def o277 (P:Q):O:=raw (stAt 46) (S "one_bit")
noncomputable def o278 (P:Q):O:=cO "one_bit" "one_bit" 821 306 1 447 825
noncomputable def o279 (P:Q):O:=fobj (stAt 46) (S "one_bit") (s "gateloom.vecops" 819) (r 452) .none
noncomputable def o280 (P:Q):O:=tup ((s "v" 831)::(s "w" 832)::(s "a" 833)::(s "b" 834)::[])
noncomputable def o281 (P:Q):O:=raw (stAt 47) (S "bit_not")
noncomputable def o282 (P:Q):O:=cO "bit_not" "bit_not" 828 308 1 454 835
noncomputable def o283 (P:Q):O:=fobj (stAt 47) (S "bit_not") (s "gateloom.vecops" 819) (r 459) .none
noncomputable def o284 (P:Q):O:=tup ((s "u" 841)::(s "v" 842)::(s "w" 843)::(s "a" 844)::(s "b" 845)::(s "c" 846)::(s "d" 847)::(s "both" 848)::[])
noncomputable def o285 (P:Q):O:=raw (stAt 48) (S "bit_and")
noncomputable def o286 (P:Q):O:=cO "bit_and" "bit_and" 838 311 2 461 849
noncomputable def o287 (P:Q):O:=fobj (stAt 48) (S "bit_and") (s "gateloom.vecops" 819) (r 466) .none
noncomputable def o288 (P:Q):O:=tup ((s "u" 855)::(s "v" 856)::(s "w" 857)::(s "a" 858)::(s "b" 859)::(s "c" 860)::(s "d" 861)::(s "either" 862)::(s "sure" 863)::[])
noncomputable def o289 (P:Q):O:=raw (stAt 49) (S "bit_or")
noncomputable def o290 (P:Q):O:=cO "bit_or" "bit_or" 852 316 2 468 864
noncomputable def o291 (P:Q):O:=fobj (stAt 49) (S "bit_or") (s "gateloom.vecops" 819) (r 473) .none
noncomputable def o292 (P:Q):O:=tup ((s "u" 870)::(s "v" 871)::(s "b" 872)::[])
noncomputable def o293 (P:Q):O:=raw (stAt 50) (S "bit_xor")
noncomputable def o294 (P:Q):O:=cO "bit_xor" "bit_xor" 867 322 2 475 873
noncomputable def o295 (P:Q):O:=fobj (stAt 50) (S "bit_xor") (s "gateloom.vecops" 819) (r 480) .none
noncomputable def o296 (P:Q):O:=tup ((s "u" 879)::(s "v" 880)::[])
noncomputable def o297 (P:Q):O:=raw (stAt 51) (S "bit_xnor")
noncomputable def o298 (P:Q):O:=cO "bit_xnor" "bit_xnor" 876 325 2 482 881
noncomputable def o299 (P:Q):O:=fobj (stAt 51) (S "bit_xnor") (s "gateloom.vecops" 819) (r 487) .none
noncomputable def o300 (P:Q):O:=tup ((s "v" 887)::(s "w" 888)::(s "a" 889)::(s "b" 890)::[])
noncomputable def o301 (P:Q):O:=raw (stAt 52) (S "reduce_and")
noncomputable def o302 (P:Q):O:=cO "reduce_and" "reduce_and" 884 327 1 489 891
noncomputable def o303 (P:Q):O:=fobj (stAt 52) (S "reduce_and") (s "gateloom.vecops" 819) (r 494) .none
noncomputable def e114 (P:Q):D:=(e P "__name__" 165 (s "gateloom.evaluate" 1011))
noncomputable def e115 (P:Q):D:=(e P "reduce_nand" 900 (r 502))
noncomputable def e116 (P:Q):D:=(e P "reduce_or" 907 (r 509))
noncomputable def e117 (P:Q):D:=(e P "reduce_nor" 914 (r 516))
noncomputable def e118 (P:Q):D:=(e P "reduce_xor" 923 (r 523))
noncomputable def e119 (P:Q):D:=(e P "reduce_xnor" 930 (r 530))
noncomputable def e120 (P:Q):D:=(e P "logic_not" 937 (r 537))
noncomputable def e121 (P:Q):D:=(e P "logic_and" 945 (r 544))
noncomputable def e122 (P:Q):D:=(e P "logic_or" 953 (r 551))
noncomputable def e123 (P:Q):D:=(e P "equal" 962 (r 558))
noncomputable def e124 (P:Q):D:=(e P "not_equal" 970 (r 565))
noncomputable def e125 (P:Q):D:=(e P "case_equal" 978 (r 572))
noncomputable def e126 (P:Q):D:=(e P "case_not_equal" 986 (r 579))
noncomputable def e127 (P:Q):D:=(e P "matches" 997 (r 586))
noncomputable def e128 (P:Q):D:=(e P "choose" 1010 (r 593))
noncomputable def e129 (P:Q):D:=(e P "unary" 1020 (r 600))
noncomputable def e130 (P:Q):D:=(e P "arithmetic" 1030 (r 607))
noncomputable def e131 (P:Q):D:=(e P "comparison" 1040 (r 614))
noncomputable def e132 (P:Q):D:=(e P "bitwise" 1049 (r 621))
noncomputable def e133 (P:Q):D:=(e P "binary" 1060 (r 628))
noncomputable def e134 (P:Q):D:=(e P "whole_of" 1069 (r 635))
noncomputable def e135 (P:Q):D:=(e P "memory_word" 1079 (r 642))
noncomputable def e136 (P:Q):D:=(e P "picked" 1089 (r 649))
noncomputable def e137 (P:Q):D:=(e P "conditional" 1099 (r 656))
noncomputable def e138 (P:Q):D:=(e P "bits_needed" 1107 (r 663))
noncomputable def e139 (P:Q):D:=(e P "system_value" 1118 (r 670))
noncomputable def e140 (P:Q):D:=(e P "system_value_evaluate" 1119 (r 670))
noncomputable def o304 (P:Q):O:=⟨(.type "dict"),none,(.dict (List.toArray (e114 P::e3 P::e4 P::e5 P::e6 P::e7 P::e8 P::e9 P::e10 P::e11 P::e12 P::e13 P::e14 P::e37 P::e38 P::e39 P::e40 P::e41 P::e42 P::e43 P::e44 P::e45 P::e46 P::e47 P::e48 P::e49 P::e61 P::e62 P::e63 P::e64 P::e65 P::e66 P::e90 P::e91 P::e92 P::e93 P::e94 P::e95 P::e96 P::e97 P::e98 P::e99 P::e100 P::e101 P::e102 P::e103 P::e104 P::e105 P::e106 P::e107 P::e108 P::e109 P::e110 P::e111 P::e112 P::e113 P::e115 P::e116 P::e117 P::e118 P::e119 P::e120 P::e121 P::e122 P::e123 P::e124 P::e125 P::e126 P::e127 P::e128 P::e129 P::e130 P::e131 P::e132 P::e133 P::e134 P::e135 P::e136 P::e137 P::e138 P::e139 P::e140 P::[])) 82),List.toArray ([])⟩
noncomputable def o305 (P:Q):O:=⟨.none,none,(.fields (List.toArray ((n 1 0)::(n 0 0)::(r 20)::(n 5 0)::(n 0 0)::(r 27)::(n 7 0)::(n 0 0)::(r 34)::(n 47 0)::(n 0 0)::(r 97)::(n 53 0)::(n 0 0)::(r 118)::(n 55 0)::(n 0 0)::(r 130)::(n 58 0)::(n 0 0)::(r 142)::(n 60 0)::(n 0 0)::(r 150)::(n 63 0)::(n 0 0)::(r 157)::(n 65 0)::(n 0 0)::(r 164)::(n 68 0)::(n 0 0)::(r 171)::(n 70 0)::(n 0 0)::(r 178)::(n 72 0)::(n 0 0)::(r 185)::(n 74 0)::(n 0 0)::(r 192)::(n 81 0)::(n 0 0)::(r 199)::(n 83 0)::(n 0 0)::(r 206)::(n 94 0)::(n 0 0)::(r 213)::(n 105 0)::(n 0 0)::(r 220)::(n 114 0)::(n 0 0)::(r 227)::(n 124 0)::(n 0 0)::(r 234)::(n 126 0)::(n 0 0)::(r 241)::(n 133 0)::(n 0 0)::(r 248)::(n 179 0)::(n 0 0)::(r 290)::(n 199 0)::(n 0 0)::(r 333)::(n 203 0)::(n 0 0)::(r 340)::(n 207 0)::(n 0 0)::(r 347)::(n 211 0)::(n 0 0)::(r 354)::(n 215 0)::(n 0 0)::(r 361)::(n 220 0)::(n 0 0)::(r 368)::(n 226 0)::(n 0 0)::(r 375)::(n 232 0)::(n 0 0)::(r 382)::(n 243 0)::(n 0 0)::(r 389)::(n 258 0)::(n 0 0)::(r 396)::(n 266 0)::(n 0 0)::(r 403)::(n 273 0)::(n 0 0)::(r 410)::(n 283 0)::(n 0 0)::(r 417)::(n 291 0)::(n 0 0)::(r 424)::(n 296 0)::(n 0 0)::(r 431)::(n 301 0)::(n 0 0)::(r 438)::(n 303 0)::(n 0 0)::(r 445)::(n 306 0)::(n 0 0)::(r 452)::(n 308 0)::(n 0 0)::(r 459)::(n 311 0)::(n 0 0)::(r 466)::(n 316 0)::(n 0 0)::(r 473)::(n 322 0)::(n 0 0)::(r 480)::(n 325 0)::(n 0 0)::(r 487)::(n 327 0)::(n 0 0)::(r 494)::(n 332 0)::(n 0 0)::(r 501)::(n 334 0)::(n 0 0)::(r 508)::(n 336 0)::(n 0 0)::(r 515)::(n 338 0)::(n 0 0)::(r 522)::(n 347 0)::(n 0 0)::(r 529)::(n 349 0)::(n 0 0)::(r 536)::(n 351 0)::(n 0 0)::(r 543)::(n 353 0)::(n 0 0)::(r 550)::(n 355 0)::(n 0 0)::(r 557)::(n 360 0)::(n 0 0)::(r 564)::(n 362 0)::(n 0 0)::(r 571)::(n 364 0)::(n 0 0)::(r 578)::(n 366 0)::(n 0 0)::(r 585)::(n 374 0)::(n 0 0)::(r 592)::(n 385 0)::(n 0 0)::(r 599)::(n 405 0)::(n 0 0)::(r 606)::(n 423 0)::(n 0 0)::(r 613)::(n 441 0)::(n 0 0)::(r 620)::(n 455 0)::(n 0 0)::(r 627)::(n 464 0)::(n 0 0)::(r 634)::(n 466 0)::(n 0 0)::(r 641)::(n 474 0)::(n 0 0)::(r 648)::(n 480 0)::(n 0 0)::(r 655)::(n 488 0)::(n 0 0)::(r 662)::(n 493 0)::(n 0 0)::(r 669)::[]))),List.toArray ([])⟩
noncomputable def o306 (P:Q):O:=tup ((s "v" 897)::[])
noncomputable def o307 (P:Q):O:=raw (stAt 53) (S "reduce_nand")
noncomputable def o308 (P:Q):O:=cO "reduce_nand" "reduce_nand" 894 332 1 496 898
noncomputable def o309 (P:Q):O:=fobj (stAt 53) (S "reduce_nand") (s "gateloom.vecops" 819) (r 501) .none
noncomputable def o310 (P:Q):O:=tup ((s "v" 904)::[])
noncomputable def o311 (P:Q):O:=raw (stAt 54) (S "reduce_or")
noncomputable def o312 (P:Q):O:=cO "reduce_or" "reduce_or" 901 334 1 503 905
noncomputable def o313 (P:Q):O:=fobj (stAt 54) (S "reduce_or") (s "gateloom.vecops" 819) (r 508) .none
noncomputable def o314 (P:Q):O:=tup ((s "v" 911)::[])
noncomputable def o315 (P:Q):O:=raw (stAt 55) (S "reduce_nor")
noncomputable def o316 (P:Q):O:=cO "reduce_nor" "reduce_nor" 908 336 1 510 912
noncomputable def o317 (P:Q):O:=fobj (stAt 55) (S "reduce_nor") (s "gateloom.vecops" 819) (r 515) .none
noncomputable def o318 (P:Q):O:=tup ((s "v" 918)::(s "parity" 919)::(s "rest" 920)::[])
noncomputable def o319 (P:Q):O:=raw (stAt 56) (S "reduce_xor")
noncomputable def o320 (P:Q):O:=cO "reduce_xor" "reduce_xor" 915 338 1 517 921
noncomputable def o321 (P:Q):O:=fobj (stAt 56) (S "reduce_xor") (s "gateloom.vecops" 819) (r 522) .none
noncomputable def o322 (P:Q):O:=tup ((s "v" 927)::[])
noncomputable def o323 (P:Q):O:=raw (stAt 57) (S "reduce_xnor")
noncomputable def o324 (P:Q):O:=cO "reduce_xnor" "reduce_xnor" 924 347 1 524 928
noncomputable def o325 (P:Q):O:=fobj (stAt 57) (S "reduce_xnor") (s "gateloom.vecops" 819) (r 529) .none
noncomputable def o326 (P:Q):O:=tup ((s "v" 934)::[])
noncomputable def o327 (P:Q):O:=raw (stAt 58) (S "logic_not")
noncomputable def o328 (P:Q):O:=cO "logic_not" "logic_not" 931 349 1 531 935
noncomputable def o329 (P:Q):O:=fobj (stAt 58) (S "logic_not") (s "gateloom.vecops" 819) (r 536) .none
noncomputable def o330 (P:Q):O:=tup ((s "u" 941)::(s "v" 942)::[])
noncomputable def o331 (P:Q):O:=raw (stAt 59) (S "logic_and")
noncomputable def o332 (P:Q):O:=cO "logic_and" "logic_and" 938 351 2 538 943
noncomputable def o333 (P:Q):O:=fobj (stAt 59) (S "logic_and") (s "gateloom.vecops" 819) (r 543) .none
noncomputable def o334 (P:Q):O:=tup ((s "u" 949)::(s "v" 950)::[])
noncomputable def o335 (P:Q):O:=raw (stAt 60) (S "logic_or")
noncomputable def o336 (P:Q):O:=cO "logic_or" "logic_or" 946 353 2 545 951
noncomputable def o337 (P:Q):O:=fobj (stAt 60) (S "logic_or") (s "gateloom.vecops" 819) (r 550) .none
noncomputable def o338 (P:Q):O:=tup ((s "u" 957)::(s "v" 958)::(s "unknown" 959)::[])
noncomputable def o339 (P:Q):O:=raw (stAt 61) (S "equal")
noncomputable def o340 (P:Q):O:=cO "equal" "equal" 954 355 2 552 960
noncomputable def o341 (P:Q):O:=fobj (stAt 61) (S "equal") (s "gateloom.vecops" 819) (r 557) .none
noncomputable def o342 (P:Q):O:=tup ((s "u" 966)::(s "v" 967)::[])
noncomputable def o343 (P:Q):O:=raw (stAt 62) (S "not_equal")
noncomputable def o344 (P:Q):O:=cO "not_equal" "not_equal" 963 360 2 559 968
noncomputable def o345 (P:Q):O:=fobj (stAt 62) (S "not_equal") (s "gateloom.vecops" 819) (r 564) .none
noncomputable def o346 (P:Q):O:=tup ((s "u" 974)::(s "v" 975)::[])
noncomputable def o347 (P:Q):O:=raw (stAt 63) (S "case_equal")
noncomputable def o348 (P:Q):O:=cO "case_equal" "case_equal" 971 362 2 566 976
noncomputable def o349 (P:Q):O:=fobj (stAt 63) (S "case_equal") (s "gateloom.vecops" 819) (r 571) .none
noncomputable def o350 (P:Q):O:=tup ((s "u" 982)::(s "v" 983)::[])
noncomputable def o351 (P:Q):O:=raw (stAt 64) (S "case_not_equal")
noncomputable def o352 (P:Q):O:=cO "case_not_equal" "case_not_equal" 979 364 2 573 984
noncomputable def o353 (P:Q):O:=fobj (stAt 64) (S "case_not_equal") (s "gateloom.vecops" 819) (r 578) .none
noncomputable def o354 (P:Q):O:=tup ((s "kind" 990)::(s "u" 991)::(s "v" 992)::(s "free" 993)::(s "care" 994)::[])
noncomputable def o355 (P:Q):O:=raw (stAt 65) (S "matches")
noncomputable def o356 (P:Q):O:=cO "matches" "matches" 987 366 3 580 995
noncomputable def o357 (P:Q):O:=fobj (stAt 65) (S "matches") (s "gateloom.vecops" 819) (r 585) .none
noncomputable def o358 (P:Q):O:=tup ((s "c" 1001)::(s "t" 1002)::(s "f" 1003)::(s "found" 1004)::(s "w" 1005)::(s "same" 1006)::(s "unknown" 1007)::[])
noncomputable def o359 (P:Q):O:=raw (stAt 66) (S "choose")
noncomputable def o360 (P:Q):O:=cO "choose" "choose" 998 374 3 587 1008
noncomputable def o361 (P:Q):O:=fobj (stAt 66) (S "choose") (s "gateloom.vecops" 819) (r 592) .none
noncomputable def o362 (P:Q):O:=tup ((s "op" 1016)::(s "u" 1017)::[])
noncomputable def o363 (P:Q):O:=raw (stAt 68) (S "unary")
noncomputable def o364 (P:Q):O:=cO "unary" "unary" 1013 385 2 594 1018
noncomputable def o365 (P:Q):O:=fobj (stAt 68) (S "unary") (s "gateloom.evaluate" 1011) (r 599) .none
noncomputable def o366 (P:Q):O:=tup ((s "op" 1024)::(s "u" 1025)::(s "v" 1026)::(s "signed" 1027)::[])
noncomputable def o367 (P:Q):O:=raw (stAt 69) (S "arithmetic")
noncomputable def o368 (P:Q):O:=cO "arithmetic" "arithmetic" 1021 405 4 601 1028
noncomputable def o369 (P:Q):O:=fobj (stAt 69) (S "arithmetic") (s "gateloom.evaluate" 1011) (r 606) .none
noncomputable def o370 (P:Q):O:=tup ((s "op" 1034)::(s "u" 1035)::(s "v" 1036)::(s "signed" 1037)::[])
noncomputable def o371 (P:Q):O:=raw (stAt 70) (S "comparison")
noncomputable def o372 (P:Q):O:=cO "comparison" "comparison" 1031 423 4 608 1038
noncomputable def o373 (P:Q):O:=fobj (stAt 70) (S "comparison") (s "gateloom.evaluate" 1011) (r 613) .none
noncomputable def o374 (P:Q):O:=tup ((s "op" 1044)::(s "u" 1045)::(s "v" 1046)::[])
noncomputable def o375 (P:Q):O:=raw (stAt 71) (S "bitwise")
noncomputable def o376 (P:Q):O:=cO "bitwise" "bitwise" 1041 441 3 615 1047
noncomputable def o377 (P:Q):O:=fobj (stAt 71) (S "bitwise") (s "gateloom.evaluate" 1011) (r 620) .none
noncomputable def o378 (P:Q):O:=tup ((s "op" 1053)::(s "u" 1054)::(s "v" 1055)::(s "signed" 1056)::(s "value" 1057)::[])
noncomputable def o379 (P:Q):O:=raw (stAt 72) (S "binary")
noncomputable def o380 (P:Q):O:=cO "binary" "binary" 1050 455 4 622 1058
noncomputable def o381 (P:Q):O:=fobj (stAt 72) (S "binary") (s "gateloom.evaluate" 1011) (r 627) .none
noncomputable def o382 (P:Q):O:=tup ((s "e" 1064)::(s "signed" 1065)::(s "ctx" 1066)::[])
noncomputable def o383 (P:Q):O:=raw (stAt 73) (S "whole_of")
noncomputable def o384 (P:Q):O:=cO "whole_of" "whole_of" 1061 464 3 629 1067
noncomputable def o385 (P:Q):O:=fobj (stAt 73) (S "whole_of") (s "gateloom.evaluate" 1011) (r 634) .none
noncomputable def o386 (P:Q):O:=tup ((s "e" 1073)::(s "ctx" 1074)::(s "index" 1075)::(s "place" 1076)::[])
noncomputable def o387 (P:Q):O:=raw (stAt 74) (S "memory_word")
noncomputable def o388 (P:Q):O:=cO "memory_word" "memory_word" 1070 466 2 636 1077
noncomputable def o389 (P:Q):O:=fobj (stAt 74) (S "memory_word") (s "gateloom.evaluate" 1011) (r 641) .none
noncomputable def o390 (P:Q):O:=tup ((s "e" 1083)::(s "ctx" 1084)::(s "value" 1085)::(s "index" 1086)::[])
noncomputable def o391 (P:Q):O:=raw (stAt 75) (S "picked")
noncomputable def o392 (P:Q):O:=cO "picked" "picked" 1080 474 2 643 1087
noncomputable def o393 (P:Q):O:=fobj (stAt 75) (S "picked") (s "gateloom.evaluate" 1011) (r 648) .none
noncomputable def o394 (P:Q):O:=tup ((s "e" 1093)::(s "ctx" 1094)::(s "condition" 1095)::(s "known" 1096)::[])
noncomputable def o395 (P:Q):O:=raw (stAt 76) (S "conditional")
noncomputable def o396 (P:Q):O:=cO "conditional" "conditional" 1090 480 2 650 1097
noncomputable def o397 (P:Q):O:=fobj (stAt 76) (S "conditional") (s "gateloom.evaluate" 1011) (r 655) .none
noncomputable def o398 (P:Q):O:=tup ((s "n" 1103)::(s "k" 1104)::[])
noncomputable def o399 (P:Q):O:=raw (stAt 77) (S "bits_needed")
noncomputable def o400 (P:Q):O:=cO "bits_needed" "bits_needed" 1100 488 1 657 1105
noncomputable def o401 (P:Q):O:=fobj (stAt 77) (S "bits_needed") (s "gateloom.evaluate" 1011) (r 662) .none
noncomputable def o402 (P:Q):O:=tup ((s "e" 1111)::(s "ctx" 1112)::(s "w" 1113)::(s "name" 1114)::(s "n" 1115)::[])
noncomputable def o403 (P:Q):O:=raw (stAt 78) (S "system_value")
noncomputable def o404 (P:Q):O:=cO "system_value" "system_value" 1108 493 2 664 1116
noncomputable def o405 (P:Q):O:=fobj (stAt 78) (S "system_value") (s "gateloom.evaluate" 1011) (r 669) .none
noncomputable def e141 (P:Q):D:=(e P "__name__" 165 (s "gateloom.funcs" 1179))
noncomputable def e142 (P:Q):D:=(e P "evaluate" 1125 (r 675))
noncomputable def e143 (P:Q):D:=(e P "locate" 1134 (r 682))
noncomputable def e144 (P:Q):D:=(e P "holder_width" 1142 (r 689))
noncomputable def e145 (P:Q):D:=(e P "resolve_target" 1161 (r 696))
noncomputable def e146 (P:Q):D:=(e P "store_rows" 1178 (r 703))
noncomputable def e147 (P:Q):D:=(e P "DEPTH_LIMIT" 1182 (n 24 1181))
noncomputable def e148 (P:Q):D:=(e P "FunctionContext" 1249 (r 747))
noncomputable def e149 (P:Q):D:=(e P "run_block" 1259 (r 756))
noncomputable def e150 (P:Q):D:=(e P "run_set" 1269 (r 763))
noncomputable def e151 (P:Q):D:=(e P "run_case" 1282 (r 770))
noncomputable def e152 (P:Q):D:=(e P "run_while" 1293 (r 777))
noncomputable def e153 (P:Q):D:=(e P "run_repeat" 1303 (r 784))
noncomputable def e154 (P:Q):D:=(e P "run_for" 1311 (r 791))
noncomputable def e155 (P:Q):D:=(e P "run_statement" 1320 (r 798))
noncomputable def o406 (P:Q):O:=⟨(.type "dict"),none,(.dict (List.toArray (e141 P::e3 P::e4 P::e5 P::e6 P::e7 P::e8 P::e9 P::e10 P::e11 P::e12 P::e13 P::e14 P::e37 P::e38 P::e39 P::e40 P::e41 P::e42 P::e43 P::e44 P::e45 P::e46 P::e47 P::e48 P::e49 P::e61 P::e62 P::e63 P::e64 P::e65 P::e66 P::e90 P::e91 P::e92 P::e93 P::e94 P::e95 P::e96 P::e97 P::e98 P::e99 P::e100 P::e101 P::e102 P::e103 P::e104 P::e105 P::e106 P::e107 P::e108 P::e109 P::e110 P::e111 P::e112 P::e113 P::e115 P::e116 P::e117 P::e118 P::e119 P::e120 P::e121 P::e122 P::e123 P::e124 P::e125 P::e126 P::e127 P::e128 P::e129 P::e130 P::e131 P::e132 P::e133 P::e134 P::e135 P::e136 P::e137 P::e138 P::e139 P::e140 P::e142 P::e143 P::e144 P::e145 P::e146 P::e147 P::e148 P::e149 P::e150 P::e151 P::e152 P::e153 P::e154 P::e155 P::[])) 96),List.toArray ([])⟩
noncomputable def o407 (P:Q):O:=⟨.none,none,(.fields (List.toArray ((n 1 0)::(n 0 0)::(r 20)::(n 5 0)::(n 0 0)::(r 27)::(n 7 0)::(n 0 0)::(r 34)::(n 47 0)::(n 0 0)::(r 97)::(n 53 0)::(n 0 0)::(r 118)::(n 55 0)::(n 0 0)::(r 130)::(n 58 0)::(n 0 0)::(r 142)::(n 60 0)::(n 0 0)::(r 150)::(n 63 0)::(n 0 0)::(r 157)::(n 65 0)::(n 0 0)::(r 164)::(n 68 0)::(n 0 0)::(r 171)::(n 70 0)::(n 0 0)::(r 178)::(n 72 0)::(n 0 0)::(r 185)::(n 74 0)::(n 0 0)::(r 192)::(n 81 0)::(n 0 0)::(r 199)::(n 83 0)::(n 0 0)::(r 206)::(n 94 0)::(n 0 0)::(r 213)::(n 105 0)::(n 0 0)::(r 220)::(n 114 0)::(n 0 0)::(r 227)::(n 124 0)::(n 0 0)::(r 234)::(n 126 0)::(n 0 0)::(r 241)::(n 133 0)::(n 0 0)::(r 248)::(n 179 0)::(n 0 0)::(r 290)::(n 199 0)::(n 0 0)::(r 333)::(n 203 0)::(n 0 0)::(r 340)::(n 207 0)::(n 0 0)::(r 347)::(n 211 0)::(n 0 0)::(r 354)::(n 215 0)::(n 0 0)::(r 361)::(n 220 0)::(n 0 0)::(r 368)::(n 226 0)::(n 0 0)::(r 375)::(n 232 0)::(n 0 0)::(r 382)::(n 243 0)::(n 0 0)::(r 389)::(n 258 0)::(n 0 0)::(r 396)::(n 266 0)::(n 0 0)::(r 403)::(n 273 0)::(n 0 0)::(r 410)::(n 283 0)::(n 0 0)::(r 417)::(n 291 0)::(n 0 0)::(r 424)::(n 296 0)::(n 0 0)::(r 431)::(n 301 0)::(n 0 0)::(r 438)::(n 303 0)::(n 0 0)::(r 445)::(n 306 0)::(n 0 0)::(r 452)::(n 308 0)::(n 0 0)::(r 459)::(n 311 0)::(n 0 0)::(r 466)::(n 316 0)::(n 0 0)::(r 473)::(n 322 0)::(n 0 0)::(r 480)::(n 325 0)::(n 0 0)::(r 487)::(n 327 0)::(n 0 0)::(r 494)::(n 332 0)::(n 0 0)::(r 501)::(n 334 0)::(n 0 0)::(r 508)::(n 336 0)::(n 0 0)::(r 515)::(n 338 0)::(n 0 0)::(r 522)::(n 347 0)::(n 0 0)::(r 529)::(n 349 0)::(n 0 0)::(r 536)::(n 351 0)::(n 0 0)::(r 543)::(n 353 0)::(n 0 0)::(r 550)::(n 355 0)::(n 0 0)::(r 557)::(n 360 0)::(n 0 0)::(r 564)::(n 362 0)::(n 0 0)::(r 571)::(n 364 0)::(n 0 0)::(r 578)::(n 366 0)::(n 0 0)::(r 585)::(n 374 0)::(n 0 0)::(r 592)::(n 385 0)::(n 0 0)::(r 599)::(n 405 0)::(n 0 0)::(r 606)::(n 423 0)::(n 0 0)::(r 613)::(n 441 0)::(n 0 0)::(r 620)::(n 455 0)::(n 0 0)::(r 627)::(n 464 0)::(n 0 0)::(r 634)::(n 466 0)::(n 0 0)::(r 641)::(n 474 0)::(n 0 0)::(r 648)::(n 480 0)::(n 0 0)::(r 655)::(n 488 0)::(n 0 0)::(r 662)::(n 493 0)::(n 0 0)::(r 669)::(n 507 0)::(n 0 0)::(r 674)::(n 538 0)::(n 0 0)::(r 681)::(n 545 0)::(n 0 0)::(r 688)::(n 549 0)::(n 0 0)::(r 695)::(n 568 0)::(n 0 0)::(r 702)::(n 580 0)::(n 0 0)::(r 709)::(n 623 0)::(n 0 0)::(r 755)::(n 631 0)::(n 0 0)::(r 762)::(n 638 0)::(n 0 0)::(r 769)::(n 649 0)::(n 0 0)::(r 776)::(n 657 0)::(n 0 0)::(r 783)::(n 668 0)::(n 0 0)::(r 790)::(n 671 0)::(n 0 0)::(r 797)::[]))),List.toArray ([])⟩
noncomputable def o408 (P:Q):O:=⟨(.type "type"),none,(.cls { name:=(S "Context"),bases:=(.type "object")::[],mro:=(r 323)::(.type "object")::[],ns:=322,qualname:=(S "Context"),hasDict:=true,slotNames:=[],subclasses:=(r 747)::[],abstract:=false,collection:=none,hasDel:=false }),List.toArray (none::none::(some (s "Context" 587))::(some (s "Context" 595))::(some (.builtin "object.__new__"))::(some (.bool true))::[])⟩
noncomputable def o409 (P:Q):O:=raw (stAt 80) (S "evaluate")
noncomputable def o410 (P:Q):O:=⟨(.type "code"),none,(.fields (List.toArray ((s "evaluate" 1120)::(s "evaluate" 1121)::(s "/claim/cut.py" 1122)::(n 507 0)::(n 2 0)::(n 0 0)::(n 0 0)::(n 3 0)::(r 671)::(.bool true)::(n 181 0)::(r 672)::.none::.none::.none::(r 673)::(n 1123 0)::(n 507 0)::(s "/claim/cut.py" 1124)::[]))),List.toArray ([])⟩
noncomputable def o411 (P:Q):O:=fobj (stAt 80) (S "evaluate") (s "gateloom.evaluate" 1011) (r 674) .none
noncomputable def o412 (P:Q):O:=tup ((s "where" 1129)::(s "ctx" 1130)::(s "index" 1131)::[])
noncomputable def o413 (P:Q):O:=raw (stAt 81) (S "locate")
noncomputable def o414 (P:Q):O:=cO "locate" "locate" 1126 538 2 676 1132
noncomputable def o415 (P:Q):O:=fobj (stAt 81) (S "locate") (s "gateloom.evaluate" 1011) (r 681) .none
noncomputable def o416 (P:Q):O:=tup ((s "part" 1138)::(s "ctx" 1139)::[])
noncomputable def o417 (P:Q):O:=raw (stAt 82) (S "holder_width")
noncomputable def o418 (P:Q):O:=cO "holder_width" "holder_width" 1135 545 2 683 1140
noncomputable def o419 (P:Q):O:=fobj (stAt 82) (S "holder_width") (s "gateloom.evaluate" 1011) (r 688) .none
noncomputable def o420 (P:Q):O:=tup ((s "lv" 1146)::(s "ctx" 1147)::(s "rows" 1148)::(s "take" 1149)::(s "part" 1150)::(s "kind" 1151)::(s "w" 1152)::(s "ref" 1153)::(s "word" 1154)::(s "where" 1155)::(s "place" 1156)::(s "index" 1157)::(s "lo" 1158)::[])
noncomputable def o421 (P:Q):O:=raw (stAt 83) (S "resolve_target")
noncomputable def o422 (P:Q):O:=cO "resolve_target" "resolve_target" 1143 549 2 690 1159
noncomputable def o423 (P:Q):O:=fobj (stAt 83) (S "resolve_target") (s "gateloom.evaluate" 1011) (r 695) .none
noncomputable def o424 (P:Q):O:=tup ((s "rows" 1165)::(s "value" 1166)::(s "ctx" 1167)::(s "changed" 1168)::(s "kind" 1169)::(s "ref" 1170)::(s "place" 1171)::(s "lo" 1172)::(s "w" 1173)::(s "take" 1174)::(s "piece" 1175)::[])
noncomputable def o425 (P:Q):O:=raw (stAt 84) (S "store_rows")
noncomputable def o426 (P:Q):O:=cO "store_rows" "store_rows" 1162 568 3 697 1176
noncomputable def o427 (P:Q):O:=fobj (stAt 84) (S "store_rows") (s "gateloom.evaluate" 1011) (r 702) .none
noncomputable def o428 (P:Q):O:=tup ((r 323)::[])
noncomputable def e156 (P:Q):D:=(e P "__module__" 1190 (s "gateloom.funcs" 1179))
noncomputable def e157 (P:Q):D:=(e P "__qualname__" 1192 (s "FunctionContext" 1191))
noncomputable def e158 (P:Q):D:=(e P "__firstlineno__" 1194 (n 580 1193))
noncomputable def e159 (P:Q):D:=(e P "__init__" 1207 (r 718))
noncomputable def e160 (P:Q):D:=(e P "call" 1219 (r 725))
noncomputable def e161 (P:Q):D:=(e P "new_frame" 1225 (r 730))
noncomputable def e162 (P:Q):D:=(e P "burn" 1232 (r 737))
noncomputable def e163 (P:Q):D:=(e P "is_true" 1240 (r 744))
noncomputable def e164 (P:Q):D:=(e P "__static_attributes__" 1246 (r 745))
noncomputable def o429 (P:Q):O:=⟨(.type "dict"),none,(.dict (List.toArray (e156 P::e157 P::e158 P::e159 P::e160 P::e161 P::e162 P::e163 P::e164 P::[])) 9),List.toArray ([])⟩
noncomputable def o430 (P:Q):O:=⟨.none,none,(.fields (List.toArray ((n 582 0)::(n 4 0)::(r 717)::(n 589 0)::(n 4 0)::(r 724)::(n 604 0)::(n 4 0)::(r 729)::(n 616 0)::(n 4 0)::(r 736)::(n 621 0)::(n 4 0)::(r 743)::[]))),List.toArray ([])⟩
noncomputable def o431 (P:Q):O:=⟨(.type "code"),none,(.fields (List.toArray ((s "FunctionContext" 1185)::(s "FunctionContext" 1186)::(s "/claim/cut.py" 1187)::(n 580 0)::(n 0 0)::(n 0 0)::(n 0 0)::(n 0 0)::(r 707)::(.bool false)::(n 181 0)::(r 708)::.none::.none::.none::.none::(n 1188 0)::(n 580 0)::(s "/claim/cut.py" 1189)::[]))),List.toArray ([])⟩
noncomputable def o432 (P:Q):O:=⟨(.type "frame"),none,.plain,List.toArray ((some (r 709))::(some (r 3))::(some (r 706))::none::(some (s "gateloom.funcs" 1179))::none::(some (r 0))::[])⟩
noncomputable def o433 (P:Q):O:=tup ((n 10000 1195)::[])
noncomputable def o434 (P:Q):O:=tup ((s "self" 1199)::(s "design" 1200)::(s "store" 1201)::(s "frame" 1202)::(s "now" 1203)::(s "fuel" 1204)::[])
noncomputable def o435 (P:Q):O:=raw (mAt 87 0) (S "FunctionContext.__init__")
noncomputable def o436 (P:Q):O:=cO "__init__" "FunctionContext.__init__" 1196 582 6 712 1205
noncomputable def o437 (P:Q):O:=fobj (mAt 87 0) (S "FunctionContext.__init__") (s "gateloom.funcs" 1179) (r 717) (r 711)
noncomputable def o438 (P:Q):O:=tup ((s "self" 1211)::(s "number" 1212)::(s "args" 1213)::(s "routine" 1214)::(s "caller" 1215)::(s "value" 1216)::[])
noncomputable def o439 (P:Q):O:=raw (mAt 87 1) (S "FunctionContext.call")
noncomputable def o440 (P:Q):O:=cO "call" "FunctionContext.call" 1208 589 3 719 1217
noncomputable def o441 (P:Q):O:=fobj (mAt 87 1) (S "FunctionContext.call") (s "gateloom.funcs" 1179) (r 724) .none
noncomputable def o442 (P:Q):O:=raw (mAt 87 2) (S "FunctionContext.new_frame")
noncomputable def o443 (P:Q):O:=⟨(.type "code"),none,(.fields (List.toArray ((s "new_frame" 1220)::(s "FunctionContext.new_frame" 1221)::(s "/claim/cut.py" 1222)::(n 604 0)::(n 3 0)::(n 0 0)::(n 0 0)::(n 3 0)::(r 726)::(.bool true)::(n 181 0)::(r 727)::.none::.none::.none::(r 728)::(n 1223 0)::(n 604 0)::(s "/claim/cut.py" 1224)::[]))),List.toArray ([])⟩
noncomputable def o444 (P:Q):O:=fobj (mAt 87 2) (S "FunctionContext.new_frame") (s "gateloom.funcs" 1179) (r 729) .none
noncomputable def o445 (P:Q):O:=tup ((s "self" 1229)::[])
noncomputable def o446 (P:Q):O:=raw (mAt 87 3) (S "FunctionContext.burn")
noncomputable def o447 (P:Q):O:=cO "burn" "FunctionContext.burn" 1226 616 1 731 1230
noncomputable def o448 (P:Q):O:=fobj (mAt 87 3) (S "FunctionContext.burn") (s "gateloom.funcs" 1179) (r 736) .none
noncomputable def o449 (P:Q):O:=tup ((s "self" 1236)::(s "e" 1237)::[])
noncomputable def o450 (P:Q):O:=raw (mAt 87 4) (S "FunctionContext.is_true")
noncomputable def o451 (P:Q):O:=cO "is_true" "FunctionContext.is_true" 1233 621 2 738 1238
noncomputable def o452 (P:Q):O:=fobj (mAt 87 4) (S "FunctionContext.is_true") (s "gateloom.funcs" 1179) (r 743) .none
noncomputable def o453 (P:Q):O:=tup ((s "depth" 1241)::(s "design" 1242)::(s "frame" 1243)::(s "fuel" 1244)::(s "written" 1245)::[])
noncomputable def e165 (P:Q):D:=(e P "__doc__" 1247 .none)
noncomputable def o454 (P:Q):O:=⟨(.type "dict"),none,(.dict (List.toArray (e156 P::e158 P::e159 P::e160 P::e161 P::e162 P::e163 P::e164 P::e165 P::[])) 2),List.toArray ([])⟩
noncomputable def o455 (P:Q):O:=⟨(.type "type"),none,(.cls { name:=(S "FunctionContext"),bases:=(r 323)::[],mro:=(r 747)::(r 323)::(.type "object")::[],ns:=746,qualname:=(S "FunctionContext"),hasDict:=true,slotNames:=[],subclasses:=[],abstract:=false,collection:=none,hasDel:=false }),List.toArray ((some (r 704))::none::(some (s "FunctionContext" 1183))::(some (s "FunctionContext" 1191))::(some (.builtin "object.__new__"))::(some (.bool true))::[])⟩
noncomputable def o456 (P:Q):O:=⟨(.type "super"),none,(.fields (List.toArray ((r 747)::(r 747)::(r 747)::[]))),List.toArray ([])⟩
noncomputable def o457 (P:Q):O:=⟨(.type "builtin_function_or_method"),none,(.fields (List.toArray ((.builtin "object.__init_subclass__")::(r 747)::[]))),List.toArray ([])⟩
noncomputable def o458 (P:Q):O:=tup ((s "s" 1253)::(s "ctx" 1254)::(s "inner" 1255)::(s "disabled" 1256)::[])
noncomputable def o459 (P:Q):O:=raw (stAt 88) (S "run_block")
noncomputable def o460 (P:Q):O:=cO "run_block" "run_block" 1250 623 2 750 1257
noncomputable def o461 (P:Q):O:=fobj (stAt 88) (S "run_block") (s "gateloom.funcs" 1179) (r 755) .none
noncomputable def o462 (P:Q):O:=tup ((s "s" 1263)::(s "ctx" 1264)::(s "value" 1265)::(s "key" 1266)::[])
noncomputable def o463 (P:Q):O:=raw (stAt 89) (S "run_set")
noncomputable def o464 (P:Q):O:=cO "run_set" "run_set" 1260 631 2 757 1267
noncomputable def o465 (P:Q):O:=fobj (stAt 89) (S "run_set") (s "gateloom.funcs" 1179) (r 762) .none
noncomputable def o466 (P:Q):O:=tup ((s "s" 1273)::(s "ctx" 1274)::(s "value" 1275)::(s "default" 1276)::(s "labels" 1277)::(s "inner" 1278)::(s "label" 1279)::[])
noncomputable def o467 (P:Q):O:=raw (stAt 90) (S "run_case")
noncomputable def o468 (P:Q):O:=cO "run_case" "run_case" 1270 638 2 764 1280
noncomputable def o469 (P:Q):O:=fobj (stAt 90) (S "run_case") (s "gateloom.funcs" 1179) (r 769) .none
noncomputable def o470 (P:Q):O:=tup ((s "condition" 1286)::(s "body" 1287)::(s "step" 1288)::(s "ctx" 1289)::(s "disabled" 1290)::[])
noncomputable def o471 (P:Q):O:=raw (stAt 91) (S "run_while")
noncomputable def o472 (P:Q):O:=cO "run_while" "run_while" 1283 649 4 771 1291
noncomputable def o473 (P:Q):O:=fobj (stAt 91) (S "run_while") (s "gateloom.funcs" 1179) (r 776) .none
noncomputable def o474 (P:Q):O:=tup ((s "s" 1297)::(s "ctx" 1298)::(s "count" 1299)::(s "disabled" 1300)::[])
noncomputable def o475 (P:Q):O:=raw (stAt 92) (S "run_repeat")
noncomputable def o476 (P:Q):O:=cO "run_repeat" "run_repeat" 1294 657 2 778 1301
noncomputable def o477 (P:Q):O:=fobj (stAt 92) (S "run_repeat") (s "gateloom.funcs" 1179) (r 783) .none
noncomputable def o478 (P:Q):O:=tup ((s "s" 1307)::(s "ctx" 1308)::[])
noncomputable def o479 (P:Q):O:=raw (stAt 93) (S "run_for")
noncomputable def o480 (P:Q):O:=cO "run_for" "run_for" 1304 668 2 785 1309
noncomputable def o481 (P:Q):O:=fobj (stAt 93) (S "run_for") (s "gateloom.funcs" 1179) (r 790) .none
noncomputable def o482 (P:Q):O:=tup ((s "s" 1315)::(s "ctx" 1316)::(s "tag" 1317)::[])
noncomputable def o483 (P:Q):O:=raw (stAt 94) (S "run_statement")
noncomputable def o484 (P:Q):O:=cO "run_statement" "run_statement" 1312 671 2 792 1318
noncomputable def o485 (P:Q):O:=fobj (stAt 94) (S "run_statement") (s "gateloom.funcs" 1179) (r 797) .none
noncomputable def e166 (P:Q):D:=(e P "__name__" 165 (s "gateloom.elabparts" 1446))
noncomputable def e167 (P:Q):D:=(e P "children" 1330 (r 805))
noncomputable def e168 (P:Q):D:=(e P "subexpressions" 1341 (r 812))
noncomputable def e169 (P:Q):D:=(e P "expr_reads" 1350 (r 819))
noncomputable def e170 (P:Q):D:=(e P "expr_calls" 1359 (r 826))
noncomputable def e171 (P:Q):D:=(e P "target_indexes" 1368 (r 833))
noncomputable def e172 (P:Q):D:=(e P "target_writes" 1377 (r 840))
noncomputable def e173 (P:Q):D:=(e P "stmt_parts" 1383 (r 845))
noncomputable def e174 (P:Q):D:=(e P "substatements" 1394 (r 852))
noncomputable def e175 (P:Q):D:=(e P "stmt_targets" 1400 (r 857))
noncomputable def e176 (P:Q):D:=(e P "stmt_exprs" 1412 (r 864))
noncomputable def e177 (P:Q):D:=(e P "stmt_reads" 1423 (r 871))
noncomputable def e178 (P:Q):D:=(e P "stmt_writes" 1434 (r 878))
noncomputable def e179 (P:Q):D:=(e P "stmt_calls" 1445 (r 885))
noncomputable def e180 (P:Q):D:=(e P "MAX_WIDTH" 1449 (n 65536 1448))
noncomputable def e181 (P:Q):D:=(e P "last_select" 1458 (r 892))
noncomputable def e182 (P:Q):D:=(e P "is_memory" 1466 (r 899))
noncomputable def e183 (P:Q):D:=(e P "shape" 1476 (r 906))
noncomputable def e184 (P:Q):D:=(e P "shape_elabparts" 1477 (r 906))
noncomputable def e185 (P:Q):D:=(e P "read_entry" 1487 (r 913))
noncomputable def e186 (P:Q):D:=(e P "folds" 1494 (r 920))
noncomputable def e187 (P:Q):D:=(e P "folded" 1502 (r 927))
noncomputable def e188 (P:Q):D:=(e P "checked_width" 1510 (r 934))
noncomputable def e189 (P:Q):D:=(e P "selected" 1519 (r 941))
noncomputable def e190 (P:Q):D:=(e P "text_vec" 1528 (r 948))
noncomputable def e191 (P:Q):D:=(e P "inner_join" 1535 (r 955))
noncomputable def e192 (P:Q):D:=(e P "is_context_operator" 1542 (r 962))
noncomputable def o486 (P:Q):O:=⟨(.type "dict"),none,(.dict (List.toArray (e166 P::e3 P::e4 P::e5 P::e6 P::e7 P::e8 P::e9 P::e10 P::e11 P::e12 P::e13 P::e14 P::e37 P::e38 P::e39 P::e40 P::e41 P::e42 P::e43 P::e44 P::e45 P::e46 P::e47 P::e48 P::e49 P::e61 P::e62 P::e63 P::e64 P::e65 P::e66 P::e90 P::e91 P::e92 P::e93 P::e94 P::e95 P::e96 P::e97 P::e98 P::e99 P::e100 P::e101 P::e102 P::e103 P::e104 P::e105 P::e106 P::e107 P::e108 P::e109 P::e110 P::e111 P::e112 P::e113 P::e115 P::e116 P::e117 P::e118 P::e119 P::e120 P::e121 P::e122 P::e123 P::e124 P::e125 P::e126 P::e127 P::e128 P::e129 P::e130 P::e131 P::e132 P::e133 P::e134 P::e135 P::e136 P::e137 P::e138 P::e139 P::e140 P::e142 P::e143 P::e144 P::e145 P::e146 P::e147 P::e148 P::e149 P::e150 P::e151 P::e152 P::e153 P::e154 P::e155 P::e167 P::e168 P::e169 P::e170 P::e171 P::e172 P::e173 P::e174 P::e175 P::e176 P::e177 P::e178 P::e179 P::e180 P::e181 P::e182 P::e183 P::e184 P::e185 P::e186 P::e187 P::e188 P::e189 P::e190 P::e191 P::e192 P::[])) 122),List.toArray ([])⟩
noncomputable def o487 (P:Q):O:=⟨.none,none,(.fields (List.toArray ((n 1 0)::(n 0 0)::(r 20)::(n 5 0)::(n 0 0)::(r 27)::(n 7 0)::(n 0 0)::(r 34)::(n 47 0)::(n 0 0)::(r 97)::(n 53 0)::(n 0 0)::(r 118)::(n 55 0)::(n 0 0)::(r 130)::(n 58 0)::(n 0 0)::(r 142)::(n 60 0)::(n 0 0)::(r 150)::(n 63 0)::(n 0 0)::(r 157)::(n 65 0)::(n 0 0)::(r 164)::(n 68 0)::(n 0 0)::(r 171)::(n 70 0)::(n 0 0)::(r 178)::(n 72 0)::(n 0 0)::(r 185)::(n 74 0)::(n 0 0)::(r 192)::(n 81 0)::(n 0 0)::(r 199)::(n 83 0)::(n 0 0)::(r 206)::(n 94 0)::(n 0 0)::(r 213)::(n 105 0)::(n 0 0)::(r 220)::(n 114 0)::(n 0 0)::(r 227)::(n 124 0)::(n 0 0)::(r 234)::(n 126 0)::(n 0 0)::(r 241)::(n 133 0)::(n 0 0)::(r 248)::(n 179 0)::(n 0 0)::(r 290)::(n 199 0)::(n 0 0)::(r 333)::(n 203 0)::(n 0 0)::(r 340)::(n 207 0)::(n 0 0)::(r 347)::(n 211 0)::(n 0 0)::(r 354)::(n 215 0)::(n 0 0)::(r 361)::(n 220 0)::(n 0 0)::(r 368)::(n 226 0)::(n 0 0)::(r 375)::(n 232 0)::(n 0 0)::(r 382)::(n 243 0)::(n 0 0)::(r 389)::(n 258 0)::(n 0 0)::(r 396)::(n 266 0)::(n 0 0)::(r 403)::(n 273 0)::(n 0 0)::(r 410)::(n 283 0)::(n 0 0)::(r 417)::(n 291 0)::(n 0 0)::(r 424)::(n 296 0)::(n 0 0)::(r 431)::(n 301 0)::(n 0 0)::(r 438)::(n 303 0)::(n 0 0)::(r 445)::(n 306 0)::(n 0 0)::(r 452)::(n 308 0)::(n 0 0)::(r 459)::(n 311 0)::(n 0 0)::(r 466)::(n 316 0)::(n 0 0)::(r 473)::(n 322 0)::(n 0 0)::(r 480)::(n 325 0)::(n 0 0)::(r 487)::(n 327 0)::(n 0 0)::(r 494)::(n 332 0)::(n 0 0)::(r 501)::(n 334 0)::(n 0 0)::(r 508)::(n 336 0)::(n 0 0)::(r 515)::(n 338 0)::(n 0 0)::(r 522)::(n 347 0)::(n 0 0)::(r 529)::(n 349 0)::(n 0 0)::(r 536)::(n 351 0)::(n 0 0)::(r 543)::(n 353 0)::(n 0 0)::(r 550)::(n 355 0)::(n 0 0)::(r 557)::(n 360 0)::(n 0 0)::(r 564)::(n 362 0)::(n 0 0)::(r 571)::(n 364 0)::(n 0 0)::(r 578)::(n 366 0)::(n 0 0)::(r 585)::(n 374 0)::(n 0 0)::(r 592)::(n 385 0)::(n 0 0)::(r 599)::(n 405 0)::(n 0 0)::(r 606)::(n 423 0)::(n 0 0)::(r 613)::(n 441 0)::(n 0 0)::(r 620)::(n 455 0)::(n 0 0)::(r 627)::(n 464 0)::(n 0 0)::(r 634)::(n 466 0)::(n 0 0)::(r 641)::(n 474 0)::(n 0 0)::(r 648)::(n 480 0)::(n 0 0)::(r 655)::(n 488 0)::(n 0 0)::(r 662)::(n 493 0)::(n 0 0)::(r 669)::(n 507 0)::(n 0 0)::(r 674)::(n 538 0)::(n 0 0)::(r 681)::(n 545 0)::(n 0 0)::(r 688)::(n 549 0)::(n 0 0)::(r 695)::(n 568 0)::(n 0 0)::(r 702)::(n 580 0)::(n 0 0)::(r 709)::(n 623 0)::(n 0 0)::(r 755)::(n 631 0)::(n 0 0)::(r 762)::(n 638 0)::(n 0 0)::(r 769)::(n 649 0)::(n 0 0)::(r 776)::(n 657 0)::(n 0 0)::(r 783)::(n 668 0)::(n 0 0)::(r 790)::(n 671 0)::(n 0 0)::(r 797)::(n 698 0)::(n 0 0)::(r 804)::(n 717 0)::(n 0 0)::(r 811)::(n 726 0)::(n 0 0)::(r 818)::(n 732 0)::(n 0 0)::(r 825)::(n 738 0)::(n 0 0)::(r 832)::(n 746 0)::(n 0 0)::(r 839)::(n 752 0)::(n 0 0)::(r 844)::(n 770 0)::(n 0 0)::(r 851)::(n 781 0)::(n 0 0)::(r 856)::(n 787 0)::(n 0 0)::(r 863)::(n 812 0)::(n 0 0)::(r 870)::(n 819 0)::(n 0 0)::(r 877)::(n 826 0)::(n 0 0)::(r 884)::(n 837 0)::(n 0 0)::(r 891)::(n 842 0)::(n 0 0)::(r 898)::(n 844 0)::(n 0 0)::(r 905)::(n 862 0)::(n 0 0)::(r 912)::(n 873 0)::(n 0 0)::(r 919)::(n 877 0)::(n 0 0)::(r 926)::(n 884 0)::(n 0 0)::(r 933)::(n 890 0)::(n 0 0)::(r 940)::(n 894 0)::(n 0 0)::(r 947)::(n 899 0)::(n 0 0)::(r 954)::(n 901 0)::(n 0 0)::(r 961)::[]))),List.toArray ([])⟩
noncomputable def o488 (P:Q):O:=tup ((s "e" 1326)::(s "tag" 1327)::[])
noncomputable def o489 (P:Q):O:=raw (stAt 96) (S "children")
noncomputable def o490 (P:Q):O:=cO "children" "children" 1323 698 1 799 1328
noncomputable def o491 (P:Q):O:=fobj (stAt 96) (S "children") (s "gateloom.walks" 1321) (r 804) .none
noncomputable def o492 (P:Q):O:=tup ((s "e" 1334)::(s "found" 1335)::(s "stack" 1336)::(s "node" 1337)::(s "part" 1338)::[])
noncomputable def o493 (P:Q):O:=raw (stAt 97) (S "subexpressions")
noncomputable def o494 (P:Q):O:=cO "subexpressions" "subexpressions" 1331 717 1 806 1339
noncomputable def o495 (P:Q):O:=fobj (stAt 97) (S "subexpressions") (s "gateloom.walks" 1321) (r 811) .none
noncomputable def o496 (P:Q):O:=tup ((s "e" 1345)::(s "keys" 1346)::(s "node" 1347)::[])
noncomputable def o497 (P:Q):O:=raw (stAt 98) (S "expr_reads")
noncomputable def o498 (P:Q):O:=cO "expr_reads" "expr_reads" 1342 726 1 813 1348
noncomputable def o499 (P:Q):O:=fobj (stAt 98) (S "expr_reads") (s "gateloom.walks" 1321) (r 818) .none
noncomputable def o500 (P:Q):O:=tup ((s "e" 1354)::(s "numbers" 1355)::(s "node" 1356)::[])
noncomputable def o501 (P:Q):O:=raw (stAt 99) (S "expr_calls")
noncomputable def o502 (P:Q):O:=cO "expr_calls" "expr_calls" 1351 732 1 820 1357
noncomputable def o503 (P:Q):O:=fobj (stAt 99) (S "expr_calls") (s "gateloom.walks" 1321) (r 825) .none
noncomputable def o504 (P:Q):O:=tup ((s "lv" 1363)::(s "found" 1364)::(s "part" 1365)::[])
noncomputable def o505 (P:Q):O:=raw (stAt 100) (S "target_indexes")
noncomputable def o506 (P:Q):O:=cO "target_indexes" "target_indexes" 1360 738 1 827 1366
noncomputable def o507 (P:Q):O:=fobj (stAt 100) (S "target_indexes") (s "gateloom.walks" 1321) (r 832) .none
noncomputable def o508 (P:Q):O:=tup ((s "lv" 1372)::(s "keys" 1373)::(s "part" 1374)::[])
noncomputable def o509 (P:Q):O:=raw (stAt 101) (S "target_writes")
noncomputable def o510 (P:Q):O:=cO "target_writes" "target_writes" 1369 746 1 834 1375
noncomputable def o511 (P:Q):O:=fobj (stAt 101) (S "target_writes") (s "gateloom.walks" 1321) (r 839) .none
noncomputable def o512 (P:Q):O:=raw (stAt 102) (S "stmt_parts")
noncomputable def o513 (P:Q):O:=⟨(.type "code"),none,(.fields (List.toArray ((s "stmt_parts" 1378)::(s "stmt_parts" 1379)::(s "/claim/cut.py" 1380)::(n 752 0)::(n 1 0)::(n 0 0)::(n 0 0)::(n 3 0)::(r 841)::(.bool true)::(n 181 0)::(r 842)::.none::.none::.none::(r 843)::(n 1381 0)::(n 752 0)::(s "/claim/cut.py" 1382)::[]))),List.toArray ([])⟩
noncomputable def o514 (P:Q):O:=fobj (stAt 102) (S "stmt_parts") (s "gateloom.walks" 1321) (r 844) .none
noncomputable def o515 (P:Q):O:=tup ((s "s" 1387)::(s "found" 1388)::(s "stack" 1389)::(s "node" 1390)::(s "part" 1391)::[])
noncomputable def o516 (P:Q):O:=raw (stAt 103) (S "substatements")
noncomputable def o517 (P:Q):O:=cO "substatements" "substatements" 1384 770 1 846 1392
noncomputable def o518 (P:Q):O:=fobj (stAt 103) (S "substatements") (s "gateloom.walks" 1321) (r 851) .none
noncomputable def o519 (P:Q):O:=raw (stAt 104) (S "stmt_targets")
noncomputable def o520 (P:Q):O:=⟨(.type "code"),none,(.fields (List.toArray ((s "stmt_targets" 1395)::(s "stmt_targets" 1396)::(s "/claim/cut.py" 1397)::(n 781 0)::(n 1 0)::(n 0 0)::(n 0 0)::(n 3 0)::(r 853)::(.bool true)::(n 181 0)::(r 854)::.none::.none::.none::(r 855)::(n 1398 0)::(n 781 0)::(s "/claim/cut.py" 1399)::[]))),List.toArray ([])⟩
noncomputable def o521 (P:Q):O:=fobj (stAt 104) (S "stmt_targets") (s "gateloom.walks" 1321) (r 856) .none
noncomputable def o522 (P:Q):O:=tup ((s "s" 1404)::(s "tag" 1405)::(s "found" 1406)::(s "row" 1407)::(s "arg" 1408)::(s "lv" 1409)::[])
noncomputable def o523 (P:Q):O:=raw (stAt 105) (S "stmt_exprs")
noncomputable def o524 (P:Q):O:=cO "stmt_exprs" "stmt_exprs" 1401 787 1 858 1410
noncomputable def o525 (P:Q):O:=fobj (stAt 105) (S "stmt_exprs") (s "gateloom.walks" 1321) (r 863) .none
noncomputable def o526 (P:Q):O:=tup ((s "s" 1416)::(s "keys" 1417)::(s "node" 1418)::(s "e" 1419)::(s "key" 1420)::[])
noncomputable def o527 (P:Q):O:=raw (stAt 106) (S "stmt_reads")
noncomputable def o528 (P:Q):O:=cO "stmt_reads" "stmt_reads" 1413 812 1 865 1421
noncomputable def o529 (P:Q):O:=fobj (stAt 106) (S "stmt_reads") (s "gateloom.walks" 1321) (r 870) .none
noncomputable def o530 (P:Q):O:=tup ((s "s" 1427)::(s "keys" 1428)::(s "node" 1429)::(s "lv" 1430)::(s "key" 1431)::[])
noncomputable def o531 (P:Q):O:=raw (stAt 107) (S "stmt_writes")
noncomputable def o532 (P:Q):O:=cO "stmt_writes" "stmt_writes" 1424 819 1 872 1432
noncomputable def o533 (P:Q):O:=fobj (stAt 107) (S "stmt_writes") (s "gateloom.walks" 1321) (r 877) .none
noncomputable def o534 (P:Q):O:=tup ((s "s" 1438)::(s "numbers" 1439)::(s "node" 1440)::(s "e" 1441)::(s "number" 1442)::[])
noncomputable def o535 (P:Q):O:=raw (stAt 108) (S "stmt_calls")
noncomputable def o536 (P:Q):O:=cO "stmt_calls" "stmt_calls" 1435 826 1 879 1443
noncomputable def o537 (P:Q):O:=fobj (stAt 108) (S "stmt_calls") (s "gateloom.walks" 1321) (r 884) .none
noncomputable def o538 (P:Q):O:=tup ((s "e" 1453)::(s "name" 1454)::(s "index" 1455)::[])
noncomputable def o539 (P:Q):O:=raw (stAt 111) (S "last_select")
noncomputable def o540 (P:Q):O:=cO "last_select" "last_select" 1450 837 1 886 1456
noncomputable def o541 (P:Q):O:=fobj (stAt 111) (S "last_select") (s "gateloom.elabparts" 1446) (r 891) .none
noncomputable def o542 (P:Q):O:=tup ((s "scope" 1462)::(s "entry" 1463)::[])
noncomputable def o543 (P:Q):O:=raw (stAt 112) (S "is_memory")
noncomputable def o544 (P:Q):O:=cO "is_memory" "is_memory" 1459 842 2 893 1464
noncomputable def o545 (P:Q):O:=fobj (stAt 112) (S "is_memory") (s "gateloom.elabparts" 1446) (r 898) .none
noncomputable def o546 (P:Q):O:=tup ((s "scope" 1470)::(s "entry" 1471)::(s "at" 1472)::(s "signal" 1473)::[])
noncomputable def o547 (P:Q):O:=raw (stAt 113) (S "shape")
noncomputable def o548 (P:Q):O:=cO "shape" "shape" 1467 844 3 900 1474
noncomputable def o549 (P:Q):O:=fobj (stAt 113) (S "shape") (s "gateloom.elabparts" 1446) (r 905) .none
noncomputable def o550 (P:Q):O:=tup ((s "scope" 1481)::(s "entry" 1482)::(s "word" 1483)::(s "width" 1484)::[])
noncomputable def o551 (P:Q):O:=raw (stAt 115) (S "read_entry")
noncomputable def o552 (P:Q):O:=cO "read_entry" "read_entry" 1478 862 3 907 1485
noncomputable def o553 (P:Q):O:=fobj (stAt 115) (S "read_entry") (s "gateloom.elabparts" 1446) (r 912) .none
noncomputable def o554 (P:Q):O:=tup ((s "e" 1491)::[])
noncomputable def o555 (P:Q):O:=raw (stAt 116) (S "folds")
noncomputable def o556 (P:Q):O:=cO "folds" "folds" 1488 873 1 914 1492
noncomputable def o557 (P:Q):O:=fobj (stAt 116) (S "folds") (s "gateloom.elabparts" 1446) (r 919) .none
noncomputable def o558 (P:Q):O:=tup ((s "e" 1498)::(s "part" 1499)::[])
noncomputable def o559 (P:Q):O:=raw (stAt 117) (S "folded")
noncomputable def o560 (P:Q):O:=cO "folded" "folded" 1495 877 1 921 1500
noncomputable def o561 (P:Q):O:=fobj (stAt 117) (S "folded") (s "gateloom.elabparts" 1446) (r 926) .none
noncomputable def o562 (P:Q):O:=tup ((s "width" 1506)::(s "at" 1507)::[])
noncomputable def o563 (P:Q):O:=raw (stAt 118) (S "checked_width")
noncomputable def o564 (P:Q):O:=cO "checked_width" "checked_width" 1503 884 2 928 1508
noncomputable def o565 (P:Q):O:=fobj (stAt 118) (S "checked_width") (s "gateloom.elabparts" 1446) (r 933) .none
noncomputable def o566 (P:Q):O:=tup ((s "value" 1514)::(s "width" 1515)::(s "where" 1516)::[])
noncomputable def o567 (P:Q):O:=raw (stAt 119) (S "selected")
noncomputable def o568 (P:Q):O:=cO "selected" "selected" 1511 890 3 935 1517
noncomputable def o569 (P:Q):O:=fobj (stAt 119) (S "selected") (s "gateloom.elabparts" 1446) (r 940) .none
noncomputable def o570 (P:Q):O:=tup ((s "text" 1523)::(s "value" 1524)::(s "sign" 1525)::[])
noncomputable def o571 (P:Q):O:=raw (stAt 120) (S "text_vec")
noncomputable def o572 (P:Q):O:=cO "text_vec" "text_vec" 1520 894 1 942 1526
noncomputable def o573 (P:Q):O:=fobj (stAt 120) (S "text_vec") (s "gateloom.elabparts" 1446) (r 947) .none
noncomputable def o574 (P:Q):O:=tup ((s "e" 1532)::[])
noncomputable def o575 (P:Q):O:=raw (stAt 121) (S "inner_join")
noncomputable def o576 (P:Q):O:=cO "inner_join" "inner_join" 1529 899 1 949 1533
noncomputable def o577 (P:Q):O:=fobj (stAt 121) (S "inner_join") (s "gateloom.elabparts" 1446) (r 954) .none
noncomputable def o578 (P:Q):O:=tup ((s "op" 1539)::[])
noncomputable def o579 (P:Q):O:=raw (stAt 122) (S "is_context_operator")
noncomputable def o580 (P:Q):O:=cO "is_context_operator" "is_context_operator" 1536 901 1 956 1540
noncomputable def o581 (P:Q):O:=fobj (stAt 122) (S "is_context_operator") (s "gateloom.elabparts" 1446) (r 961) .none
noncomputable def e193 (P:Q):D:=(e P "__name__" 165 (s "gateloom.elabexpr" 1600))
noncomputable def e194 (P:Q):D:=(e P "system_value" 1118 (r 1081))
noncomputable def e195 (P:Q):D:=(e P "is_shift" 1549 (r 969))
noncomputable def e196 (P:Q):D:=(e P "widen" 1558 (r 976))
noncomputable def e197 (P:Q):D:=(e P "number_value" 1569 (r 983))
noncomputable def e198 (P:Q):D:=(e P "is_changing" 1576 (r 990))
noncomputable def e199 (P:Q):D:=(e P "asks_system" 1586 (r 997))
noncomputable def e200 (P:Q):D:=(e P "is_constant" 1599 (r 1004))
noncomputable def e201 (P:Q):D:=(e P "MOST_NESTING" 1603 (n 8 1602))
noncomputable def e202 (P:Q):D:=(e P "path_names" 1614 (r 1011))
noncomputable def e203 (P:Q):D:=(e P "entry_of" 1623 (r 1018))
noncomputable def e204 (P:Q):D:=(e P "base_entry" 1633 (r 1025))
noncomputable def e205 (P:Q):D:=(e P "select_width" 1641 (r 1032))
noncomputable def e206 (P:Q):D:=(e P "select_where" 1659 (r 1039))
noncomputable def e207 (P:Q):D:=(e P "named_type" 1669 (r 1046))
noncomputable def e208 (P:Q):D:=(e P "named_value" 1682 (r 1053))
noncomputable def e209 (P:Q):D:=(e P "function_of" 1692 (r 1060))
noncomputable def e210 (P:Q):D:=(e P "call_value" 1704 (r 1067))
noncomputable def e211 (P:Q):D:=(e P "system_type" 1714 (r 1074))
noncomputable def e212 (P:Q):D:=(e P "system_value_elabexpr" 1726 (r 1081))
noncomputable def e213 (P:Q):D:=(e P "joined_parts" 1736 (r 1088))
noncomputable def e214 (P:Q):D:=(e P "copies" 1745 (r 1095))
noncomputable def e215 (P:Q):D:=(e P "joined_width" 1755 (r 1102))
noncomputable def e216 (P:Q):D:=(e P "joined_value" 1766 (r 1109))
noncomputable def e217 (P:Q):D:=(e P "both_types" 1777 (r 1116))
noncomputable def e218 (P:Q):D:=(e P "expr_type" 1787 (r 1123))
noncomputable def o582 (P:Q):O:=⟨(.type "dict"),none,(.dict (List.toArray (e193 P::e3 P::e4 P::e5 P::e6 P::e7 P::e8 P::e9 P::e10 P::e11 P::e12 P::e13 P::e14 P::e37 P::e38 P::e39 P::e40 P::e41 P::e42 P::e43 P::e44 P::e45 P::e46 P::e47 P::e48 P::e49 P::e61 P::e62 P::e63 P::e64 P::e65 P::e66 P::e90 P::e91 P::e92 P::e93 P::e94 P::e95 P::e96 P::e97 P::e98 P::e99 P::e100 P::e101 P::e102 P::e103 P::e104 P::e105 P::e106 P::e107 P::e108 P::e109 P::e110 P::e111 P::e112 P::e113 P::e115 P::e116 P::e117 P::e118 P::e119 P::e120 P::e121 P::e122 P::e123 P::e124 P::e125 P::e126 P::e127 P::e128 P::e129 P::e130 P::e131 P::e132 P::e133 P::e134 P::e135 P::e136 P::e137 P::e138 P::e194 P::e140 P::e142 P::e143 P::e144 P::e145 P::e146 P::e147 P::e148 P::e149 P::e150 P::e151 P::e152 P::e153 P::e154 P::e155 P::e167 P::e168 P::e169 P::e170 P::e171 P::e172 P::e173 P::e174 P::e175 P::e176 P::e177 P::e178 P::e179 P::e180 P::e181 P::e182 P::e183 P::e184 P::e185 P::e186 P::e187 P::e188 P::e189 P::e190 P::e191 P::e192 P::e195 P::e196 P::e197 P::e198 P::e199 P::e200 P::e201 P::e202 P::e203 P::e204 P::e205 P::e206 P::e207 P::e208 P::e209 P::e210 P::e211 P::e212 P::e213 P::e214 P::e215 P::e216 P::e217 P::e218 P::[])) 146),List.toArray ([])⟩
noncomputable def o583 (P:Q):O:=⟨.none,none,(.fields (List.toArray ((n 1 0)::(n 0 0)::(r 20)::(n 5 0)::(n 0 0)::(r 27)::(n 7 0)::(n 0 0)::(r 34)::(n 47 0)::(n 0 0)::(r 97)::(n 53 0)::(n 0 0)::(r 118)::(n 55 0)::(n 0 0)::(r 130)::(n 58 0)::(n 0 0)::(r 142)::(n 60 0)::(n 0 0)::(r 150)::(n 63 0)::(n 0 0)::(r 157)::(n 65 0)::(n 0 0)::(r 164)::(n 68 0)::(n 0 0)::(r 171)::(n 70 0)::(n 0 0)::(r 178)::(n 72 0)::(n 0 0)::(r 185)::(n 74 0)::(n 0 0)::(r 192)::(n 81 0)::(n 0 0)::(r 199)::(n 83 0)::(n 0 0)::(r 206)::(n 94 0)::(n 0 0)::(r 213)::(n 105 0)::(n 0 0)::(r 220)::(n 114 0)::(n 0 0)::(r 227)::(n 124 0)::(n 0 0)::(r 234)::(n 126 0)::(n 0 0)::(r 241)::(n 133 0)::(n 0 0)::(r 248)::(n 179 0)::(n 0 0)::(r 290)::(n 199 0)::(n 0 0)::(r 333)::(n 203 0)::(n 0 0)::(r 340)::(n 207 0)::(n 0 0)::(r 347)::(n 211 0)::(n 0 0)::(r 354)::(n 215 0)::(n 0 0)::(r 361)::(n 220 0)::(n 0 0)::(r 368)::(n 226 0)::(n 0 0)::(r 375)::(n 232 0)::(n 0 0)::(r 382)::(n 243 0)::(n 0 0)::(r 389)::(n 258 0)::(n 0 0)::(r 396)::(n 266 0)::(n 0 0)::(r 403)::(n 273 0)::(n 0 0)::(r 410)::(n 283 0)::(n 0 0)::(r 417)::(n 291 0)::(n 0 0)::(r 424)::(n 296 0)::(n 0 0)::(r 431)::(n 301 0)::(n 0 0)::(r 438)::(n 303 0)::(n 0 0)::(r 445)::(n 306 0)::(n 0 0)::(r 452)::(n 308 0)::(n 0 0)::(r 459)::(n 311 0)::(n 0 0)::(r 466)::(n 316 0)::(n 0 0)::(r 473)::(n 322 0)::(n 0 0)::(r 480)::(n 325 0)::(n 0 0)::(r 487)::(n 327 0)::(n 0 0)::(r 494)::(n 332 0)::(n 0 0)::(r 501)::(n 334 0)::(n 0 0)::(r 508)::(n 336 0)::(n 0 0)::(r 515)::(n 338 0)::(n 0 0)::(r 522)::(n 347 0)::(n 0 0)::(r 529)::(n 349 0)::(n 0 0)::(r 536)::(n 351 0)::(n 0 0)::(r 543)::(n 353 0)::(n 0 0)::(r 550)::(n 355 0)::(n 0 0)::(r 557)::(n 360 0)::(n 0 0)::(r 564)::(n 362 0)::(n 0 0)::(r 571)::(n 364 0)::(n 0 0)::(r 578)::(n 366 0)::(n 0 0)::(r 585)::(n 374 0)::(n 0 0)::(r 592)::(n 385 0)::(n 0 0)::(r 599)::(n 405 0)::(n 0 0)::(r 606)::(n 423 0)::(n 0 0)::(r 613)::(n 441 0)::(n 0 0)::(r 620)::(n 455 0)::(n 0 0)::(r 627)::(n 464 0)::(n 0 0)::(r 634)::(n 466 0)::(n 0 0)::(r 641)::(n 474 0)::(n 0 0)::(r 648)::(n 480 0)::(n 0 0)::(r 655)::(n 488 0)::(n 0 0)::(r 662)::(n 493 0)::(n 0 0)::(r 669)::(n 507 0)::(n 0 0)::(r 674)::(n 538 0)::(n 0 0)::(r 681)::(n 545 0)::(n 0 0)::(r 688)::(n 549 0)::(n 0 0)::(r 695)::(n 568 0)::(n 0 0)::(r 702)::(n 580 0)::(n 0 0)::(r 709)::(n 623 0)::(n 0 0)::(r 755)::(n 631 0)::(n 0 0)::(r 762)::(n 638 0)::(n 0 0)::(r 769)::(n 649 0)::(n 0 0)::(r 776)::(n 657 0)::(n 0 0)::(r 783)::(n 668 0)::(n 0 0)::(r 790)::(n 671 0)::(n 0 0)::(r 797)::(n 698 0)::(n 0 0)::(r 804)::(n 717 0)::(n 0 0)::(r 811)::(n 726 0)::(n 0 0)::(r 818)::(n 732 0)::(n 0 0)::(r 825)::(n 738 0)::(n 0 0)::(r 832)::(n 746 0)::(n 0 0)::(r 839)::(n 752 0)::(n 0 0)::(r 844)::(n 770 0)::(n 0 0)::(r 851)::(n 781 0)::(n 0 0)::(r 856)::(n 787 0)::(n 0 0)::(r 863)::(n 812 0)::(n 0 0)::(r 870)::(n 819 0)::(n 0 0)::(r 877)::(n 826 0)::(n 0 0)::(r 884)::(n 837 0)::(n 0 0)::(r 891)::(n 842 0)::(n 0 0)::(r 898)::(n 844 0)::(n 0 0)::(r 905)::(n 862 0)::(n 0 0)::(r 912)::(n 873 0)::(n 0 0)::(r 919)::(n 877 0)::(n 0 0)::(r 926)::(n 884 0)::(n 0 0)::(r 933)::(n 890 0)::(n 0 0)::(r 940)::(n 894 0)::(n 0 0)::(r 947)::(n 899 0)::(n 0 0)::(r 954)::(n 901 0)::(n 0 0)::(r 961)::(n 903 0)::(n 0 0)::(r 968)::(n 905 0)::(n 0 0)::(r 975)::(n 909 0)::(n 0 0)::(r 982)::(n 913 0)::(n 0 0)::(r 989)::(n 915 0)::(n 0 0)::(r 996)::(n 922 0)::(n 0 0)::(r 1003)::(n 941 0)::(n 0 0)::(r 1010)::(n 948 0)::(n 0 0)::(r 1017)::(n 955 0)::(n 0 0)::(r 1024)::(n 965 0)::(n 0 0)::(r 1031)::(n 971 0)::(n 0 0)::(r 1038)::(n 993 0)::(n 0 0)::(r 1045)::(n 1006 0)::(n 0 0)::(r 1052)::(n 1025 0)::(n 0 0)::(r 1059)::(n 1037 0)::(n 0 0)::(r 1066)::(n 1045 0)::(n 0 0)::(r 1073)::(n 1063 0)::(n 0 0)::(r 1080)::(n 1072 0)::(n 0 0)::(r 1087)::(n 1082 0)::(n 0 0)::(r 1094)::(n 1087 0)::(n 0 0)::(r 1101)::(n 1094 0)::(n 0 0)::(r 1108)::(n 1102 0)::(n 0 0)::(r 1115)::(n 1106 0)::(n 0 0)::(r 1122)::[]))),List.toArray ([])⟩
noncomputable def o584 (P:Q):O:=tup ((s "op" 1546)::[])
noncomputable def o585 (P:Q):O:=raw (stAt 123) (S "is_shift")
noncomputable def o586 (P:Q):O:=cO "is_shift" "is_shift" 1543 903 1 963 1547
noncomputable def o587 (P:Q):O:=fobj (stAt 123) (S "is_shift") (s "gateloom.elabparts" 1446) (r 968) .none
noncomputable def o588 (P:Q):O:=tup ((s "value" 1553)::(s "w" 1554)::(s "signed" 1555)::[])
noncomputable def o589 (P:Q):O:=raw (stAt 124) (S "widen")
noncomputable def o590 (P:Q):O:=cO "widen" "widen" 1550 905 3 970 1556
noncomputable def o591 (P:Q):O:=fobj (stAt 124) (S "widen") (s "gateloom.elabparts" 1446) (r 975) .none
noncomputable def o592 (P:Q):O:=tup ((s "e" 1562)::(s "w" 1563)::(s "signed" 1564)::(s "number" 1565)::(s "fill" 1566)::[])
noncomputable def o593 (P:Q):O:=raw (stAt 125) (S "number_value")
noncomputable def o594 (P:Q):O:=cO "number_value" "number_value" 1559 909 3 977 1567
noncomputable def o595 (P:Q):O:=fobj (stAt 125) (S "number_value") (s "gateloom.elabparts" 1446) (r 982) .none
noncomputable def o596 (P:Q):O:=tup ((s "node" 1573)::[])
noncomputable def o597 (P:Q):O:=raw (stAt 126) (S "is_changing")
noncomputable def o598 (P:Q):O:=cO "is_changing" "is_changing" 1570 913 1 984 1574
noncomputable def o599 (P:Q):O:=fobj (stAt 126) (S "is_changing") (s "gateloom.elabparts" 1446) (r 989) .none
noncomputable def o600 (P:Q):O:=tup ((s "body" 1580)::(s "s" 1581)::(s "e" 1582)::(s "node" 1583)::[])
noncomputable def o601 (P:Q):O:=raw (stAt 127) (S "asks_system")
noncomputable def o602 (P:Q):O:=cO "asks_system" "asks_system" 1577 915 1 991 1584
noncomputable def o603 (P:Q):O:=fobj (stAt 127) (S "asks_system") (s "gateloom.elabparts" 1446) (r 996) .none
noncomputable def o604 (P:Q):O:=tup ((s "design" 1590)::(s "e" 1591)::(s "node" 1592)::(s "numbers" 1593)::(s "seen" 1594)::(s "n" 1595)::(s "body" 1596)::[])
noncomputable def o605 (P:Q):O:=raw (stAt 128) (S "is_constant")
noncomputable def o606 (P:Q):O:=cO "is_constant" "is_constant" 1587 922 2 998 1597
noncomputable def o607 (P:Q):O:=fobj (stAt 128) (S "is_constant") (s "gateloom.elabparts" 1446) (r 1003) .none
noncomputable def o608 (P:Q):O:=tup ((s "scope" 1607)::(s "e" 1608)::(s "names" 1609)::(s "name" 1610)::(s "index" 1611)::[])
noncomputable def o609 (P:Q):O:=raw (stAt 131) (S "path_names")
noncomputable def o610 (P:Q):O:=cO "path_names" "path_names" 1604 941 2 1005 1612
noncomputable def o611 (P:Q):O:=fobj (stAt 131) (S "path_names") (s "gateloom.elabexpr" 1600) (r 1010) .none
noncomputable def o612 (P:Q):O:=tup ((s "scope" 1618)::(s "e" 1619)::(s "entry" 1620)::[])
noncomputable def o613 (P:Q):O:=raw (stAt 132) (S "entry_of")
noncomputable def o614 (P:Q):O:=cO "entry_of" "entry_of" 1615 948 2 1012 1621
noncomputable def o615 (P:Q):O:=fobj (stAt 132) (S "entry_of") (s "gateloom.elabexpr" 1600) (r 1017) .none
noncomputable def o616 (P:Q):O:=tup ((s "scope" 1627)::(s "e" 1628)::(s "entry" 1629)::(s "inner" 1630)::[])
noncomputable def o617 (P:Q):O:=raw (stAt 133) (S "base_entry")
noncomputable def o618 (P:Q):O:=cO "base_entry" "base_entry" 1624 955 2 1019 1631
noncomputable def o619 (P:Q):O:=fobj (stAt 133) (S "base_entry") (s "gateloom.elabexpr" 1600) (r 1024) .none
noncomputable def o620 (P:Q):O:=tup ((s "scope" 1637)::(s "e" 1638)::[])
noncomputable def o621 (P:Q):O:=raw (stAt 134) (S "select_width")
noncomputable def o622 (P:Q):O:=cO "select_width" "select_width" 1634 965 2 1026 1639
noncomputable def o623 (P:Q):O:=fobj (stAt 134) (S "select_width") (s "gateloom.elabexpr" 1600) (r 1031) .none
noncomputable def o624 (P:Q):O:=tup ((s "scope" 1645)::(s "e" 1646)::(s "form" 1647)::(s "msb" 1648)::(s "lsb" 1649)::(s "step" 1650)::(s "left" 1651)::(s "right" 1652)::(s "width" 1653)::(s "base" 1654)::(s "index" 1655)::(s "signed" 1656)::[])
noncomputable def o625 (P:Q):O:=raw (stAt 135) (S "select_where")
noncomputable def o626 (P:Q):O:=cO "select_where" "select_where" 1642 971 3 1033 1657
noncomputable def o627 (P:Q):O:=fobj (stAt 135) (S "select_where") (s "gateloom.elabexpr" 1600) (r 1038) .none
noncomputable def o628 (P:Q):O:=tup ((s "scope" 1663)::(s "e" 1664)::(s "entry" 1665)::(s "inner" 1666)::[])
noncomputable def o629 (P:Q):O:=raw (stAt 136) (S "named_type")
noncomputable def o630 (P:Q):O:=cO "named_type" "named_type" 1660 993 2 1040 1667
noncomputable def o631 (P:Q):O:=fobj (stAt 136) (S "named_type") (s "gateloom.elabexpr" 1600) (r 1045) .none
noncomputable def o632 (P:Q):O:=tup ((s "scope" 1673)::(s "e" 1674)::(s "entry" 1675)::(s "inner" 1676)::(s "form" 1677)::(s "word" 1678)::(s "where" 1679)::[])
noncomputable def o633 (P:Q):O:=raw (stAt 137) (S "named_value")
noncomputable def o634 (P:Q):O:=cO "named_value" "named_value" 1670 1006 2 1047 1680
noncomputable def o635 (P:Q):O:=fobj (stAt 137) (S "named_value") (s "gateloom.elabexpr" 1600) (r 1052) .none
noncomputable def o636 (P:Q):O:=tup ((s "scope" 1686)::(s "e" 1687)::(s "entry" 1688)::(s "routine" 1689)::[])
noncomputable def o637 (P:Q):O:=raw (stAt 138) (S "function_of")
noncomputable def o638 (P:Q):O:=cO "function_of" "function_of" 1683 1025 2 1054 1690
noncomputable def o639 (P:Q):O:=fobj (stAt 138) (S "function_of") (s "gateloom.elabexpr" 1600) (r 1059) .none
noncomputable def o640 (P:Q):O:=tup ((s "scope" 1696)::(s "e" 1697)::(s "routine" 1698)::(s "args" 1699)::(s "at" 1700)::(s "port" 1701)::[])
noncomputable def o641 (P:Q):O:=raw (stAt 139) (S "call_value")
noncomputable def o642 (P:Q):O:=cO "call_value" "call_value" 1693 1037 2 1061 1702
noncomputable def o643 (P:Q):O:=fobj (stAt 139) (S "call_value") (s "gateloom.elabexpr" 1600) (r 1066) .none
noncomputable def o644 (P:Q):O:=tup ((s "scope" 1708)::(s "e" 1709)::(s "name" 1710)::(s "count" 1711)::[])
noncomputable def o645 (P:Q):O:=raw (stAt 140) (S "system_type")
noncomputable def o646 (P:Q):O:=cO "system_type" "system_type" 1705 1045 2 1068 1712
noncomputable def o647 (P:Q):O:=fobj (stAt 140) (S "system_type") (s "gateloom.elabexpr" 1600) (r 1073) .none
noncomputable def o648 (P:Q):O:=tup ((s "scope" 1718)::(s "e" 1719)::(s "width" 1720)::(s "args" 1721)::(s "arg" 1722)::[])
noncomputable def o649 (P:Q):O:=raw (stAt 141) (S "system_value")
noncomputable def o650 (P:Q):O:=cO "system_value" "system_value" 1715 1063 2 1075 1723
noncomputable def o651 (P:Q):O:=fobj (stAt 141) (S "system_value") (s "gateloom.elabexpr" 1600) (r 1080) .none
noncomputable def o652 (P:Q):O:=tup ((s "scope" 1730)::(s "e" 1731)::(s "parts" 1732)::(s "part" 1733)::[])
noncomputable def o653 (P:Q):O:=raw (stAt 143) (S "joined_parts")
noncomputable def o654 (P:Q):O:=cO "joined_parts" "joined_parts" 1727 1072 2 1082 1734
noncomputable def o655 (P:Q):O:=fobj (stAt 143) (S "joined_parts") (s "gateloom.elabexpr" 1600) (r 1087) .none
noncomputable def o656 (P:Q):O:=tup ((s "scope" 1740)::(s "e" 1741)::(s "n" 1742)::[])
noncomputable def o657 (P:Q):O:=raw (stAt 144) (S "copies")
noncomputable def o658 (P:Q):O:=cO "copies" "copies" 1737 1082 2 1089 1743
noncomputable def o659 (P:Q):O:=fobj (stAt 144) (S "copies") (s "gateloom.elabexpr" 1600) (r 1094) .none
noncomputable def o660 (P:Q):O:=tup ((s "scope" 1749)::(s "e" 1750)::(s "width" 1751)::(s "part" 1752)::[])
noncomputable def o661 (P:Q):O:=raw (stAt 145) (S "joined_width")
noncomputable def o662 (P:Q):O:=cO "joined_width" "joined_width" 1746 1087 2 1096 1753
noncomputable def o663 (P:Q):O:=fobj (stAt 145) (S "joined_width") (s "gateloom.elabexpr" 1600) (r 1101) .none
noncomputable def o664 (P:Q):O:=tup ((s "scope" 1759)::(s "e" 1760)::(s "width" 1761)::(s "parts" 1762)::(s "part" 1763)::[])
noncomputable def o665 (P:Q):O:=raw (stAt 146) (S "joined_value")
noncomputable def o666 (P:Q):O:=cO "joined_value" "joined_value" 1756 1094 2 1103 1764
noncomputable def o667 (P:Q):O:=fobj (stAt 146) (S "joined_value") (s "gateloom.elabexpr" 1600) (r 1108) .none
noncomputable def o668 (P:Q):O:=tup ((s "scope" 1770)::(s "left" 1771)::(s "right" 1772)::(s "one" 1773)::(s "other" 1774)::[])
noncomputable def o669 (P:Q):O:=raw (stAt 147) (S "both_types")
noncomputable def o670 (P:Q):O:=cO "both_types" "both_types" 1767 1102 3 1110 1775
noncomputable def o671 (P:Q):O:=fobj (stAt 147) (S "both_types") (s "gateloom.elabexpr" 1600) (r 1115) .none
noncomputable def o672 (P:Q):O:=tup ((s "scope" 1781)::(s "e" 1782)::(s "tag" 1783)::(s "routine" 1784)::[])
noncomputable def o673 (P:Q):O:=raw (stAt 148) (S "expr_type")
noncomputable def o674 (P:Q):O:=cO "expr_type" "expr_type" 1778 1106 2 1117 1785
noncomputable def o675 (P:Q):O:=fobj (stAt 148) (S "expr_type") (s "gateloom.elabexpr" 1600) (r 1122) .none
noncomputable def e219 (P:Q):D:=(e P "__name__" 165 (s "gateloom.scopes" 2001))
noncomputable def e220 (P:Q):D:=(e P "shape" 1476 (r 1207))
noncomputable def e221 (P:Q):D:=(e P "unary_value" 1798 (r 1130))
noncomputable def e222 (P:Q):D:=(e P "binary_value" 1814 (r 1137))
noncomputable def e223 (P:Q):D:=(e P "build" 1828 (r 1144))
noncomputable def e224 (P:Q):D:=(e P "self_determined" 1838 (r 1151))
noncomputable def e225 (P:Q):D:=(e P "sized" 1849 (r 1158))
noncomputable def e226 (P:Q):D:=(e P "constant_vec" 1859 (r 1165))
noncomputable def e227 (P:Q):D:=(e P "constant" 1869 (r 1172))
noncomputable def e228 (P:Q):D:=(e P "whole" 1881 (r 1179))
noncomputable def e229 (P:Q):D:=(e P "small_whole" 1890 (r 1186))
noncomputable def e230 (P:Q):D:=(e P "range_of" 1900 (r 1193))
noncomputable def e231 (P:Q):D:=(e P "MOST_WIDTH" 1904 (n 4096 1903))
noncomputable def e232 (P:Q):D:=(e P "width_of" 1914 (r 1200))
noncomputable def e233 (P:Q):D:=(e P "shape_elabdecl" 1928 (r 1207))
noncomputable def e234 (P:Q):D:=(e P "called_names" 1940 (r 1214))
noncomputable def e235 (P:Q):D:=(e P "declared_name" 1947 (r 1221))
noncomputable def e236 (P:Q):D:=(e P "port_items" 1953 (r 1226))
noncomputable def e237 (P:Q):D:=(e P "partner_places" 1965 (r 1233))
noncomputable def e238 (P:Q):D:=(e P "default_net" 1972 (r 1240))
noncomputable def e239 (P:Q):D:=(e P "port_shape" 1988 (r 1247))
noncomputable def e240 (P:Q):D:=(e P "check_port_range" 2000 (r 1254))
noncomputable def o676 (P:Q):O:=⟨(.type "dict"),none,(.dict (List.toArray (e219 P::e3 P::e4 P::e5 P::e6 P::e7 P::e8 P::e9 P::e10 P::e11 P::e12 P::e13 P::e14 P::e37 P::e38 P::e39 P::e40 P::e41 P::e42 P::e43 P::e44 P::e45 P::e46 P::e47 P::e48 P::e49 P::e61 P::e62 P::e63 P::e64 P::e65 P::e66 P::e90 P::e91 P::e92 P::e93 P::e94 P::e95 P::e96 P::e97 P::e98 P::e99 P::e100 P::e101 P::e102 P::e103 P::e104 P::e105 P::e106 P::e107 P::e108 P::e109 P::e110 P::e111 P::e112 P::e113 P::e115 P::e116 P::e117 P::e118 P::e119 P::e120 P::e121 P::e122 P::e123 P::e124 P::e125 P::e126 P::e127 P::e128 P::e129 P::e130 P::e131 P::e132 P::e133 P::e134 P::e135 P::e136 P::e137 P::e138 P::e194 P::e140 P::e142 P::e143 P::e144 P::e145 P::e146 P::e147 P::e148 P::e149 P::e150 P::e151 P::e152 P::e153 P::e154 P::e155 P::e167 P::e168 P::e169 P::e170 P::e171 P::e172 P::e173 P::e174 P::e175 P::e176 P::e177 P::e178 P::e179 P::e180 P::e181 P::e182 P::e220 P::e184 P::e185 P::e186 P::e187 P::e188 P::e189 P::e190 P::e191 P::e192 P::e195 P::e196 P::e197 P::e198 P::e199 P::e200 P::e201 P::e202 P::e203 P::e204 P::e205 P::e206 P::e207 P::e208 P::e209 P::e210 P::e211 P::e212 P::e213 P::e214 P::e215 P::e216 P::e217 P::e218 P::e221 P::e222 P::e223 P::e224 P::e225 P::e226 P::e227 P::e228 P::e229 P::e230 P::e231 P::e232 P::e233 P::e234 P::e235 P::e236 P::e237 P::e238 P::e239 P::e240 P::[])) 166),List.toArray ([])⟩
noncomputable def o677 (P:Q):O:=⟨.none,none,(.fields (List.toArray ((n 1 0)::(n 0 0)::(r 20)::(n 5 0)::(n 0 0)::(r 27)::(n 7 0)::(n 0 0)::(r 34)::(n 47 0)::(n 0 0)::(r 97)::(n 53 0)::(n 0 0)::(r 118)::(n 55 0)::(n 0 0)::(r 130)::(n 58 0)::(n 0 0)::(r 142)::(n 60 0)::(n 0 0)::(r 150)::(n 63 0)::(n 0 0)::(r 157)::(n 65 0)::(n 0 0)::(r 164)::(n 68 0)::(n 0 0)::(r 171)::(n 70 0)::(n 0 0)::(r 178)::(n 72 0)::(n 0 0)::(r 185)::(n 74 0)::(n 0 0)::(r 192)::(n 81 0)::(n 0 0)::(r 199)::(n 83 0)::(n 0 0)::(r 206)::(n 94 0)::(n 0 0)::(r 213)::(n 105 0)::(n 0 0)::(r 220)::(n 114 0)::(n 0 0)::(r 227)::(n 124 0)::(n 0 0)::(r 234)::(n 126 0)::(n 0 0)::(r 241)::(n 133 0)::(n 0 0)::(r 248)::(n 179 0)::(n 0 0)::(r 290)::(n 199 0)::(n 0 0)::(r 333)::(n 203 0)::(n 0 0)::(r 340)::(n 207 0)::(n 0 0)::(r 347)::(n 211 0)::(n 0 0)::(r 354)::(n 215 0)::(n 0 0)::(r 361)::(n 220 0)::(n 0 0)::(r 368)::(n 226 0)::(n 0 0)::(r 375)::(n 232 0)::(n 0 0)::(r 382)::(n 243 0)::(n 0 0)::(r 389)::(n 258 0)::(n 0 0)::(r 396)::(n 266 0)::(n 0 0)::(r 403)::(n 273 0)::(n 0 0)::(r 410)::(n 283 0)::(n 0 0)::(r 417)::(n 291 0)::(n 0 0)::(r 424)::(n 296 0)::(n 0 0)::(r 431)::(n 301 0)::(n 0 0)::(r 438)::(n 303 0)::(n 0 0)::(r 445)::(n 306 0)::(n 0 0)::(r 452)::(n 308 0)::(n 0 0)::(r 459)::(n 311 0)::(n 0 0)::(r 466)::(n 316 0)::(n 0 0)::(r 473)::(n 322 0)::(n 0 0)::(r 480)::(n 325 0)::(n 0 0)::(r 487)::(n 327 0)::(n 0 0)::(r 494)::(n 332 0)::(n 0 0)::(r 501)::(n 334 0)::(n 0 0)::(r 508)::(n 336 0)::(n 0 0)::(r 515)::(n 338 0)::(n 0 0)::(r 522)::(n 347 0)::(n 0 0)::(r 529)::(n 349 0)::(n 0 0)::(r 536)::(n 351 0)::(n 0 0)::(r 543)::(n 353 0)::(n 0 0)::(r 550)::(n 355 0)::(n 0 0)::(r 557)::(n 360 0)::(n 0 0)::(r 564)::(n 362 0)::(n 0 0)::(r 571)::(n 364 0)::(n 0 0)::(r 578)::(n 366 0)::(n 0 0)::(r 585)::(n 374 0)::(n 0 0)::(r 592)::(n 385 0)::(n 0 0)::(r 599)::(n 405 0)::(n 0 0)::(r 606)::(n 423 0)::(n 0 0)::(r 613)::(n 441 0)::(n 0 0)::(r 620)::(n 455 0)::(n 0 0)::(r 627)::(n 464 0)::(n 0 0)::(r 634)::(n 466 0)::(n 0 0)::(r 641)::(n 474 0)::(n 0 0)::(r 648)::(n 480 0)::(n 0 0)::(r 655)::(n 488 0)::(n 0 0)::(r 662)::(n 493 0)::(n 0 0)::(r 669)::(n 507 0)::(n 0 0)::(r 674)::(n 538 0)::(n 0 0)::(r 681)::(n 545 0)::(n 0 0)::(r 688)::(n 549 0)::(n 0 0)::(r 695)::(n 568 0)::(n 0 0)::(r 702)::(n 580 0)::(n 0 0)::(r 709)::(n 623 0)::(n 0 0)::(r 755)::(n 631 0)::(n 0 0)::(r 762)::(n 638 0)::(n 0 0)::(r 769)::(n 649 0)::(n 0 0)::(r 776)::(n 657 0)::(n 0 0)::(r 783)::(n 668 0)::(n 0 0)::(r 790)::(n 671 0)::(n 0 0)::(r 797)::(n 698 0)::(n 0 0)::(r 804)::(n 717 0)::(n 0 0)::(r 811)::(n 726 0)::(n 0 0)::(r 818)::(n 732 0)::(n 0 0)::(r 825)::(n 738 0)::(n 0 0)::(r 832)::(n 746 0)::(n 0 0)::(r 839)::(n 752 0)::(n 0 0)::(r 844)::(n 770 0)::(n 0 0)::(r 851)::(n 781 0)::(n 0 0)::(r 856)::(n 787 0)::(n 0 0)::(r 863)::(n 812 0)::(n 0 0)::(r 870)::(n 819 0)::(n 0 0)::(r 877)::(n 826 0)::(n 0 0)::(r 884)::(n 837 0)::(n 0 0)::(r 891)::(n 842 0)::(n 0 0)::(r 898)::(n 844 0)::(n 0 0)::(r 905)::(n 862 0)::(n 0 0)::(r 912)::(n 873 0)::(n 0 0)::(r 919)::(n 877 0)::(n 0 0)::(r 926)::(n 884 0)::(n 0 0)::(r 933)::(n 890 0)::(n 0 0)::(r 940)::(n 894 0)::(n 0 0)::(r 947)::(n 899 0)::(n 0 0)::(r 954)::(n 901 0)::(n 0 0)::(r 961)::(n 903 0)::(n 0 0)::(r 968)::(n 905 0)::(n 0 0)::(r 975)::(n 909 0)::(n 0 0)::(r 982)::(n 913 0)::(n 0 0)::(r 989)::(n 915 0)::(n 0 0)::(r 996)::(n 922 0)::(n 0 0)::(r 1003)::(n 941 0)::(n 0 0)::(r 1010)::(n 948 0)::(n 0 0)::(r 1017)::(n 955 0)::(n 0 0)::(r 1024)::(n 965 0)::(n 0 0)::(r 1031)::(n 971 0)::(n 0 0)::(r 1038)::(n 993 0)::(n 0 0)::(r 1045)::(n 1006 0)::(n 0 0)::(r 1052)::(n 1025 0)::(n 0 0)::(r 1059)::(n 1037 0)::(n 0 0)::(r 1066)::(n 1045 0)::(n 0 0)::(r 1073)::(n 1063 0)::(n 0 0)::(r 1080)::(n 1072 0)::(n 0 0)::(r 1087)::(n 1082 0)::(n 0 0)::(r 1094)::(n 1087 0)::(n 0 0)::(r 1101)::(n 1094 0)::(n 0 0)::(r 1108)::(n 1102 0)::(n 0 0)::(r 1115)::(n 1106 0)::(n 0 0)::(r 1122)::(n 1134 0)::(n 0 0)::(r 1129)::(n 1141 0)::(n 0 0)::(r 1136)::(n 1160 0)::(n 0 0)::(r 1143)::(n 1183 0)::(n 0 0)::(r 1150)::(n 1186 0)::(n 0 0)::(r 1157)::(n 1189 0)::(n 0 0)::(r 1164)::(n 1196 0)::(n 0 0)::(r 1171)::(n 1199 0)::(n 0 0)::(r 1178)::(n 1212 0)::(n 0 0)::(r 1185)::(n 1217 0)::(n 0 0)::(r 1192)::(n 1226 0)::(n 0 0)::(r 1199)::(n 1231 0)::(n 0 0)::(r 1206)::(n 1242 0)::(n 0 0)::(r 1213)::(n 1252 0)::(n 0 0)::(r 1220)::(n 1256 0)::(n 0 0)::(r 1225)::(n 1258 0)::(n 0 0)::(r 1232)::(n 1267 0)::(n 0 0)::(r 1239)::(n 1271 0)::(n 0 0)::(r 1246)::(n 1287 0)::(n 0 0)::(r 1253)::[]))),List.toArray ([])⟩
noncomputable def o678 (P:Q):O:=tup ((s "scope" 1791)::(s "e" 1792)::(s "w" 1793)::(s "signed" 1794)::(s "op" 1795)::[])
noncomputable def o679 (P:Q):O:=raw (stAt 149) (S "unary_value")
noncomputable def o680 (P:Q):O:=cO "unary_value" "unary_value" 1788 1134 4 1124 1796
noncomputable def o681 (P:Q):O:=fobj (stAt 149) (S "unary_value") (s "gateloom.elabexpr" 1600) (r 1129) .none
noncomputable def o682 (P:Q):O:=tup ((s "scope" 1802)::(s "e" 1803)::(s "w" 1804)::(s "signed" 1805)::(s "op" 1806)::(s "left" 1807)::(s "right" 1808)::(s "right_signed" 1809)::(s "width" 1810)::(s "both" 1811)::[])
noncomputable def o683 (P:Q):O:=raw (stAt 150) (S "binary_value")
noncomputable def o684 (P:Q):O:=cO "binary_value" "binary_value" 1799 1141 4 1131 1812
noncomputable def o685 (P:Q):O:=fobj (stAt 150) (S "binary_value") (s "gateloom.elabexpr" 1600) (r 1136) .none
noncomputable def o686 (P:Q):O:=tup ((s "scope" 1818)::(s "e" 1819)::(s "w" 1820)::(s "signed" 1821)::(s "tag" 1822)::(s "test" 1823)::(s "then" 1824)::(s "value" 1825)::[])
noncomputable def o687 (P:Q):O:=raw (stAt 151) (S "build")
noncomputable def o688 (P:Q):O:=cO "build" "build" 1815 1160 4 1138 1826
noncomputable def o689 (P:Q):O:=fobj (stAt 151) (S "build") (s "gateloom.elabexpr" 1600) (r 1143) .none
noncomputable def o690 (P:Q):O:=tup ((s "scope" 1832)::(s "e" 1833)::(s "width" 1834)::(s "signed" 1835)::[])
noncomputable def o691 (P:Q):O:=raw (stAt 152) (S "self_determined")
noncomputable def o692 (P:Q):O:=cO "self_determined" "self_determined" 1829 1183 2 1145 1836
noncomputable def o693 (P:Q):O:=fobj (stAt 152) (S "self_determined") (s "gateloom.elabexpr" 1600) (r 1150) .none
noncomputable def o694 (P:Q):O:=tup ((s "scope" 1842)::(s "e" 1843)::(s "w" 1844)::(s "width" 1845)::(s "signed" 1846)::[])
noncomputable def o695 (P:Q):O:=raw (stAt 153) (S "sized")
noncomputable def o696 (P:Q):O:=cO "sized" "sized" 1839 1186 3 1152 1847
noncomputable def o697 (P:Q):O:=fobj (stAt 153) (S "sized") (s "gateloom.elabexpr" 1600) (r 1157) .none
noncomputable def o698 (P:Q):O:=tup ((s "scope" 1853)::(s "value" 1854)::(s "at" 1855)::(s "store" 1856)::[])
noncomputable def o699 (P:Q):O:=raw (stAt 154) (S "constant_vec")
noncomputable def o700 (P:Q):O:=cO "constant_vec" "constant_vec" 1850 1189 3 1159 1857
noncomputable def o701 (P:Q):O:=fobj (stAt 154) (S "constant_vec") (s "gateloom.elabexpr" 1600) (r 1164) .none
noncomputable def o702 (P:Q):O:=tup ((s "scope" 1863)::(s "e" 1864)::(s "value" 1865)::(s "signed" 1866)::[])
noncomputable def o703 (P:Q):O:=raw (stAt 155) (S "constant")
noncomputable def o704 (P:Q):O:=cO "constant" "constant" 1860 1196 2 1166 1867
noncomputable def o705 (P:Q):O:=fobj (stAt 155) (S "constant") (s "gateloom.elabexpr" 1600) (r 1171) .none
noncomputable def o706 (P:Q):O:=tup ((s "scope" 1873)::(s "e" 1874)::(s "design" 1875)::(s "value" 1876)::(s "signed" 1877)::(s "number" 1878)::[])
noncomputable def o707 (P:Q):O:=raw (stAt 156) (S "whole")
noncomputable def o708 (P:Q):O:=cO "whole" "whole" 1870 1199 2 1173 1879
noncomputable def o709 (P:Q):O:=fobj (stAt 156) (S "whole") (s "gateloom.elabexpr" 1600) (r 1178) .none
noncomputable def o710 (P:Q):O:=tup ((s "scope" 1885)::(s "e" 1886)::(s "number" 1887)::[])
noncomputable def o711 (P:Q):O:=raw (stAt 157) (S "small_whole")
noncomputable def o712 (P:Q):O:=cO "small_whole" "small_whole" 1882 1212 2 1180 1888
noncomputable def o713 (P:Q):O:=fobj (stAt 157) (S "small_whole") (s "gateloom.elabexpr" 1600) (r 1185) .none
noncomputable def o714 (P:Q):O:=tup ((s "scope" 1894)::(s "bounds" 1895)::(s "msb" 1896)::(s "lsb" 1897)::[])
noncomputable def o715 (P:Q):O:=raw (stAt 158) (S "range_of")
noncomputable def o716 (P:Q):O:=cO "range_of" "range_of" 1891 1217 2 1187 1898
noncomputable def o717 (P:Q):O:=fobj (stAt 158) (S "range_of") (s "gateloom.elabexpr" 1600) (r 1192) .none
noncomputable def o718 (P:Q):O:=tup ((s "msb" 1908)::(s "lsb" 1909)::(s "at" 1910)::(s "width" 1911)::[])
noncomputable def o719 (P:Q):O:=raw (stAt 161) (S "width_of")
noncomputable def o720 (P:Q):O:=cO "width_of" "width_of" 1905 1226 3 1194 1912
noncomputable def o721 (P:Q):O:=fobj (stAt 161) (S "width_of") (s "gateloom.elabdecl" 1901) (r 1199) .none
noncomputable def o722 (P:Q):O:=tup ((s "scope" 1918)::(s "kind" 1919)::(s "signed" 1920)::(s "bounds" 1921)::(s "at" 1922)::(s "msb" 1923)::(s "lsb" 1924)::[])
noncomputable def o723 (P:Q):O:=raw (stAt 162) (S "shape")
noncomputable def o724 (P:Q):O:=cO "shape" "shape" 1915 1231 5 1201 1925
noncomputable def o725 (P:Q):O:=fobj (stAt 162) (S "shape") (s "gateloom.elabdecl" 1901) (r 1206) .none
noncomputable def o726 (P:Q):O:=tup ((s "node" 1934)::(s "found" 1935)::(s "stack" 1936)::(s "part" 1937)::[])
noncomputable def o727 (P:Q):O:=raw (stAt 165) (S "called_names")
noncomputable def o728 (P:Q):O:=cO "called_names" "called_names" 1931 1242 1 1208 1938
noncomputable def o729 (P:Q):O:=fobj (stAt 165) (S "called_names") (s "gateloom.elabitems" 1929) (r 1213) .none
noncomputable def o730 (P:Q):O:=tup ((s "item" 1944)::[])
noncomputable def o731 (P:Q):O:=raw (stAt 166) (S "declared_name")
noncomputable def o732 (P:Q):O:=cO "declared_name" "declared_name" 1941 1252 1 1215 1945
noncomputable def o733 (P:Q):O:=fobj (stAt 166) (S "declared_name") (s "gateloom.elabitems" 1929) (r 1220) .none
noncomputable def o734 (P:Q):O:=raw (stAt 167) (S "port_items")
noncomputable def o735 (P:Q):O:=⟨(.type "code"),none,(.fields (List.toArray ((s "port_items" 1948)::(s "port_items" 1949)::(s "/claim/cut.py" 1950)::(n 1256 0)::(n 1 0)::(n 0 0)::(n 0 0)::(n 3 0)::(r 1222)::(.bool true)::(n 181 0)::(r 1223)::.none::.none::.none::(r 1224)::(n 1951 0)::(n 1256 0)::(s "/claim/cut.py" 1952)::[]))),List.toArray ([])⟩
noncomputable def o736 (P:Q):O:=fobj (stAt 167) (S "port_items") (s "gateloom.elabitems" 1929) (r 1225) .none
noncomputable def o737 (P:Q):O:=tup ((s "items" 1957)::(s "ports" 1958)::(s "places" 1959)::(s "place" 1960)::(s "item" 1961)::(s "name" 1962)::[])
noncomputable def o738 (P:Q):O:=raw (stAt 168) (S "partner_places")
noncomputable def o739 (P:Q):O:=cO "partner_places" "partner_places" 1954 1258 2 1227 1963
noncomputable def o740 (P:Q):O:=fobj (stAt 168) (S "partner_places") (s "gateloom.elabitems" 1929) (r 1232) .none
noncomputable def o741 (P:Q):O:=tup ((s "scope" 1969)::[])
noncomputable def o742 (P:Q):O:=raw (stAt 169) (S "default_net")
noncomputable def o743 (P:Q):O:=cO "default_net" "default_net" 1966 1267 1 1234 1970
noncomputable def o744 (P:Q):O:=fobj (stAt 169) (S "default_net") (s "gateloom.elabitems" 1929) (r 1239) .none
noncomputable def o745 (P:Q):O:=tup ((s "scope" 1976)::(s "port" 1977)::(s "partner" 1978)::(s "_" 1979)::(s "at" 1980)::(s "direction" 1981)::(s "signed" 1982)::(s "bounds" 1983)::(s "name" 1984)::(s "arrays" 1985)::[])
noncomputable def o746 (P:Q):O:=raw (stAt 170) (S "port_shape")
noncomputable def o747 (P:Q):O:=cO "port_shape" "port_shape" 1973 1271 3 1241 1986
noncomputable def o748 (P:Q):O:=fobj (stAt 170) (S "port_shape") (s "gateloom.elabitems" 1929) (r 1246) .none
noncomputable def o749 (P:Q):O:=tup ((s "scope" 1992)::(s "port" 1993)::(s "partner" 1994)::(s "msb" 1995)::(s "lsb" 1996)::(s "fits" 1997)::[])
noncomputable def o750 (P:Q):O:=raw (stAt 171) (S "check_port_range")
noncomputable def o751 (P:Q):O:=cO "check_port_range" "check_port_range" 1989 1287 3 1248 1998
noncomputable def o752 (P:Q):O:=fobj (stAt 171) (S "check_port_range") (s "gateloom.elabitems" 1929) (r 1253) .none
noncomputable def e241 (P:Q):D:=(e P "__name__" 165 (s "law_pq0481_01" 2121))
noncomputable def e242 (P:Q):D:=(e P "Scope" 2120 (r 1327))
noncomputable def e243 (P:Q):D:=(e P "_law_open" 2131 (r 1338))
noncomputable def e244 (P:Q):D:=(e P "_law_next" 2139 (r 1345))
noncomputable def e245 (P:Q):D:=(e P "_law_expression" 2150 (r 1352))
noncomputable def e246 (P:Q):D:=(e P "_law_span" 2157 (r 1359))
noncomputable def e247 (P:Q):D:=(e P "_law_item" 2169 (r 1366))
noncomputable def e248 (P:Q):D:=(e P "_law_told" 2179 (r 1373))
noncomputable def e249 (P:Q):D:=(e P "law" 2185 (r 1378))
noncomputable def o753 (P:Q):O:=⟨(.type "dict"),none,(.dict (List.toArray (e241 P::e3 P::e4 P::e5 P::e6 P::e7 P::e8 P::e9 P::e10 P::e11 P::e12 P::e13 P::e14 P::e37 P::e38 P::e39 P::e40 P::e41 P::e42 P::e43 P::e44 P::e45 P::e46 P::e47 P::e48 P::e49 P::e61 P::e62 P::e63 P::e64 P::e65 P::e66 P::e90 P::e91 P::e92 P::e93 P::e94 P::e95 P::e96 P::e97 P::e98 P::e99 P::e100 P::e101 P::e102 P::e103 P::e104 P::e105 P::e106 P::e107 P::e108 P::e109 P::e110 P::e111 P::e112 P::e113 P::e115 P::e116 P::e117 P::e118 P::e119 P::e120 P::e121 P::e122 P::e123 P::e124 P::e125 P::e126 P::e127 P::e128 P::e129 P::e130 P::e131 P::e132 P::e133 P::e134 P::e135 P::e136 P::e137 P::e138 P::e194 P::e140 P::e142 P::e143 P::e144 P::e145 P::e146 P::e147 P::e148 P::e149 P::e150 P::e151 P::e152 P::e153 P::e154 P::e155 P::e167 P::e168 P::e169 P::e170 P::e171 P::e172 P::e173 P::e174 P::e175 P::e176 P::e177 P::e178 P::e179 P::e180 P::e181 P::e182 P::e220 P::e184 P::e185 P::e186 P::e187 P::e188 P::e189 P::e190 P::e191 P::e192 P::e195 P::e196 P::e197 P::e198 P::e199 P::e200 P::e201 P::e202 P::e203 P::e204 P::e205 P::e206 P::e207 P::e208 P::e209 P::e210 P::e211 P::e212 P::e213 P::e214 P::e215 P::e216 P::e217 P::e218 P::e221 P::e222 P::e223 P::e224 P::e225 P::e226 P::e227 P::e228 P::e229 P::e230 P::e231 P::e232 P::e233 P::e234 P::e235 P::e236 P::e237 P::e238 P::e239 P::e240 P::e242 P::e243 P::e244 P::e245 P::e246 P::e247 P::e248 P::e249 P::[])) 174),List.toArray ([])⟩
noncomputable def o754 (P:Q):O:=⟨.none,none,(.fields (List.toArray ((n 1 0)::(n 0 0)::(r 20)::(n 5 0)::(n 0 0)::(r 27)::(n 7 0)::(n 0 0)::(r 34)::(n 47 0)::(n 0 0)::(r 97)::(n 53 0)::(n 0 0)::(r 118)::(n 55 0)::(n 0 0)::(r 130)::(n 58 0)::(n 0 0)::(r 142)::(n 60 0)::(n 0 0)::(r 150)::(n 63 0)::(n 0 0)::(r 157)::(n 65 0)::(n 0 0)::(r 164)::(n 68 0)::(n 0 0)::(r 171)::(n 70 0)::(n 0 0)::(r 178)::(n 72 0)::(n 0 0)::(r 185)::(n 74 0)::(n 0 0)::(r 192)::(n 81 0)::(n 0 0)::(r 199)::(n 83 0)::(n 0 0)::(r 206)::(n 94 0)::(n 0 0)::(r 213)::(n 105 0)::(n 0 0)::(r 220)::(n 114 0)::(n 0 0)::(r 227)::(n 124 0)::(n 0 0)::(r 234)::(n 126 0)::(n 0 0)::(r 241)::(n 133 0)::(n 0 0)::(r 248)::(n 179 0)::(n 0 0)::(r 290)::(n 199 0)::(n 0 0)::(r 333)::(n 203 0)::(n 0 0)::(r 340)::(n 207 0)::(n 0 0)::(r 347)::(n 211 0)::(n 0 0)::(r 354)::(n 215 0)::(n 0 0)::(r 361)::(n 220 0)::(n 0 0)::(r 368)::(n 226 0)::(n 0 0)::(r 375)::(n 232 0)::(n 0 0)::(r 382)::(n 243 0)::(n 0 0)::(r 389)::(n 258 0)::(n 0 0)::(r 396)::(n 266 0)::(n 0 0)::(r 403)::(n 273 0)::(n 0 0)::(r 410)::(n 283 0)::(n 0 0)::(r 417)::(n 291 0)::(n 0 0)::(r 424)::(n 296 0)::(n 0 0)::(r 431)::(n 301 0)::(n 0 0)::(r 438)::(n 303 0)::(n 0 0)::(r 445)::(n 306 0)::(n 0 0)::(r 452)::(n 308 0)::(n 0 0)::(r 459)::(n 311 0)::(n 0 0)::(r 466)::(n 316 0)::(n 0 0)::(r 473)::(n 322 0)::(n 0 0)::(r 480)::(n 325 0)::(n 0 0)::(r 487)::(n 327 0)::(n 0 0)::(r 494)::(n 332 0)::(n 0 0)::(r 501)::(n 334 0)::(n 0 0)::(r 508)::(n 336 0)::(n 0 0)::(r 515)::(n 338 0)::(n 0 0)::(r 522)::(n 347 0)::(n 0 0)::(r 529)::(n 349 0)::(n 0 0)::(r 536)::(n 351 0)::(n 0 0)::(r 543)::(n 353 0)::(n 0 0)::(r 550)::(n 355 0)::(n 0 0)::(r 557)::(n 360 0)::(n 0 0)::(r 564)::(n 362 0)::(n 0 0)::(r 571)::(n 364 0)::(n 0 0)::(r 578)::(n 366 0)::(n 0 0)::(r 585)::(n 374 0)::(n 0 0)::(r 592)::(n 385 0)::(n 0 0)::(r 599)::(n 405 0)::(n 0 0)::(r 606)::(n 423 0)::(n 0 0)::(r 613)::(n 441 0)::(n 0 0)::(r 620)::(n 455 0)::(n 0 0)::(r 627)::(n 464 0)::(n 0 0)::(r 634)::(n 466 0)::(n 0 0)::(r 641)::(n 474 0)::(n 0 0)::(r 648)::(n 480 0)::(n 0 0)::(r 655)::(n 488 0)::(n 0 0)::(r 662)::(n 493 0)::(n 0 0)::(r 669)::(n 507 0)::(n 0 0)::(r 674)::(n 538 0)::(n 0 0)::(r 681)::(n 545 0)::(n 0 0)::(r 688)::(n 549 0)::(n 0 0)::(r 695)::(n 568 0)::(n 0 0)::(r 702)::(n 580 0)::(n 0 0)::(r 709)::(n 623 0)::(n 0 0)::(r 755)::(n 631 0)::(n 0 0)::(r 762)::(n 638 0)::(n 0 0)::(r 769)::(n 649 0)::(n 0 0)::(r 776)::(n 657 0)::(n 0 0)::(r 783)::(n 668 0)::(n 0 0)::(r 790)::(n 671 0)::(n 0 0)::(r 797)::(n 698 0)::(n 0 0)::(r 804)::(n 717 0)::(n 0 0)::(r 811)::(n 726 0)::(n 0 0)::(r 818)::(n 732 0)::(n 0 0)::(r 825)::(n 738 0)::(n 0 0)::(r 832)::(n 746 0)::(n 0 0)::(r 839)::(n 752 0)::(n 0 0)::(r 844)::(n 770 0)::(n 0 0)::(r 851)::(n 781 0)::(n 0 0)::(r 856)::(n 787 0)::(n 0 0)::(r 863)::(n 812 0)::(n 0 0)::(r 870)::(n 819 0)::(n 0 0)::(r 877)::(n 826 0)::(n 0 0)::(r 884)::(n 837 0)::(n 0 0)::(r 891)::(n 842 0)::(n 0 0)::(r 898)::(n 844 0)::(n 0 0)::(r 905)::(n 862 0)::(n 0 0)::(r 912)::(n 873 0)::(n 0 0)::(r 919)::(n 877 0)::(n 0 0)::(r 926)::(n 884 0)::(n 0 0)::(r 933)::(n 890 0)::(n 0 0)::(r 940)::(n 894 0)::(n 0 0)::(r 947)::(n 899 0)::(n 0 0)::(r 954)::(n 901 0)::(n 0 0)::(r 961)::(n 903 0)::(n 0 0)::(r 968)::(n 905 0)::(n 0 0)::(r 975)::(n 909 0)::(n 0 0)::(r 982)::(n 913 0)::(n 0 0)::(r 989)::(n 915 0)::(n 0 0)::(r 996)::(n 922 0)::(n 0 0)::(r 1003)::(n 941 0)::(n 0 0)::(r 1010)::(n 948 0)::(n 0 0)::(r 1017)::(n 955 0)::(n 0 0)::(r 1024)::(n 965 0)::(n 0 0)::(r 1031)::(n 971 0)::(n 0 0)::(r 1038)::(n 993 0)::(n 0 0)::(r 1045)::(n 1006 0)::(n 0 0)::(r 1052)::(n 1025 0)::(n 0 0)::(r 1059)::(n 1037 0)::(n 0 0)::(r 1066)::(n 1045 0)::(n 0 0)::(r 1073)::(n 1063 0)::(n 0 0)::(r 1080)::(n 1072 0)::(n 0 0)::(r 1087)::(n 1082 0)::(n 0 0)::(r 1094)::(n 1087 0)::(n 0 0)::(r 1101)::(n 1094 0)::(n 0 0)::(r 1108)::(n 1102 0)::(n 0 0)::(r 1115)::(n 1106 0)::(n 0 0)::(r 1122)::(n 1134 0)::(n 0 0)::(r 1129)::(n 1141 0)::(n 0 0)::(r 1136)::(n 1160 0)::(n 0 0)::(r 1143)::(n 1183 0)::(n 0 0)::(r 1150)::(n 1186 0)::(n 0 0)::(r 1157)::(n 1189 0)::(n 0 0)::(r 1164)::(n 1196 0)::(n 0 0)::(r 1171)::(n 1199 0)::(n 0 0)::(r 1178)::(n 1212 0)::(n 0 0)::(r 1185)::(n 1217 0)::(n 0 0)::(r 1192)::(n 1226 0)::(n 0 0)::(r 1199)::(n 1231 0)::(n 0 0)::(r 1206)::(n 1242 0)::(n 0 0)::(r 1213)::(n 1252 0)::(n 0 0)::(r 1220)::(n 1256 0)::(n 0 0)::(r 1225)::(n 1258 0)::(n 0 0)::(r 1232)::(n 1267 0)::(n 0 0)::(r 1239)::(n 1271 0)::(n 0 0)::(r 1246)::(n 1287 0)::(n 0 0)::(r 1253)::(n 1297 0)::(n 0 0)::(r 1260)::(n 1380 0)::(n 0 0)::(r 1337)::(n 1385 0)::(n 0 0)::(r 1344)::(n 1390 0)::(n 0 0)::(r 1351)::(n 1404 0)::(n 0 0)::(r 1358)::(n 1406 0)::(n 0 0)::(r 1365)::(n 1419 0)::(n 0 0)::(r 1372)::(n 1424 0)::(n 0 0)::(r 1377)::[]))),List.toArray ([])⟩
noncomputable def e250 (P:Q):D:=(e P "__module__" 2010 (s "gateloom.scopes" 2001))
noncomputable def e251 (P:Q):D:=(e P "__qualname__" 2012 (s "Scope" 2011))
noncomputable def e252 (P:Q):D:=(e P "__firstlineno__" 2014 (n 1297 2013))
noncomputable def e253 (P:Q):D:=(e P "__init__" 2025 (r 1268))
noncomputable def e254 (P:Q):D:=(e P "child" 2036 (r 1275))
noncomputable def e255 (P:Q):D:=(e P "declare" 2046 (r 1282))
noncomputable def e256 (P:Q):D:=(e P "module_scope" 2053 (r 1289))
noncomputable def e257 (P:Q):D:=(e P "lookup" 2062 (r 1296))
noncomputable def e258 (P:Q):D:=(e P "lookup_routine" 2072 (r 1303))
noncomputable def e259 (P:Q):D:=(e P "descend" 2084 (r 1310))
noncomputable def e260 (P:Q):D:=(e P "resolve" 2095 (r 1317))
noncomputable def e261 (P:Q):D:=(e P "answers_to" 2103 (r 1324))
noncomputable def e262 (P:Q):D:=(e P "__static_attributes__" 2113 (r 1325))
noncomputable def o755 (P:Q):O:=⟨(.type "dict"),none,(.dict (List.toArray (e250 P::e251 P::e252 P::e253 P::e254 P::e255 P::e256 P::e257 P::e258 P::e259 P::e260 P::e261 P::e262 P::[])) 13),List.toArray ([])⟩
noncomputable def o756 (P:Q):O:=⟨.none,none,(.fields (List.toArray ((n 1299 0)::(n 4 0)::(r 1267)::(n 1313 0)::(n 4 0)::(r 1274)::(n 1318 0)::(n 4 0)::(r 1281)::(n 1323 0)::(n 4 0)::(r 1288)::(n 1326 0)::(n 4 0)::(r 1295)::(n 1336 0)::(n 4 0)::(r 1302)::(n 1347 0)::(n 4 0)::(r 1309)::(n 1366 0)::(n 4 0)::(r 1316)::(n 1377 0)::(n 4 0)::(r 1323)::[]))),List.toArray ([])⟩
noncomputable def o757 (P:Q):O:=⟨(.type "code"),none,(.fields (List.toArray ((s "Scope" 2005)::(s "Scope" 2006)::(s "/claim/cut.py" 2007)::(n 1297 0)::(n 0 0)::(n 0 0)::(n 0 0)::(n 0 0)::(r 1258)::(.bool false)::(n 181 0)::(r 1259)::.none::.none::.none::.none::(n 2008 0)::(n 1297 0)::(s "/claim/cut.py" 2009)::[]))),List.toArray ([])⟩
noncomputable def o758 (P:Q):O:=⟨(.type "frame"),none,.plain,List.toArray ((some (r 1260))::(some (r 3))::(some (r 1257))::none::(some (s "gateloom.scopes" 2001))::none::(some (r 0))::[])⟩
noncomputable def o759 (P:Q):O:=tup ((s "self" 2018)::(s "design" 2019)::(s "name" 2020)::(s "parent" 2021)::(s "kind" 2022)::[])
noncomputable def o760 (P:Q):O:=raw (mAt 173 0) (S "Scope.__init__")
noncomputable def o761 (P:Q):O:=cO "__init__" "Scope.__init__" 2015 1299 5 1262 2023
noncomputable def o762 (P:Q):O:=fobj (mAt 173 0) (S "Scope.__init__") (s "gateloom.scopes" 2001) (r 1267) .none
noncomputable def o763 (P:Q):O:=tup ((s "self" 2029)::(s "name" 2030)::(s "kind" 2031)::(s "at" 2032)::(s "inner" 2033)::[])
noncomputable def o764 (P:Q):O:=raw (mAt 173 1) (S "Scope.child")
noncomputable def o765 (P:Q):O:=cO "child" "Scope.child" 2026 1313 4 1269 2034
noncomputable def o766 (P:Q):O:=fobj (mAt 173 1) (S "Scope.child") (s "gateloom.scopes" 2001) (r 1274) .none
noncomputable def o767 (P:Q):O:=tup ((s "self" 2040)::(s "name" 2041)::(s "entry" 2042)::(s "at" 2043)::[])
noncomputable def o768 (P:Q):O:=raw (mAt 173 2) (S "Scope.declare")
noncomputable def o769 (P:Q):O:=cO "declare" "Scope.declare" 2037 1318 4 1276 2044
noncomputable def o770 (P:Q):O:=fobj (mAt 173 2) (S "Scope.declare") (s "gateloom.scopes" 2001) (r 1281) .none
noncomputable def o771 (P:Q):O:=tup ((s "self" 2050)::[])
noncomputable def o772 (P:Q):O:=raw (mAt 173 3) (S "Scope.module_scope")
noncomputable def o773 (P:Q):O:=cO "module_scope" "Scope.module_scope" 2047 1323 1 1283 2051
noncomputable def o774 (P:Q):O:=fobj (mAt 173 3) (S "Scope.module_scope") (s "gateloom.scopes" 2001) (r 1288) .none
noncomputable def o775 (P:Q):O:=tup ((s "self" 2057)::(s "name" 2058)::(s "scope" 2059)::[])
noncomputable def o776 (P:Q):O:=raw (mAt 173 4) (S "Scope.lookup")
noncomputable def o777 (P:Q):O:=cO "lookup" "Scope.lookup" 2054 1326 2 1290 2060
noncomputable def o778 (P:Q):O:=fobj (mAt 173 4) (S "Scope.lookup") (s "gateloom.scopes" 2001) (r 1295) .none
noncomputable def o779 (P:Q):O:=tup ((s "self" 2066)::(s "name" 2067)::(s "scope" 2068)::(s "entry" 2069)::[])
noncomputable def o780 (P:Q):O:=raw (mAt 173 5) (S "Scope.lookup_routine")
noncomputable def o781 (P:Q):O:=cO "lookup_routine" "Scope.lookup_routine" 2063 1336 2 1297 2070
noncomputable def o782 (P:Q):O:=fobj (mAt 173 5) (S "Scope.lookup_routine") (s "gateloom.scopes" 2001) (r 1302) .none
noncomputable def o783 (P:Q):O:=tup ((s "self" 2076)::(s "parts" 2077)::(s "entry" 2078)::(s "within" 2079)::(s "name" 2080)::(s "scope" 2081)::[])
noncomputable def o784 (P:Q):O:=raw (mAt 173 6) (S "Scope.descend")
noncomputable def o785 (P:Q):O:=cO "descend" "Scope.descend" 2073 1347 2 1304 2082
noncomputable def o786 (P:Q):O:=fobj (mAt 173 6) (S "Scope.descend") (s "gateloom.scopes" 2001) (r 1309) .none
noncomputable def o787 (P:Q):O:=tup ((s "self" 2088)::(s "parts" 2089)::(s "at" 2090)::(s "scope" 2091)::(s "entry" 2092)::[])
noncomputable def o788 (P:Q):O:=raw (mAt 173 7) (S "Scope.resolve")
noncomputable def o789 (P:Q):O:=cO "resolve" "Scope.resolve" 2085 1366 3 1311 2093
noncomputable def o790 (P:Q):O:=fobj (mAt 173 7) (S "Scope.resolve") (s "gateloom.scopes" 2001) (r 1316) .none
noncomputable def o791 (P:Q):O:=tup ((s "self" 2099)::(s "name" 2100)::[])
noncomputable def o792 (P:Q):O:=raw (mAt 173 8) (S "Scope.answers_to")
noncomputable def o793 (P:Q):O:=cO "answers_to" "Scope.answers_to" 2096 1377 2 1318 2101
noncomputable def o794 (P:Q):O:=fobj (mAt 173 8) (S "Scope.answers_to") (s "gateloom.scopes" 2001) (r 1323) .none
noncomputable def o795 (P:Q):O:=tup ((s "design" 2104)::(s "entries" 2105)::(s "kind" 2106)::(s "module_name" 2107)::(s "name" 2108)::(s "nettype" 2109)::(s "number" 2110)::(s "parent" 2111)::(s "path" 2112)::[])
noncomputable def e263 (P:Q):D:=(e P "__dict__" 2115 (r 1328))
noncomputable def e264 (P:Q):D:=(e P "__weakref__" 2117 (r 1329))
noncomputable def e265 (P:Q):D:=(e P "__doc__" 2118 .none)
noncomputable def o796 (P:Q):O:=⟨(.type "dict"),none,(.dict (List.toArray (e250 P::e252 P::e253 P::e254 P::e255 P::e256 P::e257 P::e258 P::e259 P::e260 P::e261 P::e262 P::e263 P::e264 P::e265 P::[])) 4),List.toArray ([])⟩
noncomputable def o797 (P:Q):O:=⟨(.type "type"),none,(.cls { name:=(S "Scope"),bases:=(.type "object")::[],mro:=(r 1327)::(.type "object")::[],ns:=1326,qualname:=(S "Scope"),hasDict:=true,slotNames:=[],subclasses:=[],abstract:=false,collection:=none,hasDel:=false }),List.toArray (none::none::(some (s "Scope" 2003))::(some (s "Scope" 2011))::(some (.builtin "object.__new__"))::(some (.bool true))::[])⟩
noncomputable def o798 (P:Q):O:=⟨(.type "getset_descriptor"),none,(.fields (List.toArray ((s "__dict__" 2114)::(r 1327)::(.builtin "function.__dict__")::(.builtin "function.__dict__#set")::[]))),List.toArray ([])⟩
noncomputable def o799 (P:Q):O:=⟨(.type "getset_descriptor"),none,(.fields (List.toArray ((s "__weakref__" 2116)::(r 1327)::(.builtin "ExceptionGroup.__weakref__")::.none::[]))),List.toArray ([])⟩
noncomputable def o800 (P:Q):O:=⟨(.type "super"),none,(.fields (List.toArray ((r 1327)::(r 1327)::(r 1327)::[]))),List.toArray ([])⟩
noncomputable def o801 (P:Q):O:=⟨(.type "builtin_function_or_method"),none,(.fields (List.toArray ((.builtin "object.__init_subclass__")::(r 1327)::[]))),List.toArray ([])⟩
noncomputable def o802 (P:Q):O:=tup ((s "script" 2126)::(s "digits" 2127)::(s "cell" 2128)::[])
noncomputable def o803 (P:Q):O:=raw (stAt 175) (S "_law_open")
noncomputable def o804 (P:Q):O:=cO "_law_open" "_law_open" 2123 1380 1 1332 2129
noncomputable def o805 (P:Q):O:=fobj (stAt 175) (S "_law_open") (s "law_pq0481_01" 2121) (r 1337) .none
noncomputable def o806 (P:Q):O:=tup ((s "hand" 2135)::(s "ways" 2136)::[])
noncomputable def o807 (P:Q):O:=raw (stAt 176) (S "_law_next")
noncomputable def o808 (P:Q):O:=cO "_law_next" "_law_next" 2132 1385 2 1339 2137
noncomputable def o809 (P:Q):O:=fobj (stAt 176) (S "_law_next") (s "law_pq0481_01" 2121) (r 1344) .none
noncomputable def o810 (P:Q):O:=tup ((s "hand" 2143)::(s "deep" 2144)::(s "called" 2145)::(s "kind" 2146)::(s "name" 2147)::[])
noncomputable def o811 (P:Q):O:=raw (stAt 177) (S "_law_expression")
noncomputable def o812 (P:Q):O:=cO "_law_expression" "_law_expression" 2140 1390 3 1346 2148
noncomputable def o813 (P:Q):O:=fobj (stAt 177) (S "_law_expression") (s "law_pq0481_01" 2121) (r 1351) .none
noncomputable def o814 (P:Q):O:=tup ((s "top" 2154)::[])
noncomputable def o815 (P:Q):O:=raw (stAt 178) (S "_law_span")
noncomputable def o816 (P:Q):O:=cO "_law_span" "_law_span" 2151 1404 1 1353 2155
noncomputable def o817 (P:Q):O:=fobj (stAt 178) (S "_law_span") (s "law_pq0481_01" 2121) (r 1358) .none
noncomputable def o818 (P:Q):O:=tup ((s "hand" 2161)::(s "kind" 2162)::(s "name" 2163)::(s "bounds" 2164)::(s "signed" 2165)::(s "arrays" 2166)::[])
noncomputable def o819 (P:Q):O:=raw (stAt 179) (S "_law_item")
noncomputable def o820 (P:Q):O:=cO "_law_item" "_law_item" 2158 1406 1 1360 2167
noncomputable def o821 (P:Q):O:=fobj (stAt 179) (S "_law_item") (s "law_pq0481_01" 2121) (r 1365) .none
noncomputable def o822 (P:Q):O:=tup ((s "scope" 2173)::(s "port" 2174)::(s "partner" 2175)::(s "fault" 2176)::[])
noncomputable def o823 (P:Q):O:=raw (stAt 180) (S "_law_told")
noncomputable def o824 (P:Q):O:=cO "_law_told" "_law_told" 2170 1419 3 1367 2177
noncomputable def o825 (P:Q):O:=fobj (stAt 180) (S "_law_told") (s "law_pq0481_01" 2121) (r 1372) .none
noncomputable def o826 (P:Q):O:=raw (stAt 181) (S "law")
noncomputable def o827 (P:Q):O:=⟨(.type "code"),none,(.fields (List.toArray ((s "law" 2180)::(s "law" 2181)::(s "/claim/cut.py" 2182)::(n 1424 0)::(n 1 0)::(n 0 0)::(n 0 0)::(n 3 0)::(r 1374)::(.bool true)::(n 181 0)::(r 1375)::.none::.none::.none::(r 1376)::(n 2183 0)::(n 1424 0)::(s "/claim/cut.py" 2184)::[]))),List.toArray ([])⟩
noncomputable def o828 (P:Q):O:=fobj (stAt 181) (S "law") (s "law_pq0481_01" 2121) (r 1377) .none
noncomputable def t0:T:=(N boot_o_0 (N boot_o_1 (N boot_o_3 (M boot_o_7) (M o0)) (N boot_o_5 (M boot_o_9) (M o2))) (N boot_o_2 (N boot_o_4 (M boot_o_8) (M o1)) (N boot_o_6 (M boot_o_10) (M o3))))
noncomputable def t1:T:=(N boot_o_0 (N boot_o_1 (N o5 (N boot_o_7 (N o0 (N o15 (M o34) (M o0)) (N o24 (M o1) (M o68))) (N o1 (N o0 (M o0) (M o0)) (N o29 (M o49) Z))) (N o0 (N o8 (N o18 (M o0) (M o59)) (N o1 (M o45) Z)) (N o12 (N o0 (M o40) (M o64)) (N o31 (M o53) Z)))) (N boot_o_5 (N boot_o_9 (N o7 (N o16 (M o1) (M o57)) (N o26 (M o0) Z)) (N o0 (N o21 (M o39) (M o62)) (N o0 (M o51) Z))) (N o2 (N o10 (N o1 (M o37) (M o1)) (N o0 (M o47) Z)) (N o0 (N o23 (M o42) (M o66)) (N o32 (M o14) Z))))) (N o4 (N boot_o_4 (N boot_o_8 (N o1 (N o0 (M o0) (M o56)) (N o25 (M o43) (M o69))) (N o0 (N o20 (M o1) (M o61)) (N o30 (M o50) Z))) (N o6 (N o9 (N o0 (M o36) (M o0)) (N o27 (M o46) Z)) (N o13 (N o1 (M o41) (M o65)) (N o0 (M o54) Z)))) (N boot_o_6 (N boot_o_10 (N o0 (N o17 (M o35) (M o58)) (N o0 (M o44) Z)) (N o11 (N o22 (M o0) (M o63)) (N o1 (M o52) Z))) (N o3 (N o0 (N o19 (M o38) (M o60)) (N o28 (M o48) Z)) (N o14 (N o0 (M o0) (M o67)) (N o33 (M o55) Z))))))
noncomputable def t2:T:=(N boot_o_0 (N boot_o_1 (N o70 (N boot_o_7 (N o0 (N o15 (N o34 (M o81) (M o118)) (N o0 (M o0) Z)) (N o24 (N o1 (M o91) (M o128)) (N o68 (M o109) Z))) (N o1 (N o0 (N o0 (M o86) (M o123)) (N o0 (M o1) Z)) (N o29 (N o49 (M o96) Z) (N o76 (M o0) Z)))) (N o0 (N o8 (N o18 (N o0 (M o83) (M o1)) (N o59 (M o102) Z)) (N o1 (N o45 (M o93) (M o0)) (N o74 (M o112) Z))) (N o12 (N o0 (N o40 (M o88) (M o125)) (N o64 (M o107) Z)) (N o31 (N o53 (M o0) Z) (N o79 (M o0) Z))))) (N boot_o_5 (N boot_o_9 (N o7 (N o16 (N o1 (M o1) (M o120)) (N o57 (M o101) Z)) (N o26 (N o0 (M o0) (M o1)) (N o73 (M o110) Z))) (N o0 (N o21 (N o39 (M o0) (M o0)) (N o62 (M o0) Z)) (N o0 (N o51 (M o1) Z) (N o77 (M o115) Z)))) (N o2 (N o10 (N o1 (N o37 (M o84) (M o0)) (N o1 (M o104) Z)) (N o0 (N o47 (M o94) (M o131)) (N o1 (M o1) Z))) (N o0 (N o23 (N o42 (M o89) (M o126)) (N o72 (M o0) Z)) (N o32 (N o14 (M o99) Z) (N o73 (M o117) Z)))))) (N o4 (N boot_o_4 (N boot_o_8 (N o1 (N o0 (N o0 (M o0) (M o119)) (N o56 (M o1) Z)) (N o25 (N o43 (M o92) (M o0)) (N o69 (M o0) Z))) (N o0 (N o20 (N o1 (M o87) (M o124)) (N o61 (M o105) Z)) (N o30 (N o50 (M o0) Z) (N o0 (M o114) Z)))) (N o71 (N o9 (N o0 (N o36 (M o0) (M o121)) (N o0 (M o103) Z)) (N o27 (N o46 (M o0) (M o130)) (N o0 (M o0) Z))) (N o13 (N o1 (N o41 (M o0) (M o0)) (N o65 (M o108) Z)) (N o0 (N o54 (M o98) Z) (N o80 (M o1) Z))))) (N boot_o_6 (N boot_o_10 (N o0 (N o17 (N o35 (M o82) (M o0)) (N o58 (M o0) Z)) (N o0 (N o44 (M o1) (M o129)) (N o14 (M o111) Z))) (N o11 (N o22 (N o0 (M o1) (M o1)) (N o63 (M o106) Z)) (N o1 (N o52 (M o97) Z) (N o78 (M o116) Z)))) (N o3 (N o0 (N o19 (N o38 (M o85) (M o122)) (N o60 (M o0) Z)) (N o28 (N o48 (M o95) (M o132)) (N o75 (M o113) Z))) (N o14 (N o0 (N o0 (M o90) (M o127)) (N o67 (M o1) Z)) (N o33 (N o55 (M o100) Z) (N o14 (M o0) Z)))))))
noncomputable def t3:T:=(N boot_o_0 (N boot_o_1 (N o133 (N boot_o_7 (N o0 (N o15 (N o34 (N o81 (M o157) Z) (N o118 (M o197) Z)) (N o0 (N o0 (M o178) Z) (M o1))) (N o24 (N o1 (N o91 (M o0) Z) (M o128)) (N o68 (N o109 (M o0) Z) (M o0)))) (N o1 (N o0 (N o0 (N o86 (M o162) Z) (N o123 (M o205) Z)) (N o0 (N o1 (M o183) Z) (M o143))) (N o29 (N o49 (N o96 (M o172) Z) (M o0)) (N o76 (N o0 (M o192) Z) (M o152))))) (N o0 (N o8 (N o18 (N o0 (N o83 (M o159) Z) (N o1 (M o201) Z)) (N o59 (N o102 (M o181) Z) (M o141))) (N o1 (N o45 (N o93 (M o168) Z) (M o0)) (N o74 (N o112 (M o0) Z) (M o0)))) (N o12 (N o0 (N o40 (N o88 (M o0) Z) (M o125)) (N o64 (N o107 (M o186) Z) (M o146))) (N o31 (N o53 (N o0 (M o176) Z) (M o136)) (N o79 (N o0 (M o1) Z) (M o1)))))) (N boot_o_5 (N boot_o_9 (N o7 (N o16 (N o1 (N o1 (M o0) Z) (N o120 (M o199) Z)) (N o57 (N o101 (M o179) Z) (M o0))) (N o26 (N o0 (N o0 (M o167) Z) (M o1)) (N o73 (N o110 (M o189) Z) (M o149)))) (N o0 (N o21 (N o39 (N o0 (M o1) Z) (M o0)) (N o62 (N o0 (M o184) Z) (M o144))) (N o0 (N o51 (N o1 (M o174) Z) (M o135)) (N o77 (N o115 (M o194) Z) (M o154))))) (N o2 (N o10 (N o1 (N o37 (N o84 (M o160) Z) (N o0 (M o203) Z)) (N o1 (N o104 (M o0) Z) (M o0))) (N o0 (N o47 (N o94 (M o170) Z) (M o131)) (N o1 (N o1 (M o191) Z) (M o151)))) (N o0 (N o23 (N o42 (N o89 (M o165) Z) (M o126)) (N o72 (N o0 (M o1) Z) (M o1))) (N o32 (N o14 (N o99 (M o0) Z) (M o138)) (N o73 (N o117 (M o0) Z) (M o0))))))) (N o4 (N boot_o_4 (N boot_o_8 (N o1 (N o0 (N o0 (N o0 (M o158) Z) (N o119 (M o198) Z)) (N o56 (N o1 (M o0) Z) (M o139))) (N o25 (N o43 (N o92 (M o1) Z) (M o0)) (N o69 (N o0 (M o188) Z) (M o148)))) (N o0 (N o20 (N o1 (N o87 (M o0) Z) (M o124)) (N o61 (N o105 (M o0) Z) (M o0))) (N o30 (N o50 (N o0 (M o173) Z) (M o1)) (N o0 (N o114 (M o193) Z) (M o153))))) (N o134 (N o9 (N o0 (N o36 (N o0 (M o0) Z) (N o121 (M o202) Z)) (N o0 (N o103 (M o182) Z) (M o142))) (N o27 (N o46 (N o0 (M o169) Z) (M o130)) (N o0 (N o0 (M o1) Z) (M o14)))) (N o13 (N o1 (N o41 (N o0 (M o164) Z) (M o0)) (N o65 (N o108 (M o0) Z) (M o0))) (N o0 (N o54 (N o98 (M o177) Z) (M o137)) (N o80 (N o1 (M o195) Z) (M o155)))))) (N boot_o_6 (N boot_o_10 (N o0 (N o17 (N o35 (N o82 (M o1) Z) (N o0 (M o200) Z)) (N o58 (N o0 (M o180) Z) (M o140))) (N o0 (N o44 (N o1 (M o0) Z) (M o129)) (N o14 (N o111 (M o190) Z) (M o150)))) (N o11 (N o22 (N o0 (N o1 (M o163) Z) (M o1)) (N o63 (N o106 (M o185) Z) (M o145))) (N o1 (N o52 (N o97 (M o175) Z) (M o0)) (N o78 (N o116 (M o0) Z) (M o0))))) (N o3 (N o0 (N o19 (N o38 (N o85 (M o161) Z) (N o122 (M o204) Z)) (N o60 (N o0 (M o1) Z) (M o1))) (N o28 (N o48 (N o95 (M o171) Z) (M o132)) (N o75 (N o113 (M o0) Z) (M o0)))) (N o14 (N o0 (N o0 (N o90 (M o166) Z) (M o127)) (N o67 (N o1 (M o187) Z) (M o147))) (N o33 (N o55 (N o100 (M o14) Z) (M o0)) (N o14 (N o0 (M o196) Z) (M o156))))))))
noncomputable def t4:T:=(N boot_o_0 (N boot_o_1 (N o206 (N boot_o_7 (N o0 (N o15 (N o34 (N o81 (M o157) (M o239)) (N o118 (M o197) (M o0))) (N o0 (N o0 (M o178) (M o0)) (N o1 (M o220) (M o293)))) (N o24 (N o1 (N o91 (M o0) (M o1)) (N o128 (M o0) (M o284))) (N o68 (N o109 (M o0) (M o266)) (N o0 (M o229) (M o303))))) (N o1 (N o0 (N o0 (N o86 (M o162) (M o0)) (N o123 (M o205) (M o1))) (N o0 (N o1 (M o183) (M o261)) (N o143 (M o0) (M o298)))) (N o29 (N o49 (N o96 (M o172) (M o252)) (N o0 (M o1) (M o0))) (N o76 (N o0 (M o192) (M o271)) (N o152 (M o234) Z))))) (N o0 (N o8 (N o18 (N o0 (N o83 (M o159) (M o0)) (N o1 (M o201) (M o277))) (N o59 (N o102 (M o181) (M o0)) (N o141 (M o223) (M o1)))) (N o1 (N o45 (N o93 (M o168) (M o250)) (N o0 (M o213) (M o287))) (N o74 (N o112 (M o0) (M o268)) (N o0 (M o1) Z)))) (N o12 (N o0 (N o40 (N o88 (M o0) (M o245)) (N o125 (M o0) (M o282))) (N o64 (N o107 (M o186) (M o1)) (N o146 (M o0) (M o300)))) (N o31 (N o53 (N o0 (M o176) (M o255)) (N o136 (M o218) (M o0))) (N o79 (N o0 (M o1) (M o0)) (N o1 (M o236) Z)))))) (N boot_o_5 (N boot_o_9 (N o7 (N o16 (N o1 (N o1 (M o0) (M o1)) (N o120 (M o199) (M o276))) (N o57 (N o101 (M o179) (M o258)) (N o0 (M o221) (M o295)))) (N o26 (N o0 (N o0 (M o167) (M o0)) (N o1 (M o212) (M o285))) (N o73 (N o110 (M o189) (M o0)) (N o149 (M o231) Z)))) (N o0 (N o21 (N o39 (N o0 (M o1) (M o244)) (N o0 (M o1) (M o0))) (N o62 (N o0 (M o184) (M o263)) (N o144 (M o226) (M o0)))) (N o0 (N o51 (N o1 (M o174) (M o253)) (N o135 (M o0) (M o290))) (N o77 (N o115 (M o194) (M o1)) (N o154 (M o0) Z))))) (N o2 (N o10 (N o1 (N o37 (N o84 (M o160) (M o242)) (N o0 (M o203) (M o279))) (N o1 (N o104 (M o0) (M o260)) (N o0 (M o1) (M o0)))) (N o0 (N o47 (N o94 (M o170) (M o0)) (N o131 (M o215) (M o1))) (N o1 (N o1 (M o191) (M o269)) (N o151 (M o0) Z)))) (N o0 (N o23 (N o42 (N o89 (M o165) (M o247)) (N o126 (M o210) (M o0))) (N o72 (N o0 (M o1) (M o0)) (N o1 (M o228) (M o301)))) (N o32 (N o14 (N o99 (M o0) (M o1)) (N o138 (M o0) (M o292))) (N o73 (N o117 (M o0) (M o274)) (N o0 (M o237) Z))))))) (N o4 (N boot_o_4 (N boot_o_8 (N o1 (N o0 (N o0 (N o0 (M o158) (M o0)) (N o119 (M o198) (M o1))) (N o56 (N o1 (M o0) (M o257)) (N o139 (M o0) (M o294)))) (N o25 (N o43 (N o92 (M o1) (M o248)) (N o0 (M o1) (M o0))) (N o69 (N o0 (M o188) (M o267)) (N o148 (M o230) Z)))) (N o0 (N o20 (N o1 (N o87 (M o0) (M o1)) (N o124 (M o0) (M o280))) (N o61 (N o105 (M o0) (M o262)) (N o0 (M o225) (M o299)))) (N o30 (N o50 (N o0 (M o173) (M o0)) (N o1 (M o216) (M o289))) (N o0 (N o114 (M o193) (M o0)) (N o153 (M o235) Z))))) (N o207 (N o9 (N o0 (N o36 (N o0 (M o0) (M o241)) (N o121 (M o202) (M o278))) (N o0 (N o103 (M o182) (M o1)) (N o142 (M o0) (M o296)))) (N o27 (N o46 (N o0 (M o169) (M o251)) (N o130 (M o214) (M o0))) (N o0 (N o0 (M o1) (M o0)) (N o14 (M o232) Z)))) (N o13 (N o1 (N o41 (N o0 (M o164) (M o246)) (N o0 (M o209) (M o283))) (N o65 (N o108 (M o0) (M o264)) (N o0 (M o1) (M o0)))) (N o0 (N o54 (N o98 (M o177) (M o0)) (N o137 (M o219) (M o1))) (N o80 (N o1 (M o195) (M o273)) (N o155 (M o0) Z)))))) (N boot_o_6 (N boot_o_10 (N o0 (N o17 (N o35 (N o82 (M o1) (M o240)) (N o0 (M o200) (M o0))) (N o58 (N o0 (M o180) (M o259)) (N o140 (M o222) (M o0)))) (N o0 (N o44 (N o1 (M o0) (M o249)) (N o129 (M o0) (M o286))) (N o14 (N o111 (M o190) (M o1)) (N o150 (M o0) Z)))) (N o11 (N o22 (N o0 (N o1 (M o163) (M o0)) (N o1 (M o208) (M o281))) (N o63 (N o106 (M o185) (M o0)) (N o145 (M o227) (M o1)))) (N o1 (N o52 (N o97 (M o175) (M o254)) (N o0 (M o217) (M o291))) (N o78 (N o116 (M o0) (M o272)) (N o0 (M o1) Z))))) (N o3 (N o0 (N o19 (N o38 (N o85 (M o161) (M o243)) (N o122 (M o204) (M o0))) (N o60 (N o0 (M o1) (M o0)) (N o1 (M o224) (M o297)))) (N o28 (N o48 (N o95 (M o171) (M o1)) (N o132 (M o0) (M o288))) (N o75 (N o113 (M o0) (M o270)) (N o0 (M o233) Z)))) (N o14 (N o0 (N o0 (N o90 (M o166) (M o0)) (N o127 (M o211) (M o1))) (N o67 (N o1 (M o187) (M o265)) (N o147 (M o0) (M o302)))) (N o33 (N o55 (N o100 (M o14) (M o256)) (N o0 (M o1) (M o0))) (N o14 (N o0 (M o196) (M o275)) (N o156 (M o238) Z))))))))
noncomputable def t5:T:=(N boot_o_0 (N boot_o_1 (N o304 (N boot_o_7 (N o0 (N o15 (N o34 (N o81 (N o157 (M o1) Z) (N o239 (M o0) Z)) (N o118 (N o197 (M o350) Z) (M o0))) (N o0 (N o0 (N o178 (M o332) Z) (M o0)) (N o1 (N o220 (M o369) Z) (M o293)))) (N o24 (N o1 (N o91 (N o0 (M o0) Z) (N o1 (M o396) Z)) (N o128 (N o0 (M o359) Z) (M o284))) (N o68 (N o109 (N o0 (M o0) Z) (M o266)) (N o0 (N o229 (M o1) Z) (M o303))))) (N o1 (N o0 (N o0 (N o86 (N o162 (M o318) Z) (N o0 (M o391) Z)) (N o123 (N o205 (M o0) Z) (M o1))) (N o0 (N o1 (N o183 (M o337) Z) (M o261)) (N o143 (N o0 (M o0) Z) (M o298)))) (N o29 (N o49 (N o96 (N o172 (M o327) Z) (N o252 (M o401) Z)) (N o0 (N o1 (M o364) Z) (M o0))) (N o76 (N o0 (N o192 (M o1) Z) (M o271)) (N o152 (N o234 (M o382) Z) (M o0)))))) (N o0 (N o8 (N o18 (N o0 (N o83 (N o159 (M o316) Z) (N o0 (M o0) Z)) (N o1 (N o201 (M o353) Z) (M o277))) (N o59 (N o102 (N o181 (M o334) Z) (M o0)) (N o141 (N o223 (M o0) Z) (M o1)))) (N o1 (N o45 (N o93 (N o168 (M o0) Z) (N o250 (M o398) Z)) (N o0 (N o213 (M o1) Z) (M o287))) (N o74 (N o112 (N o0 (M o343) Z) (M o268)) (N o0 (N o1 (M o380) Z) (M o0))))) (N o12 (N o0 (N o40 (N o88 (N o0 (M o321) Z) (N o245 (M o1) Z)) (N o125 (N o0 (M o0) Z) (M o282))) (N o64 (N o107 (N o186 (M o0) Z) (M o1)) (N o146 (N o0 (M o375) Z) (M o300)))) (N o31 (N o53 (N o0 (N o176 (M o1) Z) (N o255 (M o0) Z)) (N o136 (N o218 (M o366) Z) (M o0))) (N o79 (N o0 (N o1 (M o348) Z) (M o0)) (N o1 (N o236 (M o385) Z) (M o311))))))) (N boot_o_5 (N boot_o_9 (N o7 (N o16 (N o1 (N o1 (N o0 (M o0) Z) (N o1 (M o388) Z)) (N o120 (N o199 (M o351) Z) (M o276))) (N o57 (N o101 (N o179 (M o0) Z) (M o258)) (N o0 (N o221 (M o1) Z) (M o295)))) (N o26 (N o0 (N o0 (N o167 (M o324) Z) (N o0 (M o0) Z)) (N o1 (N o212 (M o361) Z) (M o285))) (N o73 (N o110 (N o189 (M o342) Z) (M o0)) (N o149 (N o231 (M o0) Z) (M o1))))) (N o0 (N o21 (N o39 (N o0 (N o1 (M o319) Z) (N o244 (M o393) Z)) (N o0 (N o1 (M o356) Z) (M o0))) (N o62 (N o0 (N o184 (M o1) Z) (M o263)) (N o144 (N o226 (M o374) Z) (M o0)))) (N o0 (N o51 (N o1 (N o174 (M o329) Z) (N o253 (M o1) Z)) (N o135 (N o0 (M o0) Z) (M o290))) (N o77 (N o115 (N o194 (M o0) Z) (M o1)) (N o154 (N o0 (M o383) Z) (M o310)))))) (N o2 (N o10 (N o1 (N o37 (N o84 (N o160 (M o0) Z) (N o242 (M o390) Z)) (N o0 (N o203 (M o1) Z) (M o279))) (N o1 (N o104 (N o0 (M o335) Z) (M o260)) (N o0 (N o1 (M o372) Z) (M o0)))) (N o0 (N o47 (N o94 (N o170 (M o326) Z) (N o0 (M o399) Z)) (N o131 (N o215 (M o0) Z) (M o1))) (N o1 (N o1 (N o191 (M o345) Z) (M o269)) (N o151 (N o0 (M o0) Z) (M o308))))) (N o0 (N o23 (N o42 (N o89 (N o165 (M o1) Z) (N o247 (M o0) Z)) (N o126 (N o210 (M o358) Z) (M o0))) (N o72 (N o0 (N o1 (M o340) Z) (M o0)) (N o1 (N o228 (M o377) Z) (M o301)))) (N o32 (N o14 (N o99 (N o0 (M o0) Z) (N o1 (M o404) Z)) (N o138 (N o0 (M o367) Z) (M o292))) (N o73 (N o117 (N o0 (M o0) Z) (M o274)) (N o0 (N o237 (M o1) Z) (M o313)))))))) (N o4 (N boot_o_4 (N boot_o_8 (N o1 (N o0 (N o0 (N o0 (N o158 (M o314) Z) (N o0 (M o387) Z)) (N o119 (N o198 (M o0) Z) (M o1))) (N o56 (N o1 (N o0 (M o333) Z) (M o257)) (N o139 (N o0 (M o0) Z) (M o294)))) (N o25 (N o43 (N o92 (N o1 (M o323) Z) (N o248 (M o397) Z)) (N o0 (N o1 (M o360) Z) (M o0))) (N o69 (N o0 (N o188 (M o1) Z) (M o267)) (N o148 (N o230 (M o378) Z) (M o0))))) (N o0 (N o20 (N o1 (N o87 (N o0 (M o0) Z) (N o1 (M o392) Z)) (N o124 (N o0 (M o355) Z) (M o280))) (N o61 (N o105 (N o0 (M o0) Z) (M o262)) (N o0 (N o225 (M o1) Z) (M o299)))) (N o30 (N o50 (N o0 (N o173 (M o328) Z) (N o0 (M o0) Z)) (N o1 (N o216 (M o365) Z) (M o289))) (N o0 (N o114 (N o193 (M o346) Z) (M o0)) (N o153 (N o235 (M o0) Z) (M o1)))))) (N o305 (N o9 (N o0 (N o36 (N o0 (N o0 (M o317) Z) (N o241 (M o1) Z)) (N o121 (N o202 (M o0) Z) (M o278))) (N o0 (N o103 (N o182 (M o0) Z) (M o1)) (N o142 (N o0 (M o371) Z) (M o296)))) (N o27 (N o46 (N o0 (N o169 (M o1) Z) (N o251 (M o0) Z)) (N o130 (N o214 (M o362) Z) (M o0))) (N o0 (N o0 (N o1 (M o344) Z) (M o0)) (N o14 (N o232 (M o381) Z) (M o307))))) (N o13 (N o1 (N o41 (N o0 (N o164 (M o0) Z) (N o246 (M o394) Z)) (N o0 (N o209 (M o1) Z) (M o283))) (N o65 (N o108 (N o0 (M o339) Z) (M o264)) (N o0 (N o1 (M o376) Z) (M o0)))) (N o0 (N o54 (N o98 (N o177 (M o330) Z) (N o0 (M o403) Z)) (N o137 (N o219 (M o0) Z) (M o1))) (N o80 (N o1 (N o195 (M o349) Z) (M o273)) (N o155 (N o0 (M o0) Z) (M o312))))))) (N boot_o_6 (N boot_o_10 (N o0 (N o17 (N o35 (N o82 (N o1 (M o315) Z) (N o240 (M o389) Z)) (N o0 (N o200 (M o352) Z) (M o0))) (N o58 (N o0 (N o180 (M o1) Z) (M o259)) (N o140 (N o222 (M o370) Z) (M o0)))) (N o0 (N o44 (N o1 (N o0 (M o325) Z) (N o249 (M o1) Z)) (N o129 (N o0 (M o0) Z) (M o286))) (N o14 (N o111 (N o190 (M o0) Z) (M o1)) (N o150 (N o0 (M o379) Z) (M o306))))) (N o11 (N o22 (N o0 (N o1 (N o163 (M o320) Z) (N o0 (M o0) Z)) (N o1 (N o208 (M o357) Z) (M o281))) (N o63 (N o106 (N o185 (M o338) Z) (M o0)) (N o145 (N o227 (M o0) Z) (M o1)))) (N o1 (N o52 (N o97 (N o175 (M o0) Z) (N o254 (M o402) Z)) (N o0 (N o217 (M o1) Z) (M o291))) (N o78 (N o116 (N o0 (M o347) Z) (M o272)) (N o0 (N o1 (M o384) Z) (M o0)))))) (N o3 (N o0 (N o19 (N o38 (N o85 (N o161 (M o1) Z) (N o243 (M o0) Z)) (N o122 (N o204 (M o354) Z) (M o0))) (N o60 (N o0 (N o1 (M o336) Z) (M o0)) (N o1 (N o224 (M o373) Z) (M o297)))) (N o28 (N o48 (N o95 (N o171 (M o0) Z) (N o1 (M o400) Z)) (N o132 (N o0 (M o363) Z) (M o288))) (N o75 (N o113 (N o0 (M o0) Z) (M o270)) (N o0 (N o233 (M o1) Z) (M o309))))) (N o14 (N o0 (N o0 (N o90 (N o166 (M o322) Z) (N o0 (M o395) Z)) (N o127 (N o211 (M o0) Z) (M o1))) (N o67 (N o1 (N o187 (M o341) Z) (M o265)) (N o147 (N o0 (M o0) Z) (M o302)))) (N o33 (N o55 (N o100 (N o14 (M o331) Z) (N o256 (M o405) Z)) (N o0 (N o1 (M o368) Z) (M o0))) (N o14 (N o0 (N o196 (M o1) Z) (M o275)) (N o156 (N o238 (M o386) Z) (M o0)))))))))
noncomputable def t6:T:=(N boot_o_0 (N boot_o_1 (N o406 (N boot_o_7 (N o0 (N o15 (N o34 (N o81 (N o157 (M o1) (M o0)) (N o239 (M o0) Z)) (N o118 (N o197 (M o350) Z) (N o0 (M o427) Z))) (N o0 (N o0 (N o178 (M o332) Z) (N o0 (M o0) Z)) (N o1 (N o220 (M o369) Z) (N o293 (M o446) Z)))) (N o24 (N o1 (N o91 (N o0 (M o0) (M o476)) (N o1 (M o396) Z)) (N o128 (N o0 (M o359) Z) (N o284 (M o0) Z))) (N o68 (N o109 (N o0 (M o0) Z) (N o266 (M o417) Z)) (N o0 (N o229 (M o1) Z) (N o303 (M o1) Z))))) (N o1 (N o0 (N o0 (N o86 (N o162 (M o318) (M o471)) (N o0 (M o391) Z)) (N o123 (N o205 (M o0) Z) (N o1 (M o433) Z))) (N o0 (N o1 (N o183 (M o337) Z) (N o261 (M o0) Z)) (N o143 (N o0 (M o0) Z) (N o298 (M o451) Z)))) (N o29 (N o49 (N o96 (N o172 (M o327) (M o481)) (N o252 (M o401) Z)) (N o0 (N o1 (M o364) Z) (N o0 (M o1) Z))) (N o76 (N o0 (N o192 (M o1) Z) (N o271 (M o422) Z)) (N o152 (N o234 (M o382) Z) (N o0 (M o462) Z)))))) (N o0 (N o8 (N o18 (N o0 (N o83 (N o159 (M o316) (M o0)) (N o0 (M o0) Z)) (N o1 (N o408 (M o353) Z) (N o277 (M o0) Z))) (N o59 (N o102 (N o181 (M o334) Z) (N o0 (M o411) Z)) (N o141 (N o223 (M o0) Z) (N o1 (M o1) Z)))) (N o1 (N o45 (N o93 (N o168 (M o0) (M o478)) (N o250 (M o398) Z)) (N o0 (N o213 (M o1) Z) (N o287 (M o439) Z))) (N o74 (N o112 (N o0 (M o343) Z) (N o268 (M o1) Z)) (N o0 (N o1 (M o380) Z) (N o0 (M o460) Z))))) (N o12 (N o0 (N o40 (N o88 (N o0 (M o321) (M o1)) (N o245 (M o1) Z)) (N o125 (N o0 (M o0) Z) (N o282 (M o0) Z))) (N o64 (N o107 (N o186 (M o0) Z) (N o1 (M o0) Z)) (N o146 (N o0 (M o375) Z) (N o300 (M o455) Z)))) (N o31 (N o53 (N o0 (N o176 (M o1) (M o0)) (N o255 (M o0) Z)) (N o136 (N o218 (M o366) Z) (N o0 (M o0) Z))) (N o79 (N o0 (N o1 (M o348) Z) (N o0 (M o424) Z)) (N o1 (N o236 (M o385) Z) (N o311 (M o465) Z))))))) (N boot_o_5 (N boot_o_9 (N o7 (N o16 (N o1 (N o1 (N o0 (M o0) (M o468)) (N o1 (M o388) Z)) (N o120 (N o199 (M o351) Z) (N o276 (M o14) Z))) (N o57 (N o101 (N o179 (M o0) Z) (N o258 (M o409) Z)) (N o0 (N o221 (M o1) Z) (N o295 (M o448) Z)))) (N o26 (N o0 (N o0 (N o167 (M o324) (M o0)) (N o0 (M o0) Z)) (N o1 (N o212 (M o361) Z) (N o285 (M o438) Z))) (N o73 (N o110 (N o189 (M o342) Z) (N o0 (M o419) Z)) (N o149 (N o231 (M o0) Z) (N o1 (M o0) Z))))) (N o0 (N o21 (N o39 (N o0 (N o1 (M o319) (M o473)) (N o244 (M o393) Z)) (N o0 (N o1 (M o356) Z) (N o0 (M o1) Z))) (N o62 (N o0 (N o184 (M o1) Z) (N o263 (M o414) Z)) (N o144 (N o226 (M o374) Z) (N o0 (M o453) Z)))) (N o0 (N o51 (N o1 (N o174 (M o329) (M o1)) (N o253 (M o1) Z)) (N o135 (N o0 (M o0) Z) (N o290 (M o443) Z))) (N o77 (N o115 (N o194 (M o0) Z) (N o1 (M o0) Z)) (N o154 (N o0 (M o383) Z) (N o310 (M o463) Z)))))) (N o2 (N o10 (N o1 (N o37 (N o84 (N o160 (M o0) (M o470)) (N o242 (M o390) Z)) (N o0 (N o203 (M o1) Z) (N o279 (M o431) Z))) (N o1 (N o104 (N o0 (M o335) Z) (N o260 (M o1) Z)) (N o0 (N o1 (M o372) Z) (N o0 (M o0) Z)))) (N o0 (N o47 (N o94 (N o170 (M o326) (M o479)) (N o0 (M o399) Z)) (N o131 (N o215 (M o0) Z) (N o1 (M o441) Z))) (N o1 (N o1 (N o191 (M o345) Z) (N o269 (M o0) Z)) (N o151 (N o0 (M o0) Z) (N o308 (M o0) Z))))) (N o0 (N o23 (N o42 (N o89 (N o165 (M o1) (M o0)) (N o247 (M o0) Z)) (N o126 (N o210 (M o358) Z) (N o0 (M o436) Z))) (N o72 (N o0 (N o1 (M o340) Z) (N o0 (M o416) Z)) (N o1 (N o228 (M o377) Z) (N o301 (M o457) Z)))) (N o32 (N o14 (N o99 (N o0 (M o0) (M o484)) (N o1 (M o404) Z)) (N o138 (N o0 (M o367) Z) (N o292 (M o445) Z))) (N o73 (N o117 (N o0 (M o0) Z) (N o274 (M o425) Z)) (N o0 (N o237 (M o1) Z) (N o313 (M o1) Z)))))))) (N o4 (N boot_o_4 (N boot_o_8 (N o1 (N o0 (N o0 (N o0 (N o158 (M o314) (M o467)) (N o0 (M o387) Z)) (N o119 (N o198 (M o0) Z) (N o1 (M o428) Z))) (N o56 (N o1 (N o0 (M o333) Z) (N o257 (M o1) Z)) (N o139 (N o0 (M o0) Z) (N o294 (M o447) Z)))) (N o25 (N o43 (N o92 (N o1 (M o323) (M o477)) (N o248 (M o397) Z)) (N o0 (N o1 (M o360) Z) (N o0 (M o1) Z))) (N o69 (N o0 (N o188 (M o1) Z) (N o267 (M o418) Z)) (N o148 (N o230 (M o378) Z) (N o0 (M o458) Z))))) (N o0 (N o20 (N o1 (N o87 (N o0 (M o0) (M o472)) (N o1 (M o392) Z)) (N o124 (N o0 (M o355) Z) (N o280 (M o0) Z))) (N o61 (N o105 (N o0 (M o0) Z) (N o262 (M o413) Z)) (N o0 (N o225 (M o1) Z) (N o299 (M o452) Z)))) (N o30 (N o50 (N o0 (N o173 (M o328) (M o0)) (N o0 (M o0) Z)) (N o1 (N o216 (M o365) Z) (N o289 (M o442) Z))) (N o0 (N o114 (N o193 (M o346) Z) (N o0 (M o423) Z)) (N o153 (N o235 (M o0) Z) (N o1 (M o0) Z)))))) (N o407 (N o9 (N o0 (N o36 (N o0 (N o0 (M o317) (M o1)) (N o241 (M o1) Z)) (N o121 (N o202 (M o0) Z) (N o278 (M o430) Z))) (N o0 (N o103 (N o182 (M o0) Z) (N o1 (M o0) Z)) (N o142 (N o0 (M o371) Z) (N o296 (M o449) Z)))) (N o27 (N o46 (N o0 (N o169 (M o1) (M o0)) (N o251 (M o0) Z)) (N o130 (N o214 (M o362) Z) (N o0 (M o440) Z))) (N o0 (N o0 (N o1 (M o344) Z) (N o0 (M o420) Z)) (N o14 (N o232 (M o381) Z) (N o307 (M o461) Z))))) (N o13 (N o1 (N o41 (N o0 (N o164 (M o0) (M o474)) (N o246 (M o394) Z)) (N o0 (N o209 (M o1) Z) (N o283 (M o435) Z))) (N o65 (N o108 (N o0 (M o339) Z) (N o264 (M o1) Z)) (N o0 (N o1 (M o376) Z) (N o0 (M o456) Z)))) (N o0 (N o54 (N o98 (N o177 (M o330) (M o483)) (N o0 (M o403) Z)) (N o137 (N o219 (M o0) Z) (N o1 (M o1) Z))) (N o80 (N o1 (N o195 (M o349) Z) (N o273 (M o0) Z)) (N o155 (N o0 (M o0) Z) (N o312 (M o0) Z))))))) (N boot_o_6 (N boot_o_10 (N o0 (N o17 (N o35 (N o82 (N o1 (M o315) (M o469)) (N o240 (M o389) Z)) (N o0 (N o200 (M o352) Z) (N o0 (M o429) Z))) (N o58 (N o0 (N o180 (M o1) Z) (N o259 (M o410) Z)) (N o140 (N o222 (M o370) Z) (N o0 (M o0) Z)))) (N o0 (N o44 (N o1 (N o0 (M o325) (M o1)) (N o249 (M o1) Z)) (N o129 (N o0 (M o0) Z) (N o286 (M o0) Z))) (N o14 (N o111 (N o190 (M o0) Z) (N o1 (M o0) Z)) (N o150 (N o0 (M o379) Z) (N o306 (M o459) Z))))) (N o11 (N o22 (N o0 (N o1 (N o163 (M o320) (M o0)) (N o0 (M o0) Z)) (N o1 (N o208 (M o357) Z) (N o281 (M o434) Z))) (N o63 (N o106 (N o185 (M o338) Z) (N o0 (M o415) Z)) (N o145 (N o227 (M o0) Z) (N o1 (M o454) Z)))) (N o1 (N o52 (N o97 (N o175 (M o0) (M o482)) (N o254 (M o402) Z)) (N o0 (N o217 (M o1) Z) (N o291 (M o444) Z))) (N o78 (N o116 (N o0 (M o347) Z) (N o272 (M o1) Z)) (N o0 (N o1 (M o384) Z) (N o0 (M o464) Z)))))) (N o3 (N o0 (N o19 (N o38 (N o85 (N o161 (M o1) (M o0)) (N o243 (M o0) Z)) (N o122 (N o204 (M o354) Z) (N o0 (M o432) Z))) (N o60 (N o0 (N o1 (M o336) Z) (N o0 (M o412) Z)) (N o1 (N o224 (M o373) Z) (N o297 (M o450) Z)))) (N o28 (N o48 (N o95 (N o171 (M o0) (M o480)) (N o1 (M o400) Z)) (N o132 (N o0 (M o363) Z) (N o288 (M o0) Z))) (N o75 (N o113 (N o0 (M o0) Z) (N o270 (M o421) Z)) (N o0 (N o233 (M o1) Z) (N o309 (M o1) Z))))) (N o14 (N o0 (N o0 (N o90 (N o166 (M o322) (M o475)) (N o0 (M o395) Z)) (N o127 (N o211 (M o0) Z) (N o1 (M o437) Z))) (N o67 (N o1 (N o187 (M o341) Z) (N o265 (M o0) Z)) (N o147 (N o0 (M o0) Z) (N o302 (M o0) Z)))) (N o33 (N o55 (N o100 (N o14 (M o331) (M o485)) (N o256 (M o405) Z)) (N o0 (N o1 (M o368) Z) (N o0 (M o0) Z))) (N o14 (N o0 (N o196 (M o1) Z) (N o275 (M o426) Z)) (N o156 (N o238 (M o386) Z) (N o0 (M o466) Z)))))))))
noncomputable def t7:T:=(N boot_o_0 (N boot_o_1 (N o486 (N boot_o_7 (N o0 (N o15 (N o34 (N o81 (N o157 (M o1) (M o0)) (N o239 (M o0) (M o542))) (N o118 (N o197 (M o350) (M o505)) (N o0 (M o427) (M o0)))) (N o0 (N o0 (N o178 (M o332) (M o0)) (N o0 (M o0) (M o561))) (N o1 (N o220 (M o369) (M o524)) (N o293 (M o446) Z)))) (N o24 (N o1 (N o91 (N o0 (M o0) (M o476)) (N o1 (M o396) (M o551))) (N o128 (N o0 (M o359) (M o1)) (N o284 (M o0) Z))) (N o68 (N o109 (N o0 (M o0) (M o496)) (N o266 (M o417) (M o1))) (N o0 (N o229 (M o1) (M o0)) (N o303 (M o1) Z))))) (N o1 (N o0 (N o0 (N o86 (N o162 (M o318) (M o471)) (N o0 (M o391) (M o0))) (N o123 (N o205 (M o0) (M o510)) (N o1 (M o433) Z))) (N o0 (N o1 (N o183 (M o337) (M o1)) (N o261 (M o0) (M o0))) (N o143 (N o0 (M o0) (M o529)) (N o298 (M o451) Z)))) (N o29 (N o49 (N o96 (N o172 (M o327) (M o481)) (N o252 (M o401) (M o556))) (N o0 (N o1 (M o364) (M o519)) (N o0 (M o1) Z))) (N o76 (N o0 (N o192 (M o1) (M o0)) (N o271 (M o422) (M o574))) (N o152 (N o234 (M o382) (M o1)) (N o0 (M o462) Z)))))) (N o0 (N o8 (N o18 (N o0 (N o83 (N o159 (M o316) (M o0)) (N o0 (M o0) (M o545))) (N o1 (N o408 (M o353) (M o1)) (N o277 (M o0) Z))) (N o59 (N o102 (N o181 (M o334) (M o489)) (N o0 (M o411) (M o0))) (N o141 (N o223 (M o0) (M o526)) (N o1 (M o1) Z)))) (N o1 (N o45 (N o93 (N o168 (M o0) (M o478)) (N o250 (M o398) (M o1))) (N o0 (N o213 (M o1) (M o517)) (N o287 (M o439) Z))) (N o74 (N o112 (N o0 (M o343) (M o499)) (N o268 (M o1) (M o572))) (N o0 (N o1 (M o380) (M o535)) (N o0 (M o460) Z))))) (N o12 (N o0 (N o40 (N o88 (N o0 (M o321) (M o1)) (N o245 (M o1) (M o0))) (N o125 (N o0 (M o0) (M o512)) (N o282 (M o0) Z))) (N o64 (N o107 (N o186 (M o0) (M o494)) (N o1 (M o0) (M o567))) (N o146 (N o0 (M o375) (M o0)) (N o300 (M o455) Z)))) (N o31 (N o53 (N o0 (N o176 (M o1) (M o0)) (N o255 (M o0) (M o558))) (N o136 (N o218 (M o366) (M o1)) (N o0 (M o0) Z))) (N o79 (N o0 (N o1 (M o348) (M o0)) (N o0 (M o424) (M o577))) (N o1 (N o236 (M o385) (M o540)) (N o311 (M o465) Z))))))) (N boot_o_5 (N boot_o_9 (N o7 (N o16 (N o1 (N o1 (N o0 (M o0) (M o468)) (N o1 (M o388) (M o543))) (N o120 (N o199 (M o351) (M o507)) (N o276 (M o14) (M o580)))) (N o57 (N o101 (N o179 (M o0) (M o488)) (N o258 (M o409) (M o1))) (N o0 (N o221 (M o1) (M o0)) (N o295 (M o448) Z)))) (N o26 (N o0 (N o0 (N o167 (M o324) (M o0)) (N o0 (M o0) (M o553))) (N o1 (N o212 (M o361) (M o0)) (N o285 (M o438) Z))) (N o73 (N o110 (N o189 (M o342) (M o497)) (N o0 (M o419) (M o0))) (N o149 (N o231 (M o0) (M o534)) (N o1 (M o0) Z))))) (N o0 (N o21 (N o39 (N o0 (N o1 (M o319) (M o473)) (N o244 (M o393) (M o548))) (N o0 (N o1 (M o356) (M o0)) (N o0 (M o1) Z))) (N o62 (N o0 (N o184 (M o1) (M o0)) (N o263 (M o414) (M o566))) (N o144 (N o226 (M o374) (M o1)) (N o0 (M o453) Z)))) (N o0 (N o51 (N o1 (N o174 (M o329) (M o1)) (N o253 (M o1) (M o0))) (N o135 (N o0 (M o0) (M o521)) (N o290 (M o443) Z))) (N o77 (N o115 (N o194 (M o0) (M o502)) (N o1 (M o0) (M o575))) (N o154 (N o0 (M o383) (M o0)) (N o310 (M o463) Z)))))) (N o2 (N o10 (N o1 (N o37 (N o84 (N o160 (M o0) (M o470)) (N o242 (M o390) (M o1))) (N o0 (N o203 (M o1) (M o0)) (N o279 (M o431) Z))) (N o1 (N o104 (N o0 (M o335) (M o491)) (N o260 (M o1) (M o564))) (N o0 (N o1 (M o372) (M o527)) (N o0 (M o0) Z)))) (N o0 (N o47 (N o94 (N o170 (M o326) (M o479)) (N o0 (M o399) (M o0))) (N o131 (N o215 (M o0) (M o0)) (N o1 (M o441) Z))) (N o1 (N o1 (N o191 (M o345) (M o1)) (N o269 (M o0) (M o0))) (N o151 (N o0 (M o0) (M o537)) (N o308 (M o0) Z))))) (N o0 (N o23 (N o42 (N o89 (N o165 (M o1) (M o0)) (N o247 (M o0) (M o550))) (N o126 (N o210 (M o358) (M o514)) (N o0 (M o436) Z))) (N o72 (N o0 (N o1 (M o340) (M o0)) (N o0 (M o416) (M o569))) (N o1 (N o228 (M o377) (M o532)) (N o301 (M o457) Z)))) (N o32 (N o14 (N o99 (N o0 (M o0) (M o484)) (N o1 (M o404) (M o559))) (N o138 (N o0 (M o367) (M o0)) (N o292 (M o445) Z))) (N o73 (N o117 (N o0 (M o0) (M o504)) (N o274 (M o425) (M o1))) (N o0 (N o237 (M o1) (M o0)) (N o313 (M o1) Z)))))))) (N o4 (N boot_o_4 (N boot_o_8 (N o1 (N o0 (N o0 (N o0 (N o158 (M o314) (M o467)) (N o0 (M o387) (M o0))) (N o119 (N o198 (M o0) (M o506)) (N o1 (M o428) (M o579)))) (N o56 (N o1 (N o0 (M o333) (M o1)) (N o257 (M o1) (M o0))) (N o139 (N o0 (M o0) (M o525)) (N o294 (M o447) Z)))) (N o25 (N o43 (N o92 (N o1 (M o323) (M o477)) (N o248 (M o397) (M o552))) (N o0 (N o1 (M o360) (M o515)) (N o0 (M o1) Z))) (N o69 (N o0 (N o188 (M o1) (M o0)) (N o267 (M o418) (M o570))) (N o148 (N o230 (M o378) (M o1)) (N o0 (M o458) Z))))) (N o0 (N o20 (N o1 (N o87 (N o0 (M o0) (M o472)) (N o1 (M o392) (M o547))) (N o124 (N o0 (M o355) (M o511)) (N o280 (M o0) Z))) (N o61 (N o105 (N o0 (M o0) (M o492)) (N o262 (M o413) (M o1))) (N o0 (N o225 (M o1) (M o0)) (N o299 (M o452) Z)))) (N o30 (N o50 (N o0 (N o173 (M o328) (M o0)) (N o0 (M o0) (M o557))) (N o1 (N o216 (M o365) (M o520)) (N o289 (M o442) Z))) (N o0 (N o114 (N o193 (M o346) (M o501)) (N o0 (M o423) (M o0))) (N o153 (N o235 (M o0) (M o538)) (N o1 (M o0) Z)))))) (N o487 (N o9 (N o0 (N o36 (N o0 (N o0 (M o317) (M o1)) (N o241 (M o1) (M o0))) (N o121 (N o202 (M o0) (M o508)) (N o278 (M o430) Z))) (N o0 (N o103 (N o182 (M o0) (M o490)) (N o1 (M o0) (M o563))) (N o142 (N o0 (M o371) (M o0)) (N o296 (M o449) Z)))) (N o27 (N o46 (N o0 (N o169 (M o1) (M o0)) (N o251 (M o0) (M o554))) (N o130 (N o214 (M o362) (M o518)) (N o0 (M o440) Z))) (N o0 (N o0 (N o1 (M o344) (M o0)) (N o0 (M o420) (M o573))) (N o14 (N o232 (M o381) (M o536)) (N o307 (M o461) Z))))) (N o13 (N o1 (N o41 (N o0 (N o164 (M o0) (M o474)) (N o246 (M o394) (M o1))) (N o0 (N o209 (M o1) (M o513)) (N o283 (M o435) Z))) (N o65 (N o108 (N o0 (M o339) (M o495)) (N o264 (M o1) (M o568))) (N o0 (N o1 (M o376) (M o531)) (N o0 (M o456) Z)))) (N o0 (N o54 (N o98 (N o177 (M o330) (M o483)) (N o0 (M o403) (M o0))) (N o137 (N o219 (M o0) (M o522)) (N o1 (M o1) Z))) (N o80 (N o1 (N o195 (M o349) (M o1)) (N o273 (M o0) (M o0))) (N o155 (N o0 (M o0) (M o541)) (N o312 (M o0) Z))))))) (N boot_o_6 (N boot_o_10 (N o0 (N o17 (N o35 (N o82 (N o1 (M o315) (M o469)) (N o240 (M o389) (M o544))) (N o0 (N o200 (M o352) (M o0)) (N o0 (M o429) (M o581)))) (N o58 (N o0 (N o180 (M o1) (M o0)) (N o259 (M o410) (M o562))) (N o140 (N o222 (M o370) (M o1)) (N o0 (M o0) Z)))) (N o0 (N o44 (N o1 (N o0 (M o325) (M o1)) (N o249 (M o1) (M o0))) (N o129 (N o0 (M o0) (M o516)) (N o286 (M o0) Z))) (N o14 (N o111 (N o190 (M o0) (M o498)) (N o1 (M o0) (M o571))) (N o150 (N o0 (M o379) (M o0)) (N o306 (M o459) Z))))) (N o11 (N o22 (N o0 (N o1 (N o163 (M o320) (M o0)) (N o0 (M o0) (M o549))) (N o1 (N o208 (M o357) (M o1)) (N o281 (M o434) Z))) (N o63 (N o106 (N o185 (M o338) (M o493)) (N o0 (M o415) (M o0))) (N o145 (N o227 (M o0) (M o530)) (N o1 (M o454) Z)))) (N o1 (N o52 (N o97 (N o175 (M o0) (M o482)) (N o254 (M o402) (M o1))) (N o0 (N o217 (M o1) (M o0)) (N o291 (M o444) Z))) (N o78 (N o116 (N o0 (M o347) (M o503)) (N o272 (M o1) (M o576))) (N o0 (N o1 (M o384) (M o539)) (N o0 (M o464) Z)))))) (N o3 (N o0 (N o19 (N o38 (N o85 (N o161 (M o1) (M o0)) (N o243 (M o0) (M o546))) (N o122 (N o204 (M o354) (M o509)) (N o0 (M o432) Z))) (N o60 (N o0 (N o1 (M o336) (M o0)) (N o0 (M o412) (M o565))) (N o1 (N o224 (M o373) (M o528)) (N o297 (M o450) Z)))) (N o28 (N o48 (N o95 (N o171 (M o0) (M o480)) (N o1 (M o400) (M o555))) (N o132 (N o0 (M o363) (M o1)) (N o288 (M o0) Z))) (N o75 (N o113 (N o0 (M o0) (M o500)) (N o270 (M o421) (M o1))) (N o0 (N o233 (M o1) (M o0)) (N o309 (M o1) Z))))) (N o14 (N o0 (N o0 (N o90 (N o166 (M o322) (M o475)) (N o0 (M o395) (M o0))) (N o127 (N o211 (M o0) (M o0)) (N o1 (M o437) Z))) (N o67 (N o1 (N o187 (M o341) (M o1)) (N o265 (M o0) (M o0))) (N o147 (N o0 (M o0) (M o533)) (N o302 (M o0) Z)))) (N o33 (N o55 (N o100 (N o14 (M o331) (M o485)) (N o256 (M o405) (M o560))) (N o0 (N o1 (M o368) (M o523)) (N o0 (M o0) Z))) (N o14 (N o0 (N o196 (M o1) (M o0)) (N o275 (M o426) (M o578))) (N o156 (N o238 (M o386) (M o1)) (N o0 (M o466) Z)))))))))
noncomputable def t8:T:=(N boot_o_0 (N boot_o_1 (N o582 (N boot_o_7 (N o0 (N o15 (N o34 (N o81 (N o157 (N o1 (M o617) Z) (M o0)) (N o239 (M o0) (M o542))) (N o118 (N o197 (N o350 (M o654) Z) (M o505)) (N o0 (M o427) (M o0)))) (N o0 (N o0 (N o178 (N o332 (M o1) Z) (M o0)) (N o0 (M o0) (M o561))) (N o1 (N o220 (N o369 (M o672) Z) (M o524)) (N o293 (M o446) (M o0))))) (N o24 (N o1 (N o91 (N o0 (N o0 (M o627) Z) (M o476)) (N o1 (M o396) (M o551))) (N o128 (N o0 (N o359 (M o0) Z) (M o1)) (N o284 (M o0) (M o590)))) (N o68 (N o109 (N o0 (N o0 (M o0) Z) (M o496)) (N o266 (M o417) (M o1))) (N o0 (N o229 (M o1) (M o0)) (N o303 (M o1) (M o608)))))) (N o1 (N o0 (N o0 (N o86 (N o162 (N o318 (M o622) Z) (M o471)) (N o0 (M o391) (M o0))) (N o123 (N o205 (N o0 (M o659) Z) (M o510)) (N o1 (M o433) (M o585)))) (N o0 (N o1 (N o183 (N o337 (M o640) Z) (M o1)) (N o261 (M o0) (M o0))) (N o143 (N o0 (M o0) (M o529)) (N o298 (M o451) (M o1))))) (N o29 (N o49 (N o96 (N o172 (N o327 (M o0) Z) (M o481)) (N o252 (M o401) (M o556))) (N o0 (N o1 (N o364 (M o1) Z) (M o519)) (N o0 (M o1) (M o595)))) (N o76 (N o0 (N o192 (N o1 (M o649) Z) (M o0)) (N o271 (M o422) (M o574))) (N o152 (N o234 (M o382) (M o1)) (N o0 (M o462) (M o0))))))) (N o0 (N o8 (N o18 (N o0 (N o83 (N o159 (N o316 (M o1) Z) (M o0)) (N o0 (M o0) (M o545))) (N o1 (N o408 (N o353 (M o656) Z) (M o1)) (N o277 (M o0) (M o0)))) (N o59 (N o102 (N o181 (N o334 (M o638) Z) (M o489)) (N o0 (M o411) (M o0))) (N o141 (N o223 (N o0 (M o675) Z) (M o526)) (N o1 (M o1) (M o601))))) (N o1 (N o45 (N o93 (N o168 (N o0 (M o0) Z) (M o478)) (N o250 (M o398) (M o1))) (N o0 (N o213 (N o1 (M o665) Z) (M o517)) (N o287 (M o439) (M o592)))) (N o74 (N o112 (N o0 (N o343 (M o0) Z) (M o499)) (N o268 (M o1) (M o572))) (N o0 (N o1 (M o380) (M o535)) (N o0 (M o460) (M o611)))))) (N o12 (N o0 (N o40 (N o88 (N o0 (N o321 (M o624) Z) (M o1)) (N o245 (M o1) (M o0))) (N o125 (N o0 (N o0 (M o0) Z) (M o512)) (N o282 (M o0) (M o1)))) (N o64 (N o107 (N o186 (N o0 (M o643) Z) (M o494)) (N o1 (M o0) (M o567))) (N o146 (N o0 (M o375) (M o0)) (N o300 (M o455) (M o606))))) (N o31 (N o53 (N o0 (N o176 (N o1 (M o633) Z) (M o0)) (N o255 (M o0) (M o558))) (N o136 (N o218 (N o366 (M o670) Z) (M o1)) (N o0 (M o0) (M o0)))) (N o79 (N o0 (N o1 (N o348 (M o1) Z) (M o0)) (N o0 (M o424) (M o577))) (N o1 (N o236 (M o385) (M o540)) (N o311 (M o465) (M o0)))))))) (N boot_o_5 (N boot_o_9 (N o7 (N o16 (N o1 (N o1 (N o0 (N o0 (M o619) Z) (M o468)) (N o1 (M o388) (M o543))) (N o120 (N o199 (N o351 (M o0) Z) (M o507)) (N o276 (M o14) (M o580)))) (N o57 (N o101 (N o179 (N o0 (M o0) Z) (M o488)) (N o258 (M o409) (M o1))) (N o0 (N o221 (N o1 (M o673) Z) (M o0)) (N o295 (M o448) (M o600))))) (N o26 (N o0 (N o0 (N o167 (N o324 (M o1) Z) (M o0)) (N o0 (M o0) (M o553))) (N o1 (N o212 (N o361 (M o664) Z) (M o0)) (N o285 (M o438) (M o0)))) (N o73 (N o110 (N o189 (N o342 (M o646) Z) (M o497)) (N o0 (M o419) (M o0))) (N o149 (N o231 (M o0) (M o534)) (N o1 (M o0) (M o609)))))) (N o0 (N o21 (N o39 (N o0 (N o1 (N o319 (M o0) Z) (M o473)) (N o244 (M o393) (M o548))) (N o0 (N o1 (N o356 (M o1) Z) (M o0)) (N o0 (M o1) (M o587)))) (N o62 (N o0 (N o184 (N o1 (M o641) Z) (M o0)) (N o263 (M o414) (M o566))) (N o144 (N o226 (M o374) (M o1)) (N o0 (M o453) (M o0))))) (N o0 (N o51 (N o1 (N o174 (N o329 (M o632) Z) (M o1)) (N o253 (M o1) (M o0))) (N o135 (N o0 (N o0 (M o0) Z) (M o521)) (N o290 (M o443) (M o1)))) (N o77 (N o115 (N o194 (N o0 (M o651) Z) (M o502)) (N o1 (M o0) (M o575))) (N o154 (N o0 (M o383) (M o0)) (N o310 (M o463) (M o614))))))) (N o2 (N o10 (N o1 (N o37 (N o84 (N o160 (N o0 (M o0) Z) (M o470)) (N o242 (M o390) (M o1))) (N o0 (N o203 (N o1 (M o657) Z) (M o0)) (N o279 (M o431) (M o584)))) (N o1 (N o104 (N o0 (N o335 (M o0) Z) (M o491)) (N o260 (M o1) (M o564))) (N o0 (N o1 (M o372) (M o527)) (N o0 (M o0) (M o603))))) (N o0 (N o47 (N o94 (N o170 (N o326 (M o630) Z) (M o479)) (N o0 (M o399) (M o0))) (N o131 (N o215 (N o0 (M o667) Z) (M o0)) (N o1 (M o441) (M o593)))) (N o1 (N o1 (N o191 (N o345 (M o648) Z) (M o1)) (N o269 (M o0) (M o0))) (N o151 (N o0 (M o0) (M o537)) (N o308 (M o0) (M o1)))))) (N o0 (N o23 (N o42 (N o89 (N o165 (N o1 (M o625) Z) (M o0)) (N o247 (M o0) (M o550))) (N o126 (N o210 (N o358 (M o662) Z) (M o514)) (N o0 (M o436) (M o0)))) (N o72 (N o0 (N o1 (N o340 (M o1) Z) (M o0)) (N o0 (M o416) (M o569))) (N o1 (N o228 (M o377) (M o532)) (N o301 (M o457) (M o0))))) (N o32 (N o14 (N o99 (N o0 (N o0 (M o635) Z) (M o484)) (N o1 (M o404) (M o559))) (N o138 (N o0 (N o367 (M o0) Z) (M o0)) (N o292 (M o445) (M o598)))) (N o73 (N o117 (N o0 (N o0 (M o0) Z) (M o504)) (N o274 (M o425) (M o1))) (N o0 (N o237 (M o1) (M o0)) (N o313 (M o1) (M o616))))))))) (N o4 (N boot_o_4 (N boot_o_8 (N o1 (N o0 (N o0 (N o0 (N o158 (N o314 (M o618) Z) (M o467)) (N o0 (M o387) (M o0))) (N o119 (N o198 (N o0 (M o655) Z) (M o506)) (N o1 (M o428) (M o579)))) (N o56 (N o1 (N o0 (N o333 (M o636) Z) (M o1)) (N o257 (M o1) (M o0))) (N o139 (N o0 (N o0 (M o0) Z) (M o525)) (N o294 (M o447) (M o1))))) (N o25 (N o43 (N o92 (N o1 (N o323 (M o0) Z) (M o477)) (N o248 (M o397) (M o552))) (N o0 (N o1 (N o360 (M o1) Z) (M o515)) (N o0 (M o1) (M o591)))) (N o69 (N o0 (N o188 (N o1 (M o645) Z) (M o0)) (N o267 (M o418) (M o570))) (N o148 (N o230 (M o378) (M o1)) (N o0 (M o458) (M o0)))))) (N o0 (N o20 (N o1 (N o87 (N o0 (N o0 (M o623) Z) (M o472)) (N o1 (M o392) (M o547))) (N o124 (N o0 (N o355 (M o0) Z) (M o511)) (N o280 (M o0) (M o586)))) (N o61 (N o105 (N o0 (N o0 (M o0) Z) (M o492)) (N o262 (M o413) (M o1))) (N o0 (N o225 (M o1) (M o0)) (N o299 (M o452) (M o604))))) (N o30 (N o50 (N o0 (N o173 (N o328 (M o1) Z) (M o0)) (N o0 (M o0) (M o557))) (N o1 (N o216 (N o365 (M o668) Z) (M o520)) (N o289 (M o442) (M o0)))) (N o0 (N o114 (N o193 (N o346 (M o650) Z) (M o501)) (N o0 (M o423) (M o0))) (N o153 (N o235 (M o0) (M o538)) (N o1 (M o0) (M o613))))))) (N o583 (N o9 (N o0 (N o36 (N o0 (N o0 (N o317 (M o620) Z) (M o1)) (N o241 (M o1) (M o0))) (N o121 (N o202 (N o0 (M o0) Z) (M o508)) (N o278 (M o430) (M o1)))) (N o0 (N o103 (N o182 (N o0 (M o639) Z) (M o490)) (N o1 (M o0) (M o563))) (N o142 (N o0 (M o371) (M o0)) (N o296 (M o449) (M o602))))) (N o27 (N o46 (N o0 (N o169 (N o1 (M o629) Z) (M o0)) (N o251 (M o0) (M o554))) (N o130 (N o214 (N o362 (M o666) Z) (M o518)) (N o0 (M o440) (M o0)))) (N o0 (N o0 (N o1 (N o344 (M o1) Z) (M o0)) (N o0 (M o420) (M o573))) (N o14 (N o232 (M o381) (M o536)) (N o307 (M o461) (M o0)))))) (N o13 (N o1 (N o41 (N o0 (N o164 (N o0 (M o0) Z) (M o474)) (N o246 (M o394) (M o1))) (N o0 (N o209 (N o1 (M o661) Z) (M o513)) (N o283 (M o435) (M o588)))) (N o65 (N o108 (N o0 (N o339 (M o0) Z) (M o495)) (N o264 (M o1) (M o568))) (N o0 (N o1 (M o376) (M o531)) (N o0 (M o456) (M o607))))) (N o0 (N o54 (N o98 (N o177 (N o330 (M o634) Z) (M o483)) (N o0 (M o403) (M o0))) (N o137 (N o219 (N o0 (M o671) Z) (M o522)) (N o1 (M o1) (M o597)))) (N o80 (N o1 (N o195 (N o349 (M o652) Z) (M o1)) (N o273 (M o0) (M o0))) (N o155 (N o0 (M o0) (M o541)) (N o312 (M o0) (M o1)))))))) (N boot_o_6 (N boot_o_10 (N o0 (N o17 (N o35 (N o82 (N o1 (N o315 (M o0) Z) (M o469)) (N o240 (M o389) (M o544))) (N o0 (N o200 (N o352 (M o1) Z) (M o0)) (N o0 (M o429) (M o581)))) (N o58 (N o0 (N o180 (N o1 (M o637) Z) (M o0)) (N o259 (M o410) (M o562))) (N o140 (N o222 (N o370 (M o674) Z) (M o1)) (N o0 (M o0) (M o0))))) (N o0 (N o44 (N o1 (N o0 (N o325 (M o628) Z) (M o1)) (N o249 (M o1) (M o0))) (N o129 (N o0 (N o0 (M o0) Z) (M o516)) (N o286 (M o0) (M o1)))) (N o14 (N o111 (N o190 (N o0 (M o647) Z) (M o498)) (N o1 (M o0) (M o571))) (N o150 (N o0 (M o379) (M o0)) (N o306 (M o459) (M o610)))))) (N o11 (N o22 (N o0 (N o1 (N o163 (N o320 (M o1) Z) (M o0)) (N o0 (M o0) (M o549))) (N o1 (N o208 (N o357 (M o660) Z) (M o1)) (N o281 (M o434) (M o0)))) (N o63 (N o106 (N o185 (N o338 (M o642) Z) (M o493)) (N o0 (M o415) (M o0))) (N o145 (N o227 (M o0) (M o530)) (N o1 (M o454) (M o605))))) (N o1 (N o52 (N o97 (N o175 (N o0 (M o0) Z) (M o482)) (N o254 (M o402) (M o1))) (N o0 (N o217 (N o1 (M o669) Z) (M o0)) (N o291 (M o444) (M o596)))) (N o78 (N o116 (N o0 (N o347 (M o0) Z) (M o503)) (N o272 (M o1) (M o576))) (N o0 (N o1 (M o384) (M o539)) (N o0 (M o464) (M o615))))))) (N o3 (N o0 (N o19 (N o38 (N o85 (N o161 (N o1 (M o621) Z) (M o0)) (N o243 (M o0) (M o546))) (N o122 (N o204 (N o354 (M o658) Z) (M o509)) (N o0 (M o432) (M o0)))) (N o60 (N o0 (N o1 (N o336 (M o1) Z) (M o0)) (N o0 (M o412) (M o565))) (N o1 (N o224 (M o373) (M o528)) (N o297 (M o450) (M o0))))) (N o28 (N o48 (N o95 (N o171 (N o0 (M o631) Z) (M o480)) (N o1 (M o400) (M o555))) (N o132 (N o0 (N o363 (M o0) Z) (M o1)) (N o288 (M o0) (M o594)))) (N o75 (N o113 (N o0 (N o0 (M o0) Z) (M o500)) (N o270 (M o421) (M o1))) (N o0 (N o233 (M o1) (M o0)) (N o309 (M o1) (M o612)))))) (N o14 (N o0 (N o0 (N o90 (N o166 (N o322 (M o626) Z) (M o475)) (N o0 (M o395) (M o0))) (N o127 (N o211 (N o0 (M o663) Z) (M o0)) (N o1 (M o437) (M o589)))) (N o67 (N o1 (N o187 (N o341 (M o644) Z) (M o1)) (N o265 (M o0) (M o0))) (N o147 (N o0 (M o0) (M o533)) (N o302 (M o0) (M o1))))) (N o33 (N o55 (N o100 (N o14 (N o331 (M o0) Z) (M o485)) (N o256 (M o405) (M o560))) (N o0 (N o1 (N o368 (M o1) Z) (M o523)) (N o0 (M o0) (M o599)))) (N o14 (N o0 (N o196 (N o1 (M o653) Z) (M o0)) (N o275 (M o426) (M o578))) (N o156 (N o238 (M o386) (M o1)) (N o0 (M o466) (M o0))))))))))
noncomputable def t9:T:=(N boot_o_0 (N boot_o_1 (N o676 (N boot_o_7 (N o0 (N o15 (N o34 (N o81 (N o157 (N o1 (M o617) Z) (M o0)) (N o239 (N o0 (M o693) Z) (M o542))) (N o118 (N o197 (N o350 (M o654) Z) (M o505)) (N o0 (N o427 (M o0) Z) (M o0)))) (N o0 (N o0 (N o178 (N o332 (M o1) Z) (M o0)) (N o0 (N o0 (M o0) Z) (M o561))) (N o1 (N o220 (N o369 (M o672) Z) (M o524)) (N o293 (N o446 (M o748) Z) (M o0))))) (N o24 (N o1 (N o91 (N o0 (N o0 (M o627) Z) (M o476)) (N o1 (N o396 (M o1) Z) (M o551))) (N o128 (N o0 (N o359 (M o0) Z) (M o1)) (N o284 (N o0 (M o738) Z) (M o590)))) (N o68 (N o109 (N o0 (N o0 (M o0) Z) (M o496)) (N o266 (N o417 (M o720) Z) (M o1))) (N o0 (N o229 (N o1 (M o683) Z) (M o0)) (N o303 (M o1) (M o608)))))) (N o1 (N o0 (N o0 (N o86 (N o162 (N o318 (M o622) Z) (M o471)) (N o0 (N o391 (M o0) Z) (M o0))) (N o123 (N o205 (N o0 (M o659) Z) (M o510)) (N o1 (N o433 (M o1) Z) (M o585)))) (N o0 (N o1 (N o183 (N o337 (M o640) Z) (M o1)) (N o261 (N o0 (M o715) Z) (M o0))) (N o143 (N o0 (N o0 (M o0) Z) (M o529)) (N o298 (M o451) (M o1))))) (N o29 (N o49 (N o96 (N o172 (N o327 (M o0) Z) (M o481)) (N o252 (N o401 (M o706) Z) (M o556))) (N o0 (N o1 (N o364 (M o1) Z) (M o519)) (N o0 (N o1 (M o743) Z) (M o595)))) (N o76 (N o0 (N o192 (N o1 (M o649) Z) (M o0)) (N o271 (N o422 (M o725) Z) (M o574))) (N o152 (N o234 (N o382 (M o688) Z) (M o1)) (N o0 (M o462) (M o0))))))) (N o0 (N o8 (N o18 (N o0 (N o83 (N o159 (N o316 (M o1) Z) (M o0)) (N o0 (N o0 (M o0) Z) (M o545))) (N o1 (N o408 (N o353 (M o656) Z) (M o1)) (N o277 (N o0 (M o731) Z) (M o0)))) (N o59 (N o102 (N o181 (N o334 (M o638) Z) (M o489)) (N o0 (N o411 (M o0) Z) (M o0))) (N o141 (N o223 (N o0 (M o675) Z) (M o526)) (N o1 (N o1 (M o0) Z) (M o601))))) (N o1 (N o45 (N o93 (N o168 (N o0 (M o0) Z) (M o478)) (N o250 (N o398 (M o704) Z) (M o1))) (N o0 (N o213 (N o1 (M o665) Z) (M o517)) (N o287 (N o439 (M o1) Z) (M o592)))) (N o74 (N o112 (N o0 (N o343 (M o0) Z) (M o499)) (N o268 (N o1 (M o722) Z) (M o572))) (N o0 (N o1 (N o380 (M o1) Z) (M o535)) (N o0 (M o460) (M o611)))))) (N o12 (N o0 (N o40 (N o88 (N o0 (N o321 (M o624) Z) (M o1)) (N o245 (N o1 (M o699) Z) (M o0))) (N o125 (N o0 (N o0 (M o0) Z) (M o512)) (N o282 (N o0 (M o0) Z) (M o1)))) (N o64 (N o107 (N o186 (N o0 (M o643) Z) (M o494)) (N o1 (N o0 (M o1) Z) (M o567))) (N o146 (N o0 (N o375 (M o0) Z) (M o0)) (N o300 (M o455) (M o606))))) (N o31 (N o53 (N o0 (N o176 (N o1 (M o633) Z) (M o0)) (N o255 (N o0 (M o709) Z) (M o558))) (N o136 (N o218 (N o366 (M o670) Z) (M o1)) (N o0 (N o0 (M o745) Z) (M o0)))) (N o79 (N o0 (N o1 (N o348 (M o1) Z) (M o0)) (N o0 (N o424 (M o0) Z) (M o577))) (N o1 (N o236 (N o385 (M o690) Z) (M o540)) (N o311 (M o465) (M o0)))))))) (N boot_o_5 (N boot_o_9 (N o7 (N o16 (N o1 (N o1 (N o0 (N o0 (M o619) Z) (M o468)) (N o1 (N o388 (M o1) Z) (M o543))) (N o120 (N o199 (N o351 (M o0) Z) (M o507)) (N o276 (N o14 (M o730) Z) (M o580)))) (N o57 (N o101 (N o179 (N o0 (M o0) Z) (M o488)) (N o258 (N o409 (M o712) Z) (M o1))) (N o0 (N o221 (N o1 (M o673) Z) (M o0)) (N o295 (N o448 (M o1) Z) (M o600))))) (N o26 (N o0 (N o0 (N o167 (N o324 (M o1) Z) (M o0)) (N o0 (N o0 (M o0) Z) (M o553))) (N o1 (N o212 (N o361 (M o664) Z) (M o0)) (N o285 (N o438 (M o740) Z) (M o0)))) (N o73 (N o110 (N o189 (N o342 (M o646) Z) (M o497)) (N o0 (N o419 (M o0) Z) (M o0))) (N o149 (N o231 (N o0 (M o685) Z) (M o534)) (N o1 (M o0) (M o609)))))) (N o0 (N o21 (N o39 (N o0 (N o1 (N o319 (M o0) Z) (M o473)) (N o244 (N o393 (M o698) Z) (M o548))) (N o0 (N o1 (N o356 (M o1) Z) (M o0)) (N o0 (N o1 (M o735) Z) (M o587)))) (N o62 (N o0 (N o184 (N o1 (M o641) Z) (M o0)) (N o263 (N o414 (M o717) Z) (M o566))) (N o144 (N o226 (N o374 (M o680) Z) (M o1)) (N o0 (M o453) (M o0))))) (N o0 (N o51 (N o1 (N o174 (N o329 (M o632) Z) (M o1)) (N o253 (N o1 (M o707) Z) (M o0))) (N o135 (N o0 (N o0 (M o0) Z) (M o521)) (N o290 (N o443 (M o0) Z) (M o1)))) (N o77 (N o115 (N o194 (N o0 (M o651) Z) (M o502)) (N o1 (N o0 (M o1) Z) (M o575))) (N o154 (N o0 (N o383 (M o0) Z) (M o0)) (N o310 (M o463) (M o614))))))) (N o2 (N o10 (N o1 (N o37 (N o84 (N o160 (N o0 (M o0) Z) (M o470)) (N o242 (N o390 (M o696) Z) (M o1))) (N o0 (N o203 (N o1 (M o657) Z) (M o0)) (N o279 (N o431 (M o733) Z) (M o584)))) (N o1 (N o104 (N o0 (N o335 (M o0) Z) (M o491)) (N o260 (N o1 (M o714) Z) (M o564))) (N o0 (N o1 (N o372 (M o1) Z) (M o527)) (N o0 (N o0 (M o751) Z) (M o603))))) (N o0 (N o47 (N o94 (N o170 (N o326 (M o630) Z) (M o479)) (N o0 (N o399 (M o0) Z) (M o0))) (N o131 (N o215 (N o0 (M o667) Z) (M o0)) (N o1 (N o441 (M o0) Z) (M o593)))) (N o1 (N o1 (N o191 (N o345 (M o648) Z) (M o1)) (N o269 (N o0 (M o723) Z) (M o0))) (N o151 (N o0 (N o0 (M o0) Z) (M o537)) (N o308 (M o0) (M o1)))))) (N o0 (N o23 (N o42 (N o89 (N o165 (N o1 (M o625) Z) (M o0)) (N o247 (N o0 (M o701) Z) (M o550))) (N o126 (N o210 (N o358 (M o662) Z) (M o514)) (N o0 (N o436 (M o737) Z) (M o0)))) (N o72 (N o0 (N o1 (N o340 (M o1) Z) (M o0)) (N o0 (N o416 (M o0) Z) (M o569))) (N o1 (N o228 (N o377 (M o682) Z) (M o532)) (N o301 (M o457) (M o0))))) (N o32 (N o14 (N o99 (N o0 (N o0 (M o635) Z) (M o484)) (N o1 (N o404 (M o1) Z) (M o559))) (N o138 (N o0 (N o367 (M o0) Z) (M o0)) (N o292 (N o445 (M o746) Z) (M o598)))) (N o73 (N o117 (N o0 (N o0 (M o0) Z) (M o504)) (N o274 (N o425 (M o728) Z) (M o1))) (N o0 (N o237 (N o1 (M o691) Z) (M o0)) (N o313 (M o1) (M o616))))))))) (N o4 (N boot_o_4 (N boot_o_8 (N o1 (N o0 (N o0 (N o0 (N o158 (N o314 (M o618) Z) (M o467)) (N o0 (N o387 (M o0) Z) (M o0))) (N o119 (N o198 (N o0 (M o655) Z) (M o506)) (N o1 (N o428 (M o1) Z) (M o579)))) (N o56 (N o1 (N o0 (N o333 (M o636) Z) (M o1)) (N o257 (N o1 (M o711) Z) (M o0))) (N o139 (N o0 (N o0 (M o0) Z) (M o525)) (N o294 (N o447 (M o0) Z) (M o1))))) (N o25 (N o43 (N o92 (N o1 (N o323 (M o0) Z) (M o477)) (N o248 (N o397 (M o702) Z) (M o552))) (N o0 (N o1 (N o360 (M o1) Z) (M o515)) (N o0 (N o1 (M o739) Z) (M o591)))) (N o69 (N o0 (N o188 (N o1 (M o645) Z) (M o0)) (N o267 (N o418 (M o721) Z) (M o570))) (N o148 (N o230 (N o378 (M o684) Z) (M o1)) (N o0 (M o458) (M o0)))))) (N o0 (N o20 (N o1 (N o87 (N o0 (N o0 (M o623) Z) (M o472)) (N o1 (N o392 (M o1) Z) (M o547))) (N o124 (N o0 (N o355 (M o0) Z) (M o511)) (N o280 (N o0 (M o734) Z) (M o586)))) (N o61 (N o105 (N o0 (N o0 (M o0) Z) (M o492)) (N o262 (N o413 (M o716) Z) (M o1))) (N o0 (N o225 (N o1 (M o679) Z) (M o0)) (N o299 (M o452) (M o604))))) (N o30 (N o50 (N o0 (N o173 (N o328 (M o1) Z) (M o0)) (N o0 (N o0 (M o0) Z) (M o557))) (N o1 (N o216 (N o365 (M o668) Z) (M o520)) (N o289 (N o442 (M o744) Z) (M o0)))) (N o0 (N o114 (N o193 (N o346 (M o650) Z) (M o501)) (N o0 (N o423 (M o0) Z) (M o0))) (N o153 (N o235 (N o0 (M o689) Z) (M o538)) (N o1 (M o0) (M o613))))))) (N o677 (N o9 (N o0 (N o36 (N o0 (N o0 (N o317 (M o620) Z) (M o1)) (N o241 (N o1 (M o695) Z) (M o0))) (N o121 (N o202 (N o0 (M o0) Z) (M o508)) (N o278 (N o430 (M o732) Z) (M o1)))) (N o0 (N o103 (N o182 (N o0 (M o639) Z) (M o490)) (N o1 (N o0 (M o1) Z) (M o563))) (N o142 (N o0 (N o371 (M o0) Z) (M o0)) (N o296 (N o449 (M o750) Z) (M o602))))) (N o27 (N o46 (N o0 (N o169 (N o1 (M o629) Z) (M o0)) (N o251 (N o0 (M o705) Z) (M o554))) (N o130 (N o214 (N o362 (M o666) Z) (M o518)) (N o0 (N o440 (M o741) Z) (M o0)))) (N o0 (N o0 (N o1 (N o344 (M o1) Z) (M o0)) (N o0 (N o420 (M o0) Z) (M o573))) (N o14 (N o232 (N o381 (M o686) Z) (M o536)) (N o307 (M o461) (M o0)))))) (N o13 (N o1 (N o41 (N o0 (N o164 (N o0 (M o0) Z) (M o474)) (N o246 (N o394 (M o700) Z) (M o1))) (N o0 (N o209 (N o1 (M o661) Z) (M o513)) (N o283 (N o435 (M o1) Z) (M o588)))) (N o65 (N o108 (N o0 (N o339 (M o0) Z) (M o495)) (N o264 (N o1 (M o718) Z) (M o568))) (N o0 (N o1 (N o376 (M o1) Z) (M o531)) (N o0 (M o456) (M o607))))) (N o0 (N o54 (N o98 (N o177 (N o330 (M o634) Z) (M o483)) (N o0 (N o403 (M o0) Z) (M o0))) (N o137 (N o219 (N o0 (M o671) Z) (M o522)) (N o1 (N o1 (M o0) Z) (M o597)))) (N o80 (N o1 (N o195 (N o349 (M o652) Z) (M o1)) (N o273 (N o0 (M o727) Z) (M o0))) (N o155 (N o0 (N o0 (M o0) Z) (M o541)) (N o312 (M o0) (M o1)))))))) (N boot_o_6 (N boot_o_10 (N o0 (N o17 (N o35 (N o82 (N o1 (N o315 (M o0) Z) (M o469)) (N o240 (N o389 (M o694) Z) (M o544))) (N o0 (N o200 (N o352 (M o1) Z) (M o0)) (N o0 (N o429 (M o0) Z) (M o581)))) (N o58 (N o0 (N o180 (N o1 (M o637) Z) (M o0)) (N o259 (N o410 (M o713) Z) (M o562))) (N o140 (N o222 (N o370 (M o674) Z) (M o1)) (N o0 (N o0 (M o749) Z) (M o0))))) (N o0 (N o44 (N o1 (N o0 (N o325 (M o628) Z) (M o1)) (N o249 (N o1 (M o703) Z) (M o0))) (N o129 (N o0 (N o0 (M o0) Z) (M o516)) (N o286 (N o0 (M o0) Z) (M o1)))) (N o14 (N o111 (N o190 (N o0 (M o647) Z) (M o498)) (N o1 (N o0 (M o1) Z) (M o571))) (N o150 (N o0 (N o379 (M o0) Z) (M o0)) (N o306 (M o459) (M o610)))))) (N o11 (N o22 (N o0 (N o1 (N o163 (N o320 (M o1) Z) (M o0)) (N o0 (N o0 (M o0) Z) (M o549))) (N o1 (N o208 (N o357 (M o660) Z) (M o1)) (N o281 (N o434 (M o736) Z) (M o0)))) (N o63 (N o106 (N o185 (N o338 (M o642) Z) (M o493)) (N o0 (N o415 (M o0) Z) (M o0))) (N o145 (N o227 (N o0 (M o681) Z) (M o530)) (N o1 (M o454) (M o605))))) (N o1 (N o52 (N o97 (N o175 (N o0 (M o0) Z) (M o482)) (N o254 (N o402 (M o708) Z) (M o1))) (N o0 (N o217 (N o1 (M o669) Z) (M o0)) (N o291 (N o444 (M o1) Z) (M o596)))) (N o78 (N o116 (N o0 (N o347 (M o0) Z) (M o503)) (N o272 (N o1 (M o726) Z) (M o576))) (N o0 (N o1 (N o384 (M o1) Z) (M o539)) (N o0 (M o464) (M o615))))))) (N o3 (N o0 (N o19 (N o38 (N o85 (N o161 (N o1 (M o621) Z) (M o0)) (N o243 (N o0 (M o697) Z) (M o546))) (N o122 (N o204 (N o354 (M o658) Z) (M o509)) (N o0 (N o432 (M o0) Z) (M o0)))) (N o60 (N o0 (N o1 (N o336 (M o1) Z) (M o0)) (N o0 (N o412 (M o0) Z) (M o565))) (N o1 (N o224 (N o373 (M o678) Z) (M o528)) (N o297 (N o450 (M o752) Z) (M o0))))) (N o28 (N o48 (N o95 (N o171 (N o0 (M o631) Z) (M o480)) (N o1 (N o400 (M o1) Z) (M o555))) (N o132 (N o0 (N o363 (M o0) Z) (M o1)) (N o288 (N o0 (M o742) Z) (M o594)))) (N o75 (N o113 (N o0 (N o0 (M o0) Z) (M o500)) (N o270 (N o421 (M o724) Z) (M o1))) (N o0 (N o233 (N o1 (M o687) Z) (M o0)) (N o309 (M o1) (M o612)))))) (N o14 (N o0 (N o0 (N o90 (N o166 (N o322 (M o626) Z) (M o475)) (N o0 (N o395 (M o0) Z) (M o0))) (N o127 (N o211 (N o0 (M o663) Z) (M o0)) (N o1 (N o437 (M o0) Z) (M o589)))) (N o67 (N o1 (N o187 (N o341 (M o644) Z) (M o1)) (N o265 (N o0 (M o719) Z) (M o0))) (N o147 (N o0 (N o0 (M o0) Z) (M o533)) (N o302 (M o0) (M o1))))) (N o33 (N o55 (N o100 (N o14 (N o331 (M o0) Z) (M o485)) (N o256 (N o405 (M o710) Z) (M o560))) (N o0 (N o1 (N o368 (M o1) Z) (M o523)) (N o0 (N o0 (M o747) Z) (M o599)))) (N o14 (N o0 (N o196 (N o1 (M o653) Z) (M o0)) (N o275 (N o426 (M o729) Z) (M o578))) (N o156 (N o238 (N o386 (M o692) Z) (M o1)) (N o0 (M o466) (M o0))))))))))
noncomputable def t10:T:=(N boot_o_0 (N boot_o_1 (N o753 (N boot_o_7 (N o0 (N o15 (N o34 (N o81 (N o157 (N o1 (M o617) Z) (N o0 (M o0) Z)) (N o239 (N o0 (M o693) Z) (M o542))) (N o118 (N o197 (N o350 (M o654) Z) (N o505 (M o807) Z)) (N o0 (N o427 (M o0) Z) (M o0)))) (N o0 (N o0 (N o178 (N o332 (M o1) Z) (N o0 (M o0) Z)) (N o0 (N o0 (M o0) Z) (M o561))) (N o1 (N o220 (N o369 (M o672) Z) (N o524 (M o1) Z)) (N o293 (N o446 (M o748) Z) (M o0))))) (N o24 (N o1 (N o91 (N o0 (N o0 (M o627) Z) (N o476 (M o777) Z)) (N o1 (N o396 (M o1) Z) (M o551))) (N o128 (N o0 (N o359 (M o0) Z) (N o1 (M o817) Z)) (N o284 (N o0 (M o738) Z) (M o590)))) (N o68 (N o109 (N o0 (N o0 (M o0) Z) (N o496 (M o797) Z)) (N o266 (N o417 (M o720) Z) (M o1))) (N o0 (N o229 (N o1 (M o683) Z) (M o0)) (N o303 (N o1 (M o1) Z) (M o608)))))) (N o1 (N o0 (N o0 (N o86 (N o162 (N o318 (M o622) Z) (N o471 (M o772) Z)) (N o0 (N o391 (M o0) Z) (M o0))) (N o123 (N o205 (N o0 (M o659) Z) (N o510 (M o812) Z)) (N o1 (N o433 (M o1) Z) (M o585)))) (N o0 (N o1 (N o183 (N o337 (M o640) Z) (N o1 (M o1) Z)) (N o261 (N o0 (M o715) Z) (M o0))) (N o143 (N o0 (N o0 (M o0) Z) (M o529)) (N o298 (N o451 (M o0) Z) (M o1))))) (N o29 (N o49 (N o96 (N o172 (N o327 (M o0) Z) (N o481 (M o782) Z)) (N o252 (N o401 (M o706) Z) (M o556))) (N o0 (N o1 (N o364 (M o1) Z) (N o519 (M o0) Z)) (N o0 (N o1 (M o743) Z) (M o595)))) (N o76 (N o0 (N o192 (N o1 (M o649) Z) (N o0 (M o0) Z)) (N o271 (N o422 (M o725) Z) (M o574))) (N o152 (N o234 (N o382 (M o688) Z) (M o1)) (N o0 (N o462 (M o763) Z) (M o0))))))) (N o0 (N o8 (N o18 (N o0 (N o83 (N o159 (N o316 (M o1) Z) (N o0 (M o0) Z)) (N o0 (N o0 (M o0) Z) (M o545))) (N o1 (N o408 (N o353 (M o656) Z) (N o1 (M o1) Z)) (N o277 (N o0 (M o731) Z) (M o0)))) (N o59 (N o102 (N o181 (N o334 (M o638) Z) (N o489 (M o788) Z)) (N o0 (N o411 (M o0) Z) (M o0))) (N o141 (N o223 (N o0 (M o675) Z) (M o526)) (N o1 (N o1 (M o0) Z) (M o601))))) (N o1 (N o45 (N o93 (N o168 (N o0 (M o0) Z) (N o478 (M o779) Z)) (N o250 (N o398 (M o704) Z) (M o1))) (N o0 (N o213 (N o1 (M o665) Z) (N o517 (M o0) Z)) (N o287 (N o439 (M o1) Z) (M o592)))) (N o74 (N o112 (N o0 (N o343 (M o0) Z) (N o499 (M o801) Z)) (N o268 (N o1 (M o722) Z) (M o572))) (N o0 (N o1 (N o380 (M o1) Z) (M o535)) (N o0 (N o460 (M o761) Z) (M o611)))))) (N o12 (N o0 (N o40 (N o88 (N o0 (N o321 (M o624) Z) (N o1 (M o1) Z)) (N o245 (N o1 (M o699) Z) (M o0))) (N o125 (N o0 (N o0 (M o0) Z) (N o512 (M o814) Z)) (N o282 (N o0 (M o0) Z) (M o1)))) (N o64 (N o107 (N o186 (N o0 (M o643) Z) (N o494 (M o793) Z)) (N o1 (N o0 (M o1) Z) (M o567))) (N o146 (N o0 (N o375 (M o0) Z) (M o0)) (N o300 (N o455 (M o756) Z) (M o606))))) (N o31 (N o53 (N o0 (N o176 (N o1 (M o633) Z) (N o0 (M o0) Z)) (N o255 (N o0 (M o709) Z) (M o558))) (N o136 (N o218 (N o366 (M o670) Z) (N o1 (M o823) Z)) (N o0 (N o0 (M o745) Z) (M o0)))) (N o79 (N o0 (N o1 (N o348 (M o1) Z) (N o0 (M o0) Z)) (N o0 (N o424 (M o0) Z) (M o577))) (N o1 (N o236 (N o385 (M o690) Z) (M o540)) (N o311 (N o465 (M o766) Z) (M o0)))))))) (N boot_o_5 (N boot_o_9 (N o7 (N o16 (N o1 (N o1 (N o0 (N o0 (M o619) Z) (N o468 (M o769) Z)) (N o1 (N o388 (M o1) Z) (M o543))) (N o120 (N o199 (N o351 (M o0) Z) (N o507 (M o809) Z)) (N o276 (N o14 (M o730) Z) (M o580)))) (N o57 (N o101 (N o179 (N o0 (M o0) Z) (N o488 (M o787) Z)) (N o258 (N o409 (M o712) Z) (M o1))) (N o0 (N o221 (N o1 (M o673) Z) (N o0 (M o827) Z)) (N o295 (N o448 (M o1) Z) (M o600))))) (N o26 (N o0 (N o0 (N o167 (N o324 (M o1) Z) (N o0 (M o0) Z)) (N o0 (N o0 (M o0) Z) (M o553))) (N o1 (N o212 (N o361 (M o664) Z) (N o0 (M o1) Z)) (N o285 (N o438 (M o740) Z) (M o0)))) (N o73 (N o110 (N o189 (N o342 (M o646) Z) (N o497 (M o799) Z)) (N o0 (N o419 (M o0) Z) (M o0))) (N o149 (N o231 (N o0 (M o685) Z) (M o534)) (N o1 (N o0 (M o0) Z) (M o609)))))) (N o0 (N o21 (N o39 (N o0 (N o1 (N o319 (M o0) Z) (N o473 (M o774) Z)) (N o244 (N o393 (M o698) Z) (M o548))) (N o0 (N o1 (N o356 (M o1) Z) (N o0 (M o0) Z)) (N o0 (N o1 (M o735) Z) (M o587)))) (N o62 (N o0 (N o184 (N o1 (M o641) Z) (N o0 (M o0) Z)) (N o263 (N o414 (M o717) Z) (M o566))) (N o144 (N o226 (N o374 (M o680) Z) (M o1)) (N o0 (N o453 (M o755) Z) (M o0))))) (N o0 (N o51 (N o1 (N o174 (N o329 (M o632) Z) (N o1 (M o1) Z)) (N o253 (N o1 (M o707) Z) (M o0))) (N o135 (N o0 (N o0 (M o0) Z) (N o521 (M o822) Z)) (N o290 (N o443 (M o0) Z) (M o1)))) (N o77 (N o115 (N o194 (N o0 (M o651) Z) (N o502 (M o804) Z)) (N o1 (N o0 (M o1) Z) (M o575))) (N o154 (N o0 (N o383 (M o0) Z) (M o0)) (N o310 (N o463 (M o764) Z) (M o614))))))) (N o2 (N o10 (N o1 (N o37 (N o84 (N o160 (N o0 (M o0) Z) (N o470 (M o771) Z)) (N o242 (N o390 (M o696) Z) (M o1))) (N o0 (N o203 (N o1 (M o657) Z) (N o0 (M o0) Z)) (N o279 (N o431 (M o733) Z) (M o584)))) (N o1 (N o104 (N o0 (N o335 (M o0) Z) (N o491 (M o790) Z)) (N o260 (N o1 (M o714) Z) (M o564))) (N o0 (N o1 (N o372 (M o1) Z) (M o527)) (N o0 (N o0 (M o751) Z) (M o603))))) (N o0 (N o47 (N o94 (N o170 (N o326 (M o630) Z) (N o479 (M o780) Z)) (N o0 (N o399 (M o0) Z) (M o0))) (N o131 (N o215 (N o0 (M o667) Z) (N o0 (M o820) Z)) (N o1 (N o441 (M o0) Z) (M o593)))) (N o1 (N o1 (N o191 (N o345 (M o648) Z) (N o1 (M o1) Z)) (N o269 (N o0 (M o723) Z) (M o0))) (N o151 (N o0 (N o0 (M o0) Z) (M o537)) (N o308 (N o0 (M o0) Z) (M o1)))))) (N o0 (N o23 (N o42 (N o89 (N o165 (N o1 (M o625) Z) (N o0 (M o0) Z)) (N o247 (N o0 (M o701) Z) (M o550))) (N o126 (N o210 (N o358 (M o662) Z) (N o514 (M o815) Z)) (N o0 (N o436 (M o737) Z) (M o0)))) (N o72 (N o0 (N o1 (N o340 (M o1) Z) (N o0 (M o795) Z)) (N o0 (N o416 (M o0) Z) (M o569))) (N o1 (N o228 (N o377 (M o682) Z) (M o532)) (N o301 (N o457 (M o758) Z) (M o0))))) (N o32 (N o14 (N o99 (N o0 (N o0 (M o635) Z) (N o484 (M o785) Z)) (N o1 (N o404 (M o1) Z) (M o559))) (N o138 (N o0 (N o367 (M o0) Z) (N o0 (M o825) Z)) (N o292 (N o445 (M o746) Z) (M o598)))) (N o73 (N o117 (N o0 (N o0 (M o0) Z) (N o504 (M o806) Z)) (N o274 (N o425 (M o728) Z) (M o1))) (N o0 (N o237 (N o1 (M o691) Z) (M o0)) (N o313 (N o1 (M o1) Z) (M o616))))))))) (N o4 (N boot_o_4 (N boot_o_8 (N o1 (N o0 (N o0 (N o0 (N o158 (N o314 (M o618) Z) (N o467 (M o768) Z)) (N o0 (N o387 (M o0) Z) (M o0))) (N o119 (N o198 (N o0 (M o655) Z) (N o506 (M o808) Z)) (N o1 (N o428 (M o1) Z) (M o579)))) (N o56 (N o1 (N o0 (N o333 (M o636) Z) (N o1 (M o1) Z)) (N o257 (N o1 (M o711) Z) (M o0))) (N o139 (N o0 (N o0 (M o0) Z) (N o525 (M o826) Z)) (N o294 (N o447 (M o0) Z) (M o1))))) (N o25 (N o43 (N o92 (N o1 (N o323 (M o0) Z) (N o477 (M o778) Z)) (N o248 (N o397 (M o702) Z) (M o552))) (N o0 (N o1 (N o360 (M o1) Z) (N o515 (M o0) Z)) (N o0 (N o1 (M o739) Z) (M o591)))) (N o69 (N o0 (N o188 (N o1 (M o645) Z) (N o0 (M o798) Z)) (N o267 (N o418 (M o721) Z) (M o570))) (N o148 (N o230 (N o378 (M o684) Z) (M o1)) (N o0 (N o458 (M o759) Z) (M o0)))))) (N o0 (N o20 (N o1 (N o87 (N o0 (N o0 (M o623) Z) (N o472 (M o773) Z)) (N o1 (N o392 (M o1) Z) (M o547))) (N o124 (N o0 (N o355 (M o0) Z) (N o511 (M o813) Z)) (N o280 (N o0 (M o734) Z) (M o586)))) (N o61 (N o105 (N o0 (N o0 (M o0) Z) (N o492 (M o791) Z)) (N o262 (N o413 (M o716) Z) (M o1))) (N o0 (N o225 (N o1 (M o679) Z) (M o0)) (N o299 (N o452 (M o14) Z) (M o604))))) (N o30 (N o50 (N o0 (N o173 (N o328 (M o1) Z) (N o0 (M o0) Z)) (N o0 (N o0 (M o0) Z) (M o557))) (N o1 (N o216 (N o365 (M o668) Z) (N o520 (M o1) Z)) (N o289 (N o442 (M o744) Z) (M o0)))) (N o0 (N o114 (N o193 (N o346 (M o650) Z) (N o501 (M o803) Z)) (N o0 (N o423 (M o0) Z) (M o0))) (N o153 (N o235 (N o0 (M o689) Z) (M o538)) (N o1 (N o0 (M o0) Z) (M o613))))))) (N o754 (N o9 (N o0 (N o36 (N o0 (N o0 (N o317 (M o620) Z) (N o1 (M o1) Z)) (N o241 (N o1 (M o695) Z) (M o0))) (N o121 (N o202 (N o0 (M o0) Z) (N o508 (M o810) Z)) (N o278 (N o430 (M o732) Z) (M o1)))) (N o0 (N o103 (N o182 (N o0 (M o639) Z) (N o490 (M o789) Z)) (N o1 (N o0 (M o1) Z) (M o563))) (N o142 (N o0 (N o371 (M o0) Z) (M o0)) (N o296 (N o449 (M o750) Z) (M o602))))) (N o27 (N o46 (N o0 (N o169 (N o1 (M o629) Z) (N o0 (M o0) Z)) (N o251 (N o0 (M o705) Z) (M o554))) (N o130 (N o214 (N o362 (M o666) Z) (N o518 (M o819) Z)) (N o0 (N o440 (M o741) Z) (M o0)))) (N o0 (N o0 (N o1 (N o344 (M o1) Z) (N o0 (M o0) Z)) (N o0 (N o420 (M o0) Z) (M o573))) (N o14 (N o232 (N o381 (M o686) Z) (M o536)) (N o307 (N o461 (M o762) Z) (M o0)))))) (N o13 (N o1 (N o41 (N o0 (N o164 (N o0 (M o0) Z) (N o474 (M o775) Z)) (N o246 (N o394 (M o700) Z) (M o1))) (N o0 (N o209 (N o1 (M o661) Z) (N o513 (M o0) Z)) (N o283 (N o435 (M o1) Z) (M o588)))) (N o65 (N o108 (N o0 (N o339 (M o0) Z) (N o495 (M o794) Z)) (N o264 (N o1 (M o718) Z) (M o568))) (N o0 (N o1 (N o376 (M o1) Z) (M o531)) (N o0 (N o456 (M o757) Z) (M o607))))) (N o0 (N o54 (N o98 (N o177 (N o330 (M o634) Z) (N o483 (M o784) Z)) (N o0 (N o403 (M o0) Z) (M o0))) (N o137 (N o219 (N o0 (M o671) Z) (N o522 (M o824) Z)) (N o1 (N o1 (M o0) Z) (M o597)))) (N o80 (N o1 (N o195 (N o349 (M o652) Z) (N o1 (M o1) Z)) (N o273 (N o0 (M o727) Z) (M o0))) (N o155 (N o0 (N o0 (M o0) Z) (M o541)) (N o312 (N o0 (M o0) Z) (M o1)))))))) (N boot_o_6 (N boot_o_10 (N o0 (N o17 (N o35 (N o82 (N o1 (N o315 (M o0) Z) (N o469 (M o770) Z)) (N o240 (N o389 (M o694) Z) (M o544))) (N o0 (N o200 (N o352 (M o1) Z) (N o0 (M o0) Z)) (N o0 (N o429 (M o0) Z) (M o581)))) (N o58 (N o0 (N o180 (N o1 (M o637) Z) (N o0 (M o0) Z)) (N o259 (N o410 (M o713) Z) (M o562))) (N o140 (N o222 (N o370 (M o674) Z) (N o1 (M o828) Z)) (N o0 (N o0 (M o749) Z) (M o0))))) (N o0 (N o44 (N o1 (N o0 (N o325 (M o628) Z) (N o1 (M o1) Z)) (N o249 (N o1 (M o703) Z) (M o0))) (N o129 (N o0 (N o0 (M o0) Z) (N o516 (M o818) Z)) (N o286 (N o0 (M o0) Z) (M o1)))) (N o14 (N o111 (N o190 (N o0 (M o647) Z) (N o498 (M o800) Z)) (N o1 (N o0 (M o1) Z) (M o571))) (N o150 (N o0 (N o379 (M o0) Z) (M o0)) (N o306 (N o459 (M o760) Z) (M o610)))))) (N o11 (N o22 (N o0 (N o1 (N o163 (N o320 (M o1) Z) (N o0 (M o0) Z)) (N o0 (N o0 (M o0) Z) (M o549))) (N o1 (N o208 (N o357 (M o660) Z) (N o1 (M o1) Z)) (N o281 (N o434 (M o736) Z) (M o0)))) (N o63 (N o106 (N o185 (N o338 (M o642) Z) (N o493 (M o792) Z)) (N o0 (N o415 (M o0) Z) (M o0))) (N o145 (N o227 (N o0 (M o681) Z) (M o530)) (N o1 (N o454 (M o0) Z) (M o605))))) (N o1 (N o52 (N o97 (N o175 (N o0 (M o0) Z) (N o482 (M o783) Z)) (N o254 (N o402 (M o708) Z) (M o1))) (N o0 (N o217 (N o1 (M o669) Z) (N o0 (M o0) Z)) (N o291 (N o444 (M o1) Z) (M o596)))) (N o78 (N o116 (N o0 (N o347 (M o0) Z) (N o503 (M o805) Z)) (N o272 (N o1 (M o726) Z) (M o576))) (N o0 (N o1 (N o384 (M o1) Z) (M o539)) (N o0 (N o464 (M o765) Z) (M o615))))))) (N o3 (N o0 (N o19 (N o38 (N o85 (N o161 (N o1 (M o621) Z) (N o0 (M o0) Z)) (N o243 (N o0 (M o697) Z) (M o546))) (N o122 (N o204 (N o354 (M o658) Z) (N o509 (M o811) Z)) (N o0 (N o432 (M o0) Z) (M o0)))) (N o60 (N o0 (N o1 (N o336 (M o1) Z) (N o0 (M o0) Z)) (N o0 (N o412 (M o0) Z) (M o565))) (N o1 (N o224 (N o373 (M o678) Z) (M o528)) (N o297 (N o450 (M o752) Z) (M o0))))) (N o28 (N o48 (N o95 (N o171 (N o0 (M o631) Z) (N o480 (M o781) Z)) (N o1 (N o400 (M o1) Z) (M o555))) (N o132 (N o0 (N o363 (M o0) Z) (N o1 (M o821) Z)) (N o288 (N o0 (M o742) Z) (M o594)))) (N o75 (N o113 (N o0 (N o0 (M o0) Z) (N o500 (M o802) Z)) (N o270 (N o421 (M o724) Z) (M o1))) (N o0 (N o233 (N o1 (M o687) Z) (M o0)) (N o309 (N o1 (M o1) Z) (M o612)))))) (N o14 (N o0 (N o0 (N o90 (N o166 (N o322 (M o626) Z) (N o475 (M o776) Z)) (N o0 (N o395 (M o0) Z) (M o0))) (N o127 (N o211 (N o0 (M o663) Z) (N o0 (M o816) Z)) (N o1 (N o437 (M o0) Z) (M o589)))) (N o67 (N o1 (N o187 (N o341 (M o644) Z) (N o1 (M o796) Z)) (N o265 (N o0 (M o719) Z) (M o0))) (N o147 (N o0 (N o0 (M o0) Z) (M o533)) (N o302 (N o0 (M o0) Z) (M o1))))) (N o33 (N o55 (N o100 (N o14 (N o331 (M o0) Z) (N o485 (M o786) Z)) (N o256 (N o405 (M o710) Z) (M o560))) (N o0 (N o1 (N o368 (M o1) Z) (N o523 (M o0) Z)) (N o0 (N o0 (M o747) Z) (M o599)))) (N o14 (N o0 (N o196 (N o1 (M o653) Z) (N o0 (M o0) Z)) (N o275 (N o426 (M o729) Z) (M o578))) (N o156 (N o238 (N o386 (M o692) Z) (M o1)) (N o0 (N o466 (M o767) Z) (M o0))))))))))
theorem q0 (w:World) (p:Program) (b:List Stmt) (os:OsState):segRun treeTable p w 11 (some (.ref 6)) 1 753 (sT (t0 w.params) 15 187 os).abs (piecesOf (sts 0 6) E0 (.body b E0) ⟨0,0,0,0⟩ [topFrame p0])=some (.next,(sT (t1 w.params) 113 340 os).abs,.body b E0,⟨47,0,52,28⟩):=segRun_of (via (by kernel_rfl))
theorem q1 (w:World) (p:Program) (b:List Stmt) (os:OsState):segRun treeTable p w 11 (some (.ref 6)) 1 785 (sT (t1 w.params) 113 340 os).abs (piecesOf (sts 6 14) E0 (.body b E0) ⟨47,0,52,28⟩ [topFrame p0])=some (.next,(sT (t2 w.params) 215 480 os).abs,.body b E0,⟨94,0,104,23⟩):=segRun_of (via (by kernel_rfl))
theorem q2 (w:World) (p:Program) (b:List Stmt) (os:OsState):segRun treeTable p w 11 (some (.ref 6)) 1 793 (sT (t2 w.params) 215 480 os).abs (piecesOf (sts 20 7) E0 (.body b E0) ⟨94,0,104,23⟩ [topFrame p0])=some (.next,(sT (t3 w.params) 328 646 os).abs,.body b E0,⟨179,0,197,16⟩):=segRun_of (via (by kernel_rfl))
theorem q3 (w:World) (p:Program) (b:List Stmt) (os:OsState):segRun treeTable p w 11 (some (.ref 6)) 1 791 (sT (t3 w.params) 328 646 os).abs (piecesOf (sts 27 26) E0 (.body b E0) ⟨179,0,197,16⟩ [topFrame p0])=some (.next,(sT (t4 w.params) 496 894 os).abs,.body b E0,⟨327,0,331,38⟩):=segRun_of (via (by kernel_rfl))
theorem q4 (w:World) (p:Program) (b:List Stmt) (os:OsState):segRun treeTable p w 11 (some (.ref 6)) 1 793 (sT (t4 w.params) 496 894 os).abs (piecesOf (sts 53 27) E0 (.body b E0) ⟨327,0,331,38⟩ [topFrame p0])=some (.next,(sT (t5 w.params) 671 1120 os).abs,.body b E0,⟨506,0,506,21⟩):=segRun_of (via (by kernel_rfl))
theorem q5 (w:World) (p:Program) (b:List Stmt) (os:OsState):segRun treeTable p w 11 (some (.ref 6)) 1 793 (sT (t5 w.params) 671 1120 os).abs (piecesOf (sts 80 15) E0 (.body b E0) ⟨506,0,506,21⟩ [topFrame p0])=some (.next,(sT (t6 w.params) 799 1321 os).abs,.body b E0,⟨671,0,696,49⟩):=segRun_of (via (by kernel_rfl))
theorem q6 (w:World) (p:Program) (b:List Stmt) (os:OsState):segRun treeTable p w 11 (some (.ref 6)) 1 777 (sT (t6 w.params) 799 1321 os).abs (piecesOf (sts 95 28) E0 (.body b E0) ⟨671,0,696,49⟩ [topFrame p0])=some (.next,(sT (t7 w.params) 963 1543 os).abs,.body b E0,⟨901,0,902,63⟩):=segRun_of (via (by kernel_rfl))
theorem q7 (w:World) (p:Program) (b:List Stmt) (os:OsState):segRun treeTable p w 11 (some (.ref 6)) 1 775 (sT (t7 w.params) 963 1543 os).abs (piecesOf (sts 123 26) E0 (.body b E0) ⟨901,0,902,63⟩ [topFrame p0])=some (.next,(sT (t8 w.params) 1124 1788 os).abs,.body b E0,⟨1106,0,1133,42⟩):=segRun_of (via (by kernel_rfl))
theorem q8 (w:World) (p:Program) (b:List Stmt) (os:OsState):segRun treeTable p w 11 (some (.ref 6)) 1 669 (sT (t8 w.params) 1124 1788 os).abs (piecesOf (sts 149 24) E0 (.body b E0) ⟨1106,0,1133,42⟩ [topFrame p0])=some (.next,(sT (t9 w.params) 1255 2003 os).abs,.body b E0,⟨1296,0,1296,8⟩):=segRun_of (via (by kernel_rfl))
theorem q9 (w:World) (p:Program) (b:List Stmt) (os:OsState):segRun treeTable p w 11 (some (.ref 6)) 1 728 (sT (t9 w.params) 1255 2003 os).abs (piecesOf (sts 173 9) E0 (.body b E0) ⟨1296,0,1296,8⟩ [topFrame p0])=some (.next,(sT (t10 w.params) 1379 2186 os).abs,.body b E0,⟨1424,0,1466,15⟩):=segRun_of (via (by kernel_rfl))
end H
end
section
noncomputable abbrev p1:Pos:=⟨1424,0,1466,15⟩
noncomputable abbrev tB (w:World) (os:OsState):Shared:=(H.sT (H.t0 w.params) 15 187 os).abs
noncomputable abbrev tE (w:World) (os:OsState):Shared:=(H.sT (H.t10 w.params) 1379 2186 os).abs
noncomputable abbrev cB:Code:=Code.body H.bPw H.E0
theorem hd_pre (w:World) (os:OsState):topGo treeTable Pw w 11 (some (.ref 6)) 12 ⟨boot_heap w.params,Array.mk [],boot_drawn,boot_toks,os⟩ (topStub Pw)=some (tB w os,⟨denote treeTable cB,cB,H.p0,[topFrame H.p0]⟩):=by kernel_rfl
theorem hd_block (w:World) (os:OsState):segRun treeTable Pw w 11 (some (.ref 6)) 1 1 (tB w os) (blockOf H.bPw H.E0 cB H.p0 [topFrame H.p0])=some (.next,tB w os,cB,H.p0):=by kernel_rfl
theorem hd_fin (w:World) (os:OsState):topRun treeTable Pw w 11 (some (.ref 6)) 2 (tE w os) ⟨doneF .next,cB,p1,[topFrame H.p0]⟩=some (tE w os):=by kernel_rfl
theorem hd_body:H.bPw=H.sts 0 6++(H.sts 6 14++(H.sts 20 7++(H.sts 27 26++(H.sts 53 27++(H.sts 80 15++(H.sts 95 28++(H.sts 123 26++(H.sts 149 24++(H.sts 173 9++[]))))))))):=by kernel_rfl
theorem hd_rest (w:World) (os:OsState):topRun treeTable Pw w 11 (some (.ref 6)) (753+(785+(793+(791+(793+(793+(777+(775+(669+(728+2)))))))))) (tB w os) (restOf H.bPw H.E0 cB H.p0 [topFrame H.p0])=some (tE w os) :=
  (congrArg (fun l=>topRun treeTable Pw w 11 (some (.ref 6)) (753+(785+(793+(791+(793+(793+(777+(775+(669+(728+2)))))))))) (tB w os) (restOf l H.E0 cB H.p0 [topFrame H.p0])) hd_body).trans
    (piece_app (H.q0 w Pw H.bPw os) (piece_app (H.q1 w Pw H.bPw os) (piece_app (H.q2 w Pw H.bPw os) (piece_app (H.q3 w Pw H.bPw os) (piece_app (H.q4 w Pw H.bPw os) (piece_app (H.q5 w Pw H.bPw os) (piece_app (H.q6 w Pw H.bPw os) (piece_app (H.q7 w Pw H.bPw os) (piece_app (H.q8 w Pw H.bPw os) (piece_app (H.q9 w Pw H.bPw os) (piece_nil (hd_fin w os))))))))))))
theorem hd_run (w:World) (os:OsState):topRun treeTable Pw w 11 (some (.ref 6)) 7672 ⟨boot_heap w.params,Array.mk [],boot_drawn,boot_toks,os⟩ (topStub Pw)=some (tE w os) :=
  go_top (n:=12) (N:=7660) (hd_pre w os) (piece_block (n:=1) (N:=7659) (hd_block w os) (hd_rest w os))
theorem hd_open (w:World):(fencedOpening treeTable Pw w 20000).map (fun s=>(s.heap,s.gens,s.drawn,s.toks))=some (boot_heap w.params,Array.mk [],boot_drawn,boot_toks) :=
  boot_open (by kernel_rfl) (by decide) (fun s=>by kernel_rfl) w
theorem hd_size (w:World):((boot_heap w.params).isNs mainGlobals && (Array.mk ([]:List GenState)).size == 0,(boot_heap w.params).objs.size,(boot_heap w.params).nsMap mainGlobals "__annotations__")=(true,11,some (.ref 6)):=by kernel_rfl
theorem hd_mods:importedModules Pw.main.body=[]:=by kernel_rfl
noncomputable def hE (P:Params):Heap:=absHeap (H.t10 P) 1379 { }
theorem hd_l1 (w:World) (os:OsState):(staticsOk [] (boot_heap w.params) (hE w.params) && namesBound Pw (hE w.params) && gensDone (tE w os) && laidKept (boot_heap w.params) (hE w.params))=true:=by
  refine Bool.and_eq_true_iff.mpr ⟨Bool.and_eq_true_iff.mpr ⟨Bool.and_eq_true_iff.mpr ⟨?_,?_⟩,?_⟩,?_⟩
  · kernel_rfl
  · kernel_rfl
  · kernel_rfl
  · kernel_rfl
noncomputable def loose0:List Str:=Str.ofString "_wall"::Str.ofString "net_kinds"::Str.ofString "Design"::Str.ofString "GateloomError"::Str.ofString "DesignError"::Str.ofString "LimitReached"::Str.ofString "mask"::Str.ofString "vec"::Str.ofString "zeros"::Str.ofString "all_x"::Str.ofString "all_z"::Str.ofString "from_int"::Str.ofString "is_known"::Str.ofString "to_int"::Str.ofString "code"::Str.ofString "slice_vec"::Str.ofString "put_slice"::Str.ofString "concat"::Str.ofString "extend"::Str.ofString "z_to_x"::Str.ofString "truth"::Str.ofString "Store"::Str.ofString "Context"::Str.ofString "add"::Str.ofString "sub"::Str.ofString "mul"::Str.ofString "neg"::Str.ofString "quotient"::Str.ofString "div"::Str.ofString "mod"::Str.ofString "raise_whole"::Str.ofString "power"::Str.ofString "shift_left"::Str.ofString "shift_right"::Str.ofString "shift_arith"::Str.ofString "ordered"::Str.ofString "less"::Str.ofString "less_equal"::Str.ofString "greater"::Str.ofString "greater_equal"::Str.ofString "one_bit"::Str.ofString "bit_not"::Str.ofString "bit_and"::Str.ofString "bit_or"::Str.ofString "bit_xor"::Str.ofString "bit_xnor"::Str.ofString "reduce_and"::Str.ofString "reduce_nand"::Str.ofString "reduce_or"::Str.ofString "reduce_nor"::Str.ofString "reduce_xor"::Str.ofString "reduce_xnor"::Str.ofString "logic_not"::Str.ofString "logic_and"::Str.ofString "logic_or"::Str.ofString "equal"::Str.ofString "not_equal"::Str.ofString "case_equal"::Str.ofString "case_not_equal"::Str.ofString "matches"::Str.ofString "choose"::Str.ofString "unary"::Str.ofString "arithmetic"::Str.ofString "comparison"::Str.ofString "bitwise"::Str.ofString "binary"::Str.ofString "whole_of"::Str.ofString "memory_word"::Str.ofString "picked"::Str.ofString "conditional"::Str.ofString "bits_needed"::Str.ofString "system_value"::Str.ofString "system_value_evaluate"::Str.ofString "evaluate"::Str.ofString "locate"::Str.ofString "holder_width"::Str.ofString "resolve_target"::Str.ofString "store_rows"::Str.ofString "DEPTH_LIMIT"::Str.ofString "FunctionContext"::Str.ofString "run_block"::Str.ofString "run_set"::Str.ofString "run_case"::Str.ofString "run_while"::Str.ofString "run_repeat"::Str.ofString "run_for"::Str.ofString "run_statement"::Str.ofString "children"::Str.ofString "subexpressions"::Str.ofString "expr_reads"::Str.ofString "expr_calls"::Str.ofString "target_indexes"::Str.ofString "target_writes"::Str.ofString "stmt_parts"::Str.ofString "substatements"::Str.ofString "stmt_targets"::Str.ofString "stmt_exprs"::Str.ofString "stmt_reads"::Str.ofString "stmt_writes"::Str.ofString "stmt_calls"::Str.ofString "MAX_WIDTH"::Str.ofString "last_select"::Str.ofString "is_memory"::Str.ofString "shape"::Str.ofString "shape_elabparts"::Str.ofString "read_entry"::Str.ofString "folds"::Str.ofString "folded"::Str.ofString "checked_width"::Str.ofString "selected"::Str.ofString "text_vec"::Str.ofString "inner_join"::Str.ofString "is_context_operator"::Str.ofString "is_shift"::Str.ofString "widen"::Str.ofString "number_value"::Str.ofString "is_changing"::Str.ofString "asks_system"::Str.ofString "is_constant"::Str.ofString "MOST_NESTING"::Str.ofString "path_names"::Str.ofString "entry_of"::Str.ofString "base_entry"::Str.ofString "select_width"::Str.ofString "select_where"::Str.ofString "named_type"::Str.ofString "named_value"::Str.ofString "function_of"::Str.ofString "call_value"::Str.ofString "system_type"::Str.ofString "system_value_elabexpr"::Str.ofString "joined_parts"::Str.ofString "copies"::Str.ofString "joined_width"::Str.ofString "joined_value"::Str.ofString "both_types"::Str.ofString "expr_type"::Str.ofString "unary_value"::Str.ofString "binary_value"::Str.ofString "build"::Str.ofString "self_determined"::Str.ofString "sized"::Str.ofString "constant_vec"::Str.ofString "constant"::Str.ofString "whole"::Str.ofString "small_whole"::Str.ofString "range_of"::Str.ofString "MOST_WIDTH"::Str.ofString "width_of"::Str.ofString "shape_elabdecl"::Str.ofString "called_names"::Str.ofString "declared_name"::Str.ofString "port_items"::Str.ofString "partner_places"::Str.ofString "default_net"::Str.ofString "port_shape"::Str.ofString "check_port_range"::Str.ofString "Scope"::Str.ofString "_law_open"::Str.ofString "_law_next"::Str.ofString "_law_expression"::Str.ofString "_law_span"::Str.ofString "_law_item"::Str.ofString "_law_told"::[]
noncomputable def q0:Program:={ Pw with main:={ Pw.main with body:=[stAt 181] } }
theorem hd_l2 (w:World) (os:OsState):openSeen q0 loose0 [] (fun s=>xlAt q0 [] s && recOk (RowW.records PySem.Challenge.rw_pq0481_01.row.toRowW) s) true (tE w os)=openGood q0 loose0:=by
  unfold openSeen openGood
  refine Prod.ext ?_ (Prod.ext ?_ (Prod.ext ?_ (Prod.ext ?_ (Prod.ext ?_ (Prod.ext ?_ (Prod.ext ?_ (Prod.ext ?_ ?_)))))))
  · kernel_rfl
  · kernel_rfl
  · kernel_rfl
  · kernel_rfl
  · kernel_rfl
  · kernel_rfl
  · kernel_rfl
  · kernel_rfl
  · kernel_rfl
noncomputable abbrev r0:RowW:=PySem.Challenge.rw_pq0481_01.row.toRowW
theorem hd_as (P:Params):as0=(K0 P).map (·.1):=by kernel_rfl
noncomputable abbrev H0:Hook:=kHook K0 as0 hd_as
theorem hd_l3 (w:World) (os:OsState):H0.obs (tE w os)=H0.val w:=by kernel_rfl
theorem hd_left:LeftO PySem.Challenge.rw_pq0481_01.row.prog q0 loose0 (fun s=>xlAt q0 [] s && recOk (RowW.records r0) s) H0.obs H0.val 20000 :=
  LeftO.of_pieces (p:=PySem.Challenge.rw_pq0481_01.row.prog) (H₀:=boot_heap) (H₁:=hE) (gs₀:=Array.mk []) (gs₁:=Array.mk []) (d₀:=boot_drawn) (d₁:={ }) (k₀:=boot_toks) (k₁:=2186) (m₀:=11) (ann:=some (.ref 6)) hd_open hd_size hd_run (by decide) (fun w=>by
    funext os
    have e:=hd_mods
    refine Prod.ext ?_ (Prod.ext ?_ ?_)
    · show (staticsOk (importedModules Pw.main.body) _ _ && _ && _ && _)=true
      rw [e];exact hd_l1 w os
    · change openSeen q0 loose0 (importedModules Pw.main.body) (fun s=>xlAt q0 [] s && recOk (RowW.records r0) s) true (tE w os)=openGood q0 loose0
      rw [e];exact hd_l2 w os
    · exact hd_l3 w os)
noncomputable def fPos:Stmt→Pos
  | .FunctionDef _ _ _ _ _ _ _ _ _ p=>p
  | _=>⟨0,0,0,0⟩
noncomputable def d0:DefRec:=⟨Str.ofString "law",fParams (stAt 181),fBody (stAt 181),fScope (stAt 181),fPos (stAt 181)⟩
theorem hd_said (said:PySem.Challenge.rw_pq0481_01.row.wellSaid=true) (hw:r0.promised)
    (walk:WalkO q0 loose0 (XL q0 []) H0.says r0 d0 [] fun f vs=>PySem.call f vs):PySem.Challenge.rw_pq0481_01.row.Holds:=by
  refine holds_open (r:=PySem.Challenge.rw_pq0481_01.row) (q:=q0) (loose:=loose0) (Xt:=fun s=>xlAt q0 [] s && recOk (RowW.records r0) s) (XP:=XL q0 []) (Yf:=H0.obs) (Ya:=H0.val) (YP:=H0.says) (N:=20000) hd_left H0.of H0.keeps (fun s e=>xl_of s (Bool.and_eq_true_iff.mp e).1) XL.keeps (d:=d0) (kwd:=[]) (by kernel_rfl) (by kernel_rfl) (by kernel_rfl) (fun s e=>recFacts_of (Bool.and_eq_true_iff.mp e).2) (by rfl) said (by decide +kernel) ⟨rfl,rfl,rfl,rfl,rfl,tabs⟩ hw walk
end
section
noncomputable abbrev Led:=List (Addr × Obj)
/-- what a call needs around it -/
structure Env0 (w:World) (A A₀:Around) (env:Env) (outer:List Env) (base h₀:Heap) (L:Addr) (dp un:Nat) (p:Program) (loose:List Str) (mean:ExcName→Option Value) (mg mb:Str→Option Value):Prop where
  B:Below A₀ base outer h₀
  X:(K0 w.params).In h₀
  T:Top p loose mean mg mb h₀
  hA:A.frames=some (env::outer)
  hf:env.frame=some L
  hk:env.scope.kind=.function
  hh:A.handled=none
  hd:A.depth+dp<recursionLimit
  hu:A.units+un<cLine
/-- a contract of the def at f: from the ledger news the call hands back r over the ledger news' with post -/
noncomputable def Spec (prog:Program) (w:World) (f:Addr) (vs:List Value) (dp un:Nat) (news:Led) (post:Value→Led→Prop):Prop :=
  ∀ (A A₀:Around) (env:Env) (outer:List Env) (base h₀:Heap) (L:Addr) (p:Program) (loose:List Str) (mean:ExcName→Option Value) (mg mb:Str→Option Value) (m:Str→Option Value) (s:Shared) (Q E:Value→Shared→Prop),
    Env0 w A A₀ env outer base h₀ L dp un p loose mean mg mb→Fr h₀ L s.heap m→News h₀ L s.heap news →
    (∀ r h' tk' news',Fr h₀ L h' m→News h₀ L h' news'→post r news'→Q r { s with heap:=h',toks:=tk' }) →
    wpAny (model prog w) A (call (.ref f) vs) Q E s
theorem Spec.mono {prog:Program} {w:World} {f:Addr} {vs:List Value} {dp un:Nat} {news:Led} {post post':Value→Led→Prop} (h:Spec prog w f vs dp un news post) (hp:∀ r l,post r l→post' r l):Spec prog w f vs dp un news post' :=
  fun A A₀ env outer base h₀ L p loose mean mg mb m s Q E C F N hQ=>h A A₀ env outer base h₀ L p loose mean mg mb m s Q E C F N fun r h' tk' news' F' N' hp'=>hQ r h' tk' news' F' N' (hp _ _ hp')
theorem news_sub {h₀ h:Heap} {L:Addr} {l l':Led} (N:News h₀ L h l) (hs:∀ p∈l',p∈l):News h₀ L h l':=fun p hp=>N p (hs p hp)
/-- the ledger may be laid in another order,or grown -/
theorem Spec.sub {prog:Program} {w:World} {f:Addr} {vs:List Value} {dp un:Nat} {news news₂:Led} {post:Value→Led→Prop} (h:Spec prog w f vs dp un news post) (hs:∀ p∈news,p∈news₂):Spec prog w f vs dp un news₂ post :=
  fun A A₀ env outer base h₀ L p loose mean mg mb m s Q E C F N hQ=>h A A₀ env outer base h₀ L p loose mean mg mb m s Q E C F (news_sub N hs) hQ
theorem Spec.go {prog:Program} {w:World} {f:Addr} {vs:List Value} {dp un:Nat} {news:Led} {post:Value→Led→Prop} {A A₀:Around} {env:Env} {outer:List Env} {base h₀:Heap} {L:Addr} {p:Program} {loose:List Str} {mean:ExcName→Option Value} {mg mb:Str→Option Value} {m:Str→Option Value} {s:Shared} {Q E:Value→Shared→Prop}
    (F:Fr h₀ L s.heap m) (N:News h₀ L s.heap news) (C:Env0 w A A₀ env outer base h₀ L dp un p loose mean mg mb) (h:Spec prog w f vs dp un news post) (hQ:∀ r h' tk' news',Fr h₀ L h' m→News h₀ L h' news'→post r news'→Q r { s with heap:=h',toks:=tk' }):wpAny (model prog w) A (call (.ref f) vs) Q E s :=
  h A A₀ env outer base h₀ L p loose mean mg mb m s Q E C F N hQ
noncomputable def Tups (l:Led):Prop:=∀ p∈l,p.2.cls=.type "tuple"
theorem tups_nil:Tups []:=fun _ h=>nomatch h
theorem tups_cons {a:Addr} {o:Obj} {l:Led} (h:o.cls=.type "tuple") (k:Tups l):Tups ((a,o)::l):=fun p hp=>by
  rcases List.mem_cons.mp hp with rfl|hp
  · exact h
  · exact k p hp
theorem tups_app {l l':Led} (h:Tups l) (k:Tups l'):Tups (l++l'):=fun p hp=>(List.mem_append.mp hp).elim (h p) (k p)
noncomputable def notTup (o:Obj):Prop:=o.cls≠.type "tuple"
theorem notTup_list {a:Array Value} {n:Nat}:notTup (listOf a n):=by show Value.type "list"≠Value.type "tuple";decide
theorem notTup_dict {a:List DictEntry} {n:Nat}:notTup (dictOf a n):=by show Value.type "dict"≠Value.type "tuple";decide
theorem notTup_inst {C d:Addr}:notTup (instObj C d):=by show Value.ref C≠Value.type "tuple";exact fun h=>nomatch h
theorem tups_ne {h₀ h:Heap} {L:Addr} {l D:Led} {d:Addr} {o:Obj} (N:News h₀ L h l) (hm:(d,o)∈l) (hc:notTup o) (hD:Tups D) (hs:∀ p∈D,p∈l):∀ p∈D,p.1≠d:=fun p hp e=>by
  have h1:=(N p (hs p hp)).1
  have h2:=(N _ hm).1
  rw [e,h2] at h1
  exact hc ((congrArg Obj.cls (Option.some.inj h1)).trans (hD p hp))
theorem upd_app {d:Addr} {o o':Obj} {tl r r':Led} (h:∀ p∈tl,p.1≠d) (k:Upd d o o' r r'):Upd d o o' (tl++r) (tl++r'):=by
  induction tl with
  | nil=>exact k
  | cons q t ih=>exact .tail (h q (.head _)) (ih fun p hp=>h p (.tail _ hp))
theorem pick_list {prog:Program} {w:World} {A:Around} {E:Value→Shared→Prop} {s:Shared} {value slice:PySem.Expr} {h₀:Heap} {L:Addr} {news:Led} {l:Addr} {its:List Value} {n:Nat} {k:Int} {u:Tok} {Q:Value→Shared→Prop} (N:News h₀ L s.heap news) (hm:(l,listOf its.toArray n)∈news) (h0:0≤k) (h1:k<its.length) (hz:its.length<100) (h:∀ v∈its,Q v s)
    (hs:subscripted slice false (.ref l) (.int k u)=operate [.ref l,.int k u] (getItem (.ref l) (.int k u))):wpAny (model prog w) A (subscriptTail value slice (.ref l) (.int k u)) Q E s:=by
  have hj:k.toNat<its.length:=by omega
  exact item_litK (News.isList N hm) h0 (by omega) (List.getElem?_eq_getElem hj) (h _ (List.getElem_mem hj)) hs
theorem led_ne {l:Led} {D a:Addr} {o:Obj} (h:∀ p∈l,p.1<D) (m:(a,o)∈l):D≠a:=fun e=>Nat.lt_irrefl _ (e ▸ h _ m)
theorem led_ne' {l:Led} {D a:Addr} {o:Obj} (h:∀ p∈l,p.1<D) (m:(a,o)∈l):a≠D:=fun e=>Nat.lt_irrefl _ (e ▸ h _ m)
theorem news_lt {h₀ h:Heap} {L:Addr} {l:Led} (N:News h₀ L h l):∀ p∈l,p.1<h.objs.size:=fun p hp=>Heap.lt_size (N p hp).1
theorem Env0.less {w:World} {A A₀:Around} {env:Env} {outer:List Env} {base h₀:Heap} {L:Addr} {dp un dp' un':Nat} {p:Program} {loose:List Str} {mean:ExcName→Option Value} {mg mb:Str→Option Value} (C:Env0 w A A₀ env outer base h₀ L dp un p loose mean mg mb) (h:Nat.ble dp' dp=true) (k:Nat.ble un' un=true):Env0 w A A₀ env outer base h₀ L dp' un' p loose mean mg mb :=
  ⟨C.B,C.X,C.T,C.hA,C.hf,C.hk,C.hh,Nat.lt_of_le_of_lt (Nat.add_le_add_left (Nat.le_of_ble_eq_true h) _) C.hd,Nat.lt_of_le_of_lt (Nat.add_le_add_left (Nat.le_of_ble_eq_true k) _) C.hu⟩
theorem Env0.deeper {w:World} {A:Around} {e:Env} {outer:List Env} {base h₀:Heap} {L:Addr} {dp un:Nat} {p:Program} {loose:List Str} {mean:ExcName→Option Value} {mg mb:Str→Option Value} {env:Env}
    (B:Below A base (env::outer) h₀) (X:(K0 w.params).In h₀) (T:Top p loose mean mg mb h₀) (hA:A.frames=some (env::outer)) (hf:e.frame=some L) (hk:e.scope.kind=.function) (hh:A.handled=none) (hd:A.depth+(dp+1)<recursionLimit) (hu:A.units+(un+3)<cLine) :
    Env0 w (A.deeper e) A e (env::outer) base h₀ L dp un p loose mean mg mb :=
  ⟨B,X,T,by simp [Around.deeper,hA],hf,hk,by simpa [Around.deeper] using hh,by simp only [Around.deeper];omega,by simp only [Around.deeper];omega⟩
noncomputable abbrev handO (dg:Addr) (k:Int) (tk:Tok) (n1:Nat):Obj:=listOf #[.ref dg,.int k tk] n1
mutual
noncomputable def noList:Dat→Bool
  | .tuple ds=>noLists ds
  | .list _=>false
  | _=>true
noncomputable def noLists:List Dat→Bool
  | []=>true
  | d::ds=>noList d && noLists ds
end
noncomputable def tupPart (l:Led):Led:=l.filter fun p=>decide (p.2.cls=.type "tuple")
theorem tupPart_tups (l:Led):Tups (tupPart l):=fun _ hp=>by simpa using (List.mem_filter.mp hp).2
theorem tupPart_sub {l:Led}:∀ p∈tupPart l,p∈l:=fun _ hp=>(List.mem_filter.mp hp).1
mutual
theorem dat_tups {l:Led}:∀ {v:Value} {d:Dat},DatIn l v d→noList d=true→DatIn (tupPart l) v d
  | _,_,.none,_=>.none
  | _,_,.bool b,_=>.bool b
  | _,_,.int i t,_=>.int i t
  | _,_,.str x t,_=>.str x t
  | _,_,.bytes b t,_=>.bytes b t
  | _,_,.tuple h r,k=>.tuple (List.mem_filter.mpr ⟨h,by simp⟩) (dats_tups r (by simpa [noList] using k))
  | _,_,.list _ _,k=>by simp [noList] at k
theorem dats_tups {l:Led}:∀ {vs:List Value} {ds:List Dat},DatAll l vs ds→noLists ds=true→DatAll (tupPart l) vs ds
  | _,_,.nil,_=>.nil
  | _,_,.cons h r,k=>by
    rw [noLists,Bool.and_eq_true] at k
    exact .cons (dat_tups h k.1) (dats_tups r k.2)
end
/-- a def's end: the tuples of the ledger that it leaves behind,and the cells that it turned -/
theorem end_dat {h₀ h:Heap} {L:Addr} {news M data:Led} {r:Value} {d:Dat} (N:News h₀ L h news) (hM:∀ p∈M,p∈news) (hdat:DatIn news r d) (nl:noList d=true) (hs:∀ p∈data,p∈news) :
    ∃ tl,Tups tl∧DatIn tl r d∧News h₀ L h (M++(tl++data)) :=
  ⟨tupPart news,tupPart_tups _,dat_tups hdat nl,news_sub N fun p hp=>(List.mem_append.mp hp).elim (hM p) fun h=>(List.mem_append.mp h).elim (tupPart_sub p) (hs p)⟩
theorem sub_cons {α:Type} {x:α} {r l:List α} (h:x∈l) (k:∀ p∈r,p∈l):∀ p∈x::r,p∈l:=List.forall_mem_cons.mpr ⟨h,k⟩
theorem sub_app {α:Type} {r r' l:List α} (h:∀ p∈r,p∈l) (k:∀ p∈r',p∈l):∀ p∈r++r',p∈l:=List.forall_mem_append.mpr ⟨h,k⟩
theorem sub_append {α:Type} {r r' l:List α} (h:∀ p∈r,p∈l) (k:∀ p∈r',p∈l):∀ p∈List.append r r',p∈l:=List.forall_mem_append.mpr ⟨h,k⟩
theorem all_app {α:Type} {r r':List α} {q:α→Prop} (h:∀ p∈r,q p) (k:∀ p∈r',q p):∀ p∈r++r',q p:=List.forall_mem_append.mpr ⟨h,k⟩
theorem off_sub {l D:Led} {d:Addr} (h:∀ p∈l,p.1<d) (hs:∀ p∈D,p∈l):∀ p∈D,p.1≠d:=fun p hp=>Nat.ne_of_lt (h p (hs p hp))
theorem room {a n k c:Nat} (h:a+n<c) (hk:Nat.ble k n=true):a+k<c:=Nat.lt_of_le_of_lt (Nat.add_le_add_left (Nat.le_of_ble_eq_true hk) a) h
theorem room0 {a n c:Nat} (h:a+n<c):a<c:=Nat.lt_of_le_of_lt (Nat.le_add_right a n) h
/-- a def's end: what is left behind,handed on -/
theorem end_cps {h₀ h:Heap} {L:Addr} {news:Led} {r:Value} {P:Prop} (M data:Led) (d:Dat) (N:News h₀ L h news) (hM:∀ p∈M,p∈news) (hdat:DatIn news r d) (nl:noList d=true) (hs:∀ p∈data,p∈news)
    (k:∀ tl,Tups tl→DatIn tl r d→News h₀ L h (M++(tl++data))→P):P :=
  let ⟨tl,a,b,c⟩:=end_dat N hM hdat nl hs
  k tl a b c
end
theorem fill : K0 = K0 ∧ PySem.Challenge.rw_pq0481_01 = PySem.Challenge.rw_pq0481_01 := by k_fill; exact ⟨rfl, rfl⟩
local macro_rules | `(tactic| k_mem) => `(tactic| first | ((with_reducible show _ ∈ _ :: _); first | exact List.mem_cons_self | (refine List.mem_cons_of_mem _ ?_; k_mem)) | ((with_reducible first | show _ ∈ _ ++ _ | show _ ∈ List.append _ _); first | (refine List.mem_append_left _ ?_; k_mem) | (refine List.mem_append_right _ ?_; k_mem)) | with_reducible assumption)
local macro_rules | `(tactic| k_all) => `(tactic| first | (first | assumption | exact tups_ne (by assumption) (by k_mem) (by first | exact notTup_list | exact notTup_dict | exact notTup_inst) (by assumption) (by ((repeat' (first | with_reducible exact fun _ h => h | with_reducible exact List.forall_mem_nil _ | (with_reducible refine sub_cons ?_ ?_) | (with_reducible refine sub_app ?_ ?_) | (with_reducible refine sub_append ?_ ?_) | (intro q9 hq9; first | k_mem | (replace hq9 := hs _ hq9; k_mem)) | k_mem)); first | done | fail "left")) | exact off_sub (by assumption) (by ((repeat' (first | with_reducible exact fun _ h => h | with_reducible exact List.forall_mem_nil _ | (with_reducible refine sub_cons ?_ ?_) | (with_reducible refine sub_app ?_ ?_) | (with_reducible refine sub_append ?_ ?_) | (intro q9 hq9; first | k_mem | (replace hq9 := hs _ hq9; k_mem)) | k_mem)); first | done | fail "left"))) | (refine' all_app ?a ?b; (case a => (first | assumption | exact tups_ne (by assumption) (by k_mem) (by first | exact notTup_list | exact notTup_dict | exact notTup_inst) (by assumption) (by ((repeat' (first | with_reducible exact fun _ h => h | with_reducible exact List.forall_mem_nil _ | (with_reducible refine sub_cons ?_ ?_) | (with_reducible refine sub_app ?_ ?_) | (with_reducible refine sub_append ?_ ?_) | (intro q9 hq9; first | k_mem | (replace hq9 := hs _ hq9; k_mem)) | k_mem)); first | done | fail "left")) | exact off_sub (by assumption) (by ((repeat' (first | with_reducible exact fun _ h => h | with_reducible exact List.forall_mem_nil _ | (with_reducible refine sub_cons ?_ ?_) | (with_reducible refine sub_app ?_ ?_) | (with_reducible refine sub_append ?_ ?_) | (intro q9 hq9; first | k_mem | (replace hq9 := hs _ hq9; k_mem)) | k_mem)); first | done | fail "left")))); (case b => k_all)))
local macro_rules | `(tactic| k_upd) => `(tactic| (refine' upd_app ?a ?b; (case a => (first | assumption | exact tups_ne (by assumption) (by k_mem) (by first | exact notTup_list | exact notTup_dict | exact notTup_inst) (by assumption) (by ((repeat' (first | with_reducible exact fun _ h => h | with_reducible exact List.forall_mem_nil _ | (with_reducible refine sub_cons ?_ ?_) | (with_reducible refine sub_app ?_ ?_) | (with_reducible refine sub_append ?_ ?_) | (intro q9 hq9; first | k_mem | (replace hq9 := hs _ hq9; k_mem)) | k_mem)); first | done | fail "left")) | exact off_sub (by assumption) (by ((repeat' (first | with_reducible exact fun _ h => h | with_reducible exact List.forall_mem_nil _ | (with_reducible refine sub_cons ?_ ?_) | (with_reducible refine sub_app ?_ ?_) | (with_reducible refine sub_append ?_ ?_) | (intro q9 hq9; first | k_mem | (replace hq9 := hs _ hq9; k_mem)) | k_mem)); first | done | fail "left")))); (case b => k_upd)))
local macro_rules | `(tactic| k_ne) => `(tactic| ((try dsimp only); first | assumption | exact Ne.symm (by assumption) | exact led_ne (by assumption) (by k_mem) | exact led_ne' (by assumption) (by k_mem) | omega | (refine neN ?_; (try dsimp only); omega)))
local macro_rules | `(tactic| k_lt $_:ident) => `(tactic| skip)
section
noncomputable abbrev tupO (vs:Array Value) (n:Nat):Obj:={ cls:=.type "tuple",data:=.seq vs n }
/-- a datum laid open: the one that is marked stays a value with its datum -/
noncomputable def Lay1 (l:Led) (d:Dat) (k:Value→Prop):Prop :=
  Dat.casesOn (motive_1:=fun _=>Prop) d (k .none) (fun b=>k (.bool b)) (fun i=>∀ t,k (.int i t)) (fun x=>∀ t,k (.str x t)) (fun b=>∀ v,DatIn l v (.bytes b)→k v) (fun ds=>∀ v,DatIn l v (.tuple ds)→k v) (fun ds=>∀ v,DatIn l v (.list ds)→k v)
noncomputable def Lay (l:Led):List (Bool × Dat)→(List Value→Prop)→Prop
  | [],k=>k []
  | p::r,k=>cond p.1 (∀ v,DatIn l v p.2→Lay l r fun vs=>k (v::vs)) (Lay1 l p.2 fun v=>Lay l r fun vs=>k (v::vs))
theorem lay1 {l:Led} {v:Value} {d:Dat} {k:Value→Prop} (h:DatIn l v d) (q:Lay1 l d k):k v:=by
  cases h with
  | none=>exact q
  | bool=>exact q
  | int _ t=>exact q t
  | str _ t=>exact q t
  | bytes _ t=>exact q _ (.bytes _ t)
  | tuple a b=>exact q _ (.tuple a b)
  | list a b=>exact q _ (.list a b)
theorem lay {l:Led} {ps:List (Bool × Dat)}:∀ {vs:List Value} {k:List Value→Prop},DatAll l vs (ps.map (·.2))→Lay l ps k→k vs:=by
  induction ps with
  | nil=>intro vs k h q;cases h;exact q
  | cons p r ih =>
    intro vs k h q
    cases h with
    | @cons v vs _ _ a b =>
    refine ih (k:=fun vs=>k (v::vs)) b ?_
    obtain ⟨c,d⟩:=p
    cases c with
    | true=>exact q v a
    | false=>exact lay1 (k:=fun v=>Lay l r fun vs=>k (v::vs)) a q
theorem tup_lay {l:Led} {v:Value} {P:Prop} (ps:List (Bool × Dat)) (h:DatIn l v (.tuple (ps.map (·.2)))) (q:∀ a n,v=.ref a→Lay l ps fun vs=>(a,tupO vs.toArray n)∈l→P):P:=by
  cases h with
  | @tuple a vs n _ hm r=>exact lay (k:=fun vs=>(a,tupO vs.toArray n)∈l→P) r (q a n rfl) hm
end
section
open PySem PySem.W PyProof.Rows PySem.Calls PySem.SeqAt
mutual
noncomputable def noB:Dat→Bool
  | .bytes _=>false
  | .tuple ds=>noBs ds
  | .list ds=>noBs ds
  | _=>true
noncomputable def noBs:List Dat→Bool
  | []=>true
  | d::ds=>noB d && noBs ds
end
section
variable {h₀ h:Heap} {L:Addr} {news:Led}
mutual
theorem rd_in (N:News h₀ L h news):∀ {v:Value} {d:Dat},DatIn news v d→noB d=true→∃ as,Reads h v (kqdP d) as
  | _,_,.none,_=>⟨_,Reads.none⟩
  | _,_,.bool b,_=>⟨_,Reads.bool b⟩
  | _,_,.int i t,_=>⟨_,Reads.int i t⟩
  | _,_,.str x t,_=>⟨_,Reads.str x t⟩
  | _,_,.bytes _ _,hk=>by simp [noB] at hk
  | _,_,.tuple hm r,hk=>by
    obtain ⟨as,q⟩:=rd_all N r (by simpa [noB] using hk)
    rw [kqdP]
    exact ⟨as,reads_tuple_at (N.get hm) rfl rfl (by simpa using q)⟩
  | _,_,.list hm r,hk=>by
    obtain ⟨as,q⟩:=rd_all N r (by simpa [noB] using hk)
    rw [kqdP]
    exact ⟨_,reads_list_at (N.get hm) rfl rfl (by simpa [PySem.W.listOf] using q)⟩
theorem rd_all (N:News h₀ L h news):∀ {vs:List Value} {ds:List Dat},DatAll news vs ds→noBs ds=true→∃ as,ReadsAll h vs (kqdPs ds) as
  | _,_,.nil,_=>⟨_,ReadsAll.nil⟩
  | _,_,.cons hd r,hk=>by
    rw [noBs,Bool.and_eq_true] at hk
    obtain ⟨as,q⟩:=rd_in N hd hk.1
    obtain ⟨bs,p⟩:=rd_all N r hk.2
    rw [kqdPs]
    exact ⟨_,ReadsAll.cons q p⟩
end
end
section
variable {prog:Program} {w:World} {A:Around} {E:Value→Shared→Prop} {s:Shared} {h₀:Heap} {L:Addr} {news l1 l2:Led} {a b:Value} {d e:Dat} {Q:Value→Shared→Prop}
theorem cmp_eq (N:News h₀ L s.heap news) (Da:DatIn l1 a d) (sa:∀ p∈l1,p∈news) (Db:DatIn l2 b e) (sb:∀ p∈l2,p∈news) (na:noB d=true) (nb:noB e=true) (ha:shaped (kqdP d)=true) (hb:shaped (kqdP e)=true) (hu:A.units+64<cLine)
    (h:Q (.bool (PyData.eqv (kqdP d) (kqdP e))) s):wpAny (model prog w) A (compareOp .Eq a b) Q E s:=by
  obtain ⟨as,ra⟩:=rd_in N (Da.mono sa) na
  obtain ⟨bs,rb⟩:=rd_in N (Db.mono sb) nb
  exact eq_dataH ra rb ha hb hu h
theorem cmp_ne (N:News h₀ L s.heap news) (Da:DatIn l1 a d) (sa:∀ p∈l1,p∈news) (Db:DatIn l2 b e) (sb:∀ p∈l2,p∈news) (na:noB d=true) (nb:noB e=true) (ha:shaped (kqdP d)=true) (hb:shaped (kqdP e)=true) (hu:A.units+64<cLine)
    (h:Q (.bool (!PyData.eqv (kqdP d) (kqdP e))) s):wpAny (model prog w) A (compareOp .NotEq a b) Q E s:=by
  obtain ⟨as,ra⟩:=rd_in N (Da.mono sa) na
  obtain ⟨bs,rb⟩:=rd_in N (Db.mono sb) nb
  exact ne_dataH ra rb ha hb hu h
end
end
section
noncomputable def isNo:Dat→Bool
  | .none=>true
  | _=>false
noncomputable def strOf:Dat→Option Str
  | .str x=>some x
  | _=>none
noncomputable def intOf:Dat→Option Int
  | .int i=>some i
  | _=>none
noncomputable def okC (d:Dat):Bool:=noB d && SeqAt.shaped (kqdP d)
noncomputable def eqD (a b:Dat):Option Bool :=
  match strOf a,strOf b with
  | some x,some y=>some (x == y)
  | _,_=>if okC a && okC b then some (PyData.eqv (kqdP a) (kqdP b)) else none
noncomputable def strsOf:List Dat→Option (List Str)
  | []=>some []
  | d::r=>(strOf d).bind fun x=>(strsOf r).map (x::·)
noncomputable def cmpD (op:CmpOp) (a b:Dat):Option Bool :=
  match op with
  | .Is=>if isNo b then some (isNo a) else none
  | .IsNot=>if isNo b then some (!isNo a) else none
  | .Eq=>eqD a b
  | .NotEq=>(eqD a b).map (!·)
  | .Gt=>(intOf a).bind fun x=>(intOf b).map fun y=>decide (x > y)
  | .In=>(match b with|.tuple ds=>(strOf a).bind fun x=>(strsOf ds).map fun ys=>ys.any (· == x)|_=>none)
  | _=>none
noncomputable def constD:Const→Option Dat
  | .none=>some .none
  | .bool b=>some (.bool b)
  | .int i=>some (.int i)
  | .str x=>some (.str x)
  | _=>none
noncomputable def alls (f:PySem.Expr→Option Dat):List PySem.Expr→Option (List Dat)
  | []=>some []
  | e::r=>(f e).bind fun d=>(alls f r).map (d::·)
noncomputable def boolD:Dat→Option Bool
  | .bool b=>some b
  | _=>none
noncomputable def itemAt (i:Int):Dat→Option Dat
  | .tuple ds=>if 0≤i∧i<1000 then ds[i.toNat]? else none
  | _=>none
/-- what a plain expression says of data: as a value (false),as a test (true) -/
noncomputable def evD (fc:Str→Dat→Option Dat) (ρ:List (Str × Dat)):Nat→Bool→PySem.Expr→Option Dat
  | 0,_,_=>none
  | n+1,false,e=>(match e with
    | .Name x _=>ρ.lookup x
    | .Constant c _ _=>constD c
    | .Tuple es _ _=>(alls (evD fc ρ n false) es).bind fun ds=>if ds.length≤100 then some (.tuple ds) else none
    | .Subscript v i _=>(evD fc ρ n false v).bind fun dv=>(evD fc ρ n false i).bind fun di=>(intOf di).bind fun k=>itemAt k dv
    | .IfExp c a b _=>((evD fc ρ n true c).bind boolD).bind fun t=>if t then evD fc ρ n false a else evD fc ρ n false b
    | .BoolOp o es _=>(match o,es with
      | .Or,[a,b]=>((evD fc ρ n false a).bind boolD).bind fun x=>((evD fc ρ n false b).bind boolD).map fun y=>.bool (x || y)
      | _,_=>none)
    | .Call f as ks _=>(match f,as,ks with
      | .Name f _,[a],[]=>(evD fc ρ n false a).bind (fc f)
      | _,_,_=>none)
    | _=>none)
  | n+1,true,e=>(match e with
    | .Compare l ops rs _=>(match ops,rs with
      | [op],[r]=>(evD fc ρ n false l).bind fun a=>(evD fc ρ n false r).bind fun b=>(cmpD op a b).map .bool
      | _,_=>none)
    | .BoolOp o es p=>(match o,es with
      | .And,[]=>some (.bool true)
      | .And,x::r=>((evD fc ρ n true x).bind boolD).bind fun t=>if t then evD fc ρ n true (.BoolOp .And r p) else some (.bool false)
      | .Or,[]=>some (.bool false)
      | .Or,x::r=>((evD fc ρ n true x).bind boolD).bind fun t=>if t then some (.bool true) else evD fc ρ n true (.BoolOp .Or r p))
    | _=>none)
/-- the names that stand for data -/
noncomputable def Rho (cs:Scope) (m:Str→Option Value) (news:Led) (ρ:List (Str × Dat)):Prop :=
  ∀ x d,ρ.lookup x=some d→(cs.names.lookup x=some .local∧(x == ("__debug__":Str))=false)∧∃ v,m x=some v∧DatIn news v d
noncomputable def locN (cs:Scope) (x:Str):Bool:=cs.names.lookup x == some .local && !(x == ("__debug__":Str))
theorem locN_of {cs:Scope} {x:Str} (h:locN cs x=true):cs.names.lookup x=some .local∧(x == ("__debug__":Str))=false:=by
  unfold locN at h
  rw [Bool.and_eq_true,Bool.not_eq_true'] at h
  exact ⟨eq_of_beq h.1,h.2⟩
theorem rho_nil {cs:Scope} {m:Str→Option Value} {news:Led}:Rho cs m news []:=fun _ _ h=>nomatch h
theorem rho_cons {cs:Scope} {m:Str→Option Value} {news:Led} {ρ:List (Str × Dat)} {x:Str} {v:Value} {d:Dat} (hd:DatIn news v d) (hm:m x=some v) (hk:locN cs x=true) (r:Rho cs m news ρ):Rho cs m news ((x,d)::ρ):=fun y e h=>by
  rw [List.lookup_cons] at h
  by_cases hy:(y == x)=true
  · rw [hy] at h
    cases h
    rw [eq_of_beq hy]
    exact ⟨locN_of hk,v,hm,hd⟩
  · rw [Bool.not_eq_true] at hy
    rw [hy] at h
    exact r y e h
theorem rho_store {cs:Scope} {m:Str→Option Value} {news:Led} {ρ:List (Str × Dat)} {x:Str} {v:Value} {d:Dat} (hd:DatIn news v d) (hk:locN cs x=true) (r:Rho cs m news ρ):Rho cs (fun y=>if y=x then some v else m y) news ((x,d)::ρ):=fun y e h=>by
  rw [List.lookup_cons] at h
  by_cases hy:(y == x)=true
  · rw [hy] at h
    cases h
    rw [eq_of_beq hy]
    exact ⟨locN_of hk,v,if_pos rfl,hd⟩
  · rw [Bool.not_eq_true] at hy
    rw [hy] at h
    obtain ⟨a,v',b,c⟩:=r y e h
    exact ⟨a,v',(if_neg (by simpa using hy)).trans b,c⟩
theorem rho_mono {cs:Scope} {m:Str→Option Value} {news news':Led} {ρ:List (Str × Dat)} (r:Rho cs m news ρ) (h:∀ p∈news,p∈news'):Rho cs m news' ρ:=fun x d e=>by
  obtain ⟨a,v,b,c⟩:=r x d e
  exact ⟨a,v,b,DatIn.mono h c⟩
end
section
noncomputable def Ext (a b:Led):Prop:=∃ tl,Tups tl∧b=tl++a
theorem ext_rfl {a:Led}:Ext a a:=⟨[],tups_nil,rfl⟩
theorem ext_trans {a b c:Led} (h:Ext a b) (k:Ext b c):Ext a c:=by
  obtain ⟨x,hx,rfl⟩:=h
  obtain ⟨y,hy,rfl⟩:=k
  exact ⟨y++x,tups_app hy hx,(List.append_assoc ..).symm⟩
theorem ext_sub {a b:Led} (h:Ext a b):∀ p∈a,p∈b:=by
  obtain ⟨x,_,rfl⟩:=h
  exact fun _ h=>List.mem_append_right _ h
theorem bind_some {α β:Type} {x:Option α} {f:α→Option β} {b:β} (h:x.bind f=some b):∃ a,x=some a∧f a=some b:=by
  cases x with
  | none=>cases h
  | some a=>exact ⟨a,rfl,h⟩
theorem map_some {α β:Type} {x:Option α} {f:α→β} {b:β} (h:x.map f=some b):∃ a,x=some a∧f a=b:=by
  cases x with
  | none=>cases h
  | some a=>exact ⟨a,rfl,Option.some.inj h⟩
theorem int_of {d:Dat} {i:Int} (h:intOf d=some i):d=.int i:=by
  cases d <;> first|(cases h;rfl)|cases h
theorem bool_of {d:Dat} {b:Bool} (h:boolD d=some b):d=.bool b:=by
  cases d <;> first|(cases h;rfl)|cases h
theorem str_of {d:Dat} {x:Str} (h:strOf d=some x):d=.str x:=by
  cases d <;> first|(cases h;rfl)|cases h
theorem strs_of {l:Led}:∀ {ds:List Dat} {vs:List Value} {ys:List Str},DatAll l vs ds→strsOf ds=some ys→StrsAre vs ys
  | [],_,_,hv,h=>by cases h;cases hv;exact .nil
  | d::r,_,_,hv,h=>by
    obtain ⟨x,e,h⟩:=bind_some h
    obtain ⟨ys,e2,h⟩:=map_some h
    cases hv with
    | cons a b =>
    rw [str_of e] at a
    cases a
    rw [← h]
    exact .cons _ _ (strs_of b e2)
section
variable {prog:Program} {w:World} {A:Around} {E:Value→Shared→Prop} {h₀:Heap} {L a:Addr} {cn:Str} {cs:Scope} {ccd:Value} {cl:List (Str × Addr)} {fc:Str→Dat→Option Dat}
theorem cmp_ok {op:CmpOp} {x y:Value} {d e:Dat} {b:Bool} {news:Led} {s:Shared} {Q:Value→Shared→Prop} (hu:A.units+64<cLine) (N:News h₀ L s.heap news) (hx:DatIn news x d) (hy:DatIn news y e) (h:cmpD op d e=some b) (q:Q (.bool b) s):wpAny (model prog w) A (compareOp op x y) Q E s:=by
  have no:∀ {v:Value} {d:Dat},DatIn news v d→(v == Value.none)=isNo d:=fun h=>by cases h <;> rfl
  have eqc:∀ {b:Bool} {x y:Value} {Q:Value→Shared→Prop},DatIn news x d→DatIn news y e→eqD d e=some b→(Q (.bool b) s→wpAny (model prog w) A (compareOp .Eq x y) Q E s)∧(Q (.bool !b) s→wpAny (model prog w) A (compareOp .NotEq x y) Q E s):=fun {b x y Q} hx hy h=>by
    unfold eqD at h
    cases hd:strOf d with
    | some sx =>
      cases he:strOf e with
      | some sy =>
        rw [hd,he] at h
        cases h
        rw [str_of hd] at hx
        rw [str_of he] at hy
        cases hx
        cases hy
        exact ⟨fun q=>eq_str q,fun q=>ne_str q⟩
      | none =>
        rw [hd,he] at h
        dsimp only at h
        split at h
        · rename_i hc
          cases h
          rw [Bool.and_eq_true,okC,okC,Bool.and_eq_true,Bool.and_eq_true] at hc
          exact ⟨fun q=>cmp_eq N hx (fun _ h=>h) hy (fun _ h=>h) hc.1.1 hc.2.1 hc.1.2 hc.2.2 hu q,fun q=>cmp_ne N hx (fun _ h=>h) hy (fun _ h=>h) hc.1.1 hc.2.1 hc.1.2 hc.2.2 hu q⟩
        · cases h
    | none =>
      rw [hd] at h
      dsimp only at h
      split at h
      · rename_i hc
        cases h
        rw [Bool.and_eq_true,okC,okC,Bool.and_eq_true,Bool.and_eq_true] at hc
        exact ⟨fun q=>cmp_eq N hx (fun _ h=>h) hy (fun _ h=>h) hc.1.1 hc.2.1 hc.1.2 hc.2.2 hu q,fun q=>cmp_ne N hx (fun _ h=>h) hy (fun _ h=>h) hc.1.1 hc.2.1 hc.1.2 hc.2.2 hu q⟩
      · cases h
  cases op <;> first
    | (cases (show (none:Option Bool)=some b from h))
    | (unfold cmpD at h
       dsimp only at h
       split at h
       · rename_i hn
         have e2:y=.none:=eq_of_beq ((no hy).trans hn)
         subst e2
         cases h
         first
           | exact is_none_gen (by rw [no hx];exact q)
           | exact isnot_none_gen (by rw [no hx];exact q)
       · cases h)
    | exact (eqc hx hy h).1 q
    | (obtain ⟨i,e1,h⟩:=bind_some h
       obtain ⟨j,e2,rfl⟩:=map_some h
       rw [int_of e1] at hx
       rw [int_of e2] at hy
       cases hx
       cases hy
       exact gt_int q)
    | (obtain ⟨c,h1,rfl⟩:=map_some h
       exact (eqc hx hy h1).2 q)
    | (cases e <;> first
        | (cases (show (none:Option Bool)=some b from h))
        | (obtain ⟨sx,e1,h⟩:=bind_some h
           obtain ⟨ys,e2,rfl⟩:=map_some h
           rw [str_of e1] at hx
           cases hx
           cases hy with
           | tuple hm r=>exact in_tuple_strs (N.isTup hm) (by simpa using strs_of r e2) q))
noncomputable abbrev Goes (h₀:Heap) (L:Addr) (m:Str→Option Value) (news:Led) (s:Shared) (d:Dat) (Q:Value→Shared→Prop):Prop :=
  ∀ v h' tk' news',Fr h₀ L h' m→News h₀ L h' news'→Ext news news'→DatIn news' v d→Q v { s with heap:=h',toks:=tk' }
noncomputable def CallsOk (prog:Program) (w:World) (A:Around) (E:Value→Shared→Prop) (h₀:Heap) (L:Addr) (env:Env) (fc:Str→Dat→Option Dat):Prop :=
  ∀ f da d,fc f da=some d→∀ (m:Str→Option Value) (s:Shared) (news:Led) (Q:Value→Shared→Prop) (p1 p2:Pos) (arg:PySem.Expr),Fr h₀ L s.heap m→News h₀ L s.heap news →
    (∀ Q',Goes h₀ L m news s da Q'→wpAny (model prog w) A (eval arg env) Q' E s)→(∀ r env,starEach (arg::r) env=(false,eval arg env)::starEach r env)→Goes h₀ L m news s d Q →
    wpAny (model prog w) A (eval (.Call (.Name f p1) [arg] [] p2) env) Q E s
theorem calls_none {env:Env}:CallsOk prog w A E h₀ L env (fun _ _=>none):=fun _ _ _ h=>nomatch h
theorem ev_plain {ρ:List (Str × Dat)} {n:Nat} {e:PySem.Expr} {d:Dat} (h:evD fc ρ n false e=some d):(∀ r env,starEach (e::r) env=(false,eval e env)::starEach r env)∧∀ t l env,swapsWith e t l env=pure false:=by
  cases n with
  | zero=>cases h
  | succ n=>cases e <;> first|exact ⟨fun _ _=>rfl,fun _ _ _=>rfl⟩|(cases (show (none:Option Dat)=some d from h))
theorem marks_none {ρ:List (Str × Dat)} {n:Nat} {e:PySem.Expr} {d:Dat} {op:CmpOp} (h:evD fc ρ n false e=some d):behindInMarks op e=false:=by
  cases n with
  | zero=>cases h
  | succ n=>cases e <;> first|rfl|(cases (show (none:Option Dat)=some d from h))
theorem subs_plain {ρ:List (Str × Dat)} {n:Nat} {e:PySem.Expr} {d:Dat} {o i:Value} (h:evD fc ρ n false e=some d):subscripted e false o i=operate [o,i] (getItem o i):=by
  cases n with
  | zero=>cases h
  | succ n=>cases e <;> first|rfl|(cases (show (none:Option Dat)=some d from h))
theorem seq_at {k:Int} {n:Nat} (h0:0≤k) (h1:k.toNat<n):seqIndex? k n=some k.toNat:=by
  have e:(if k<0 then k+(n:Int) else k)=k:=if_neg (by omega)
  have e2:(decide (0≤k) && decide (k<(n:Int)))=true:=by rw [Bool.and_eq_true];exact ⟨decide_eq_true h0,decide_eq_true (by omega)⟩
  unfold seqIndex?
  rw [e]
  exact if_pos e2
theorem spl_ok {ρ:List (Str × Dat)} {n:Nat}
    (ih:∀ (e:PySem.Expr) (d:Dat) (m:Str→Option Value) (news:Led) (s:Shared) (Q:Value→Shared→Prop),evD fc ρ n false e=some d→Fr h₀ L s.heap m→News h₀ L s.heap news→Rho cs m news ρ→Goes h₀ L m news s d Q→wpAny (model prog w) A (eval e (envX cn cs L a ccd cl)) Q E s) {pos:Pos} {m:Str→Option Value} :
    ∀ (es:List PySem.Expr) (ds:List Dat) (news:Led) (s:Shared) (Q:List Value→Shared→Prop),alls (evD fc ρ n false) es=some ds→Fr h₀ L s.heap m→News h₀ L s.heap news→Rho cs m news ρ →
      (∀ vs h' tk' news',Fr h₀ L h' m→News h₀ L h' news'→Ext news news'→DatAll news' vs ds→Q vs { s with heap:=h',toks:=tk' })→wpAny (model prog w) A (spliced (backTo pos (starEach es (envX cn cs L a ccd cl)))) Q E s
  | [],_,_,s,_,h,F,N,_,hQ=>by
    cases h
    exact args_nil (hQ [] s.heap s.toks _ F N ext_rfl .nil)
  | e::r,_,news,s,Q,h,F,N,R,hQ=>by
    obtain ⟨d,e1,h⟩:=bind_some h
    obtain ⟨ds,e2,rfl⟩:=map_some h
    refine args_cons (ih e d m news s _ e1 F N R fun v h1 t1 n1 F1 N1 X1 D1=>?_) ((ev_plain e1).1 r _)
    refine spl_ok ih r ds n1 _ _ e2 F1 N1 (rho_mono R (ext_sub X1)) fun vs h2 t2 n2 F2 N2 X2 D2=>?_
    exact hQ _ _ _ _ F2 N2 (ext_trans X1 X2) (.cons (DatIn.mono (ext_sub X2) D1) D2)
theorem ev_ok (hk:cs.kind=.function) (hu:A.units+64<cLine) (hc:CallsOk prog w A E h₀ L (envX cn cs L a ccd cl) fc) {ρ:List (Str × Dat)}:∀ n,
    (∀ (e:PySem.Expr) (d:Dat) (m:Str→Option Value) (news:Led) (s:Shared) (Q:Value→Shared→Prop),evD fc ρ n false e=some d→Fr h₀ L s.heap m→News h₀ L s.heap news→Rho cs m news ρ→Goes h₀ L m news s d Q→wpAny (model prog w) A (eval e (envX cn cs L a ccd cl)) Q E s) ∧
    (∀ (e:PySem.Expr) (d:Dat) (m:Str→Option Value) (news:Led) (s:Shared) (whole:Sem Value) (Q:Bool→Shared→Prop),evD fc ρ n true e=some d→Fr h₀ L s.heap m→News h₀ L s.heap news→Rho cs m news ρ →
      (∀ b h' tk' news',d=.bool b→Fr h₀ L h' m→News h₀ L h' news'→Ext news news'→Q b { s with heap:=h',toks:=tk' })→wpAny (model prog w) A (isTrue e (envX cn cs L a ccd cl) whole) Q E s)
  | 0=>⟨fun _ _ _ _ _ _ h=>(nomatch h),fun _ _ _ _ _ _ _ h=>(nomatch h)⟩
  | n+1=>by
    obtain ⟨ih,iht⟩:=ev_ok hk hu hc n
    refine ⟨fun e d m news s Q h F N R hQ=>?_,fun e d m news s whole Q h F N R hQ=>?_⟩
    · cases e with
      | Name x pos =>
        obtain ⟨⟨h1,h2⟩,v,hv,hd⟩:=R x d h
        exact nameX_L F hv (hQ v s.heap s.toks _ F N ext_rfl hd) hk h1 h2
      | Constant c kk pos =>
        cases c with
        | none=>cases (show some Dat.none=some d from h);exact wpAny_Constant_none (hQ _ s.heap s.toks _ F N ext_rfl .none)
        | bool b=>cases (show some (Dat.bool b)=some d from h);exact PyProof.Rows.Constant_bool (hQ _ s.heap s.toks _ F N ext_rfl (.bool b))
        | int i=>cases (show some (Dat.int i)=some d from h);exact wpAny_Constant_int (hQ _ s.heap _ _ F N ext_rfl (.int i _))
        | str x=>cases (show some (Dat.str x)=some d from h);exact Constant_str (hQ _ s.heap _ _ F N ext_rfl (.str x _))
        | _=>cases (show (none:Option Dat)=some d from h)
      | Tuple es kk pos =>
        obtain ⟨ds,e1,h⟩:=bind_some (show (alls (evD fc ρ n false) es).bind (fun ds=>if ds.length≤100 then some (Dat.tuple ds) else none)=some d from h)
        split at h
        · rename_i hz
          cases h
          refine Tuple_ (spl_ok ih es ds news s _ e1 F N R fun vs h1 t1 n1 F1 N1 X1 D1=>?_)
          have hl:=D1.length
          exact kup_newTuple F1 N1 (fun D h2 F2 N2 l=>hQ _ h2 t1 _ F2 N2 (ext_trans X1 ⟨[_],tups_cons rfl tups_nil,rfl⟩) (.tuple (.head _) (DatAll.mono (fun _ h=>.tail _ h) D1))) (by rw [sizeLine_eq];omega)
        · cases h
      | Subscript v i pos =>
        obtain ⟨dv,e2,h⟩:=bind_some (show ((evD fc ρ n false v).bind fun dv=>(evD fc ρ n false i).bind fun di=>(intOf di).bind fun k=>itemAt k dv)=some d from h)
        obtain ⟨di,e3,h⟩:=bind_some h
        obtain ⟨k,e1,h⟩:=bind_some h
        rw [int_of e1] at e3
        refine Subscript_ (ih v dv m news s _ e2 F N R fun x h1 t1 n1 F1 N1 X1 D1=>ih i _ m n1 _ _ e3 F1 N1 (rho_mono R (ext_sub X1)) fun y h2 t2 n2 F2 N2 X2 D2=>?_)
        cases D2
        cases dv with
        | tuple ds =>
          have h':(if 0≤k∧k<1000 then ds[k.toNat]? else none)=some d:=h
          split at h'
          · rename_i hb
            cases DatIn.mono (ext_sub X2) D1 with
            | @tuple b vs nb _ hm r =>
            obtain ⟨hlt,e5⟩:=List.getElem?_eq_some_iff.mp h'
            obtain ⟨y,hy,hd⟩:=r.get hlt
            rw [e5] at hd
            refine item_tupleT (N2.isTup hm) (by omega) (by omega) (j:=k.toNat) ?_ hy (hQ y h2 _ _ F2 N2 (ext_trans X1 X2) hd) (subs_plain e3)
            have hl:=(List.getElem?_eq_some_iff.mp hy).1
            exact seq_at hb.1 (by omega)
          · cases h'
        | _=>cases (show (none:Option Dat)=some d from h)
      | IfExp c x y pos =>
        obtain ⟨t,e1,h⟩:=bind_some (show (((evD fc ρ n true c).bind boolD).bind fun t=>if t then evD fc ρ n false x else evD fc ρ n false y)=some d from h)
        obtain ⟨dt,e0,e1⟩:=bind_some e1
        refine IfExp_ (iht c dt m news s _ _ e0 F N R fun b h1 t1 n1 eb F1 N1 X1=>?_)
        have eb':b=t:=by rw [eb] at e1;cases e1;rfl
        subst eb'
        cases b with
        | true=>exact ih x d m n1 _ _ h F1 N1 (rho_mono R (ext_sub X1)) fun v h2 t2 n2 F2 N2 X2 D2=>hQ v h2 t2 n2 F2 N2 (ext_trans X1 X2) D2
        | false=>exact ih y d m n1 _ _ h F1 N1 (rho_mono R (ext_sub X1)) fun v h2 t2 n2 F2 N2 X2 D2=>hQ v h2 t2 n2 F2 N2 (ext_trans X1 X2) D2
      | BoolOp o es pos =>
        cases o with
        | And=>cases (show (none:Option Dat)=some d from h)
        | Or =>
          match es,h with
          | [x,y],h =>
            obtain ⟨b1,e1,h⟩:=bind_some (show (((evD fc ρ n false x).bind boolD).bind fun x=>((evD fc ρ n false y).bind boolD).map fun y=>Dat.bool (x || y))=some d from h)
            obtain ⟨b2,e2,rfl⟩:=map_some h
            obtain ⟨d1,e1,k1⟩:=bind_some e1
            obtain ⟨d2,e2,k2⟩:=bind_some e2
            rw [bool_of k1] at e1
            rw [bool_of k2] at e2
            refine BoolOp_or (ih x _ m news s _ e1 F N R fun v h1 t1 n1 F1 N1 X1 D1=>?_)
            cases D1
            refine wpAny_truthy_bool ?_
            cases b1 with
            | true=>exact hQ _ h1 t1 n1 F1 N1 X1 (.bool true)
            | false=>exact BoolOp_one (ih y _ m n1 _ _ e2 F1 N1 (rho_mono R (ext_sub X1)) fun v h2 t2 n2 F2 N2 X2 D2=>hQ v h2 t2 n2 F2 N2 (ext_trans X1 X2) D2)
          | [],h=>cases (show (none:Option Dat)=some d from h)
          | [_],h=>cases (show (none:Option Dat)=some d from h)
          | _::_::_::_,h=>cases (show (none:Option Dat)=some d from h)
      | Call f as ks pos =>
        cases f with
        | Name f p1 =>
          match as,ks,h with
          | [x],[],h =>
            obtain ⟨da,e1,h⟩:=bind_some (show (evD fc ρ n false x).bind (fc f)=some d from h)
            exact hc f da d h m s news Q p1 pos x F N (fun Q' g=>ih x da m news s Q' e1 F N R g) (ev_plain e1).1 hQ
          | [],_,h=>cases (show (none:Option Dat)=some d from h)
          | [_],_::_,h=>cases (show (none:Option Dat)=some d from h)
          | _::_::_,_,h=>cases (show (none:Option Dat)=some d from h)
        | _=>cases (show (none:Option Dat)=some d from h)
      | _=>cases (show (none:Option Dat)=some d from h)
    · cases e with
      | Compare l ops rs pos =>
        match ops,rs,h with
        | [op],[r],h =>
          obtain ⟨dl,e1,h⟩:=bind_some (show ((evD fc ρ n false l).bind fun a=>(evD fc ρ n false r).bind fun b=>(cmpD op a b).map Dat.bool)=some d from h)
          obtain ⟨dr,e2,h⟩:=bind_some h
          obtain ⟨b,e3,rfl⟩:=map_some h
          refine wpAny_isTrue_Compare1 (ih l dl m news s _ e1 F N R fun x h1 t1 n1 F1 N1 X1 D1=>?_) (marks_none e2)
          refine ih r dr m n1 _ _ e2 F1 N1 (rho_mono R (ext_sub X1)) fun y h2 t2 n2 F2 N2 X2 D2=>?_
          exact cmp_ok (L:=L) hu N2 (DatIn.mono (ext_sub X2) D1) D2 e3 (wpAny_truthy_bool (hQ b h2 t2 n2 rfl F2 N2 (ext_trans X1 X2)))
        | [],_,h=>cases (show (none:Option Dat)=some d from h)
        | [_],[],h=>cases (show (none:Option Dat)=some d from h)
        | [_],_::_::_,h=>cases (show (none:Option Dat)=some d from h)
        | _::_::_,_,h=>cases (show (none:Option Dat)=some d from h)
      | BoolOp o es pos =>
        cases o with
        | And =>
          cases es with
          | nil=>cases (show some (Dat.bool true)=some d from h);exact isTrue_and_nil (hQ true s.heap s.toks _ rfl F N ext_rfl)
          | cons x r =>
            obtain ⟨t,e1,h⟩:=bind_some (show (((evD fc ρ n true x).bind boolD).bind fun t=>if t then evD fc ρ n true (.BoolOp .And r pos) else some (Dat.bool false))=some d from h)
            obtain ⟨dt,e0,e1⟩:=bind_some e1
            refine isTrue_and (iht x dt m news s _ _ e0 F N R fun b h1 t1 n1 eb F1 N1 X1=>?_)
            have eb':b=t:=by rw [eb] at e1;cases e1;rfl
            subst eb'
            cases b with
            | true=>exact iht _ d m n1 _ _ _ h F1 N1 (rho_mono R (ext_sub X1)) fun c h2 t2 n2 ec F2 N2 X2=>hQ c h2 t2 n2 ec F2 N2 (ext_trans X1 X2)
            | false=>exact hQ false h1 t1 n1 (Option.some.inj h).symm F1 N1 X1
        | Or =>
          cases es with
          | nil=>cases (show some (Dat.bool false)=some d from h);exact isTrue_or_nil (hQ false s.heap s.toks _ rfl F N ext_rfl)
          | cons x r =>
            obtain ⟨t,e1,h⟩:=bind_some (show (((evD fc ρ n true x).bind boolD).bind fun t=>if t then some (Dat.bool true) else evD fc ρ n true (.BoolOp .Or r pos))=some d from h)
            obtain ⟨dt,e0,e1⟩:=bind_some e1
            refine isTrue_or (iht x dt m news s _ _ e0 F N R fun b h1 t1 n1 eb F1 N1 X1=>?_)
            have eb':b=t:=by rw [eb] at e1;cases e1;rfl
            subst eb'
            cases b with
            | true=>exact hQ true h1 t1 n1 (Option.some.inj h).symm F1 N1 X1
            | false=>exact iht _ d m n1 _ _ _ h F1 N1 (rho_mono R (ext_sub X1)) fun c h2 t2 n2 ec F2 N2 X2=>hQ c h2 t2 n2 ec F2 N2 (ext_trans X1 X2)
      | _=>cases (show (none:Option Dat)=some d from h)
end
end
section
noncomputable def tgOf:List PySem.Expr→Option Str
  | [.Name x _]=>some x
  | _=>none
/-- what a plain statement does to the names that stand for data;what it hands back -/
noncomputable def stD (cs:Scope) (fc:Str→Dat→Option Dat) (run:List (Str × Dat)→List Stmt→Option (Option Dat × List (Str × Dat))) (ρ:List (Str × Dat)) (st:Stmt):Option (Option Dat × List (Str × Dat)) :=
  match st with
  | .Assign ts e _=>(tgOf ts).bind fun x=>if locN cs x then (evD fc ρ 20 false e).bind fun d=>some (none,(x,d)::ρ) else none
  | .If t b o _=>((evD fc ρ 20 true t).bind boolD).bind fun c=>run ρ (cond c b o)
  | .Return e _=>e.bind fun e=>(evD fc ρ 20 false e).map fun d=>(some d,ρ)
  | _=>none
noncomputable def runD (cs:Scope) (fc:Str→Dat→Option Dat):Nat→List (Str × Dat)→List Stmt→Option (Option Dat × List (Str × Dat))
  | 0,_,_=>none
  | _+1,ρ,[]=>some (none,ρ)
  | n+1,ρ,st::r=>(stD cs fc (runD cs fc n) ρ st).bind fun q=>(match q.1 with|some d=>some (some d,q.2)|none=>runD cs fc n q.2 r)
theorem lk_app {y:Str}:∀ {a b:List (Str × Dat)},(a++b).lookup y=none→a.lookup y=none∧b.lookup y=none
  | [],_,h=>⟨rfl,h⟩
  | p::r,b,h=>by
    rw [List.cons_append,List.lookup_cons] at h
    rw [List.lookup_cons]
    cases hy:y == p.1 with
    | true=>rw [hy] at h;cases h
    | false=>rw [hy] at h;exact lk_app h
theorem lk_one {x y:Str} {d:Dat} (h:List.lookup y [(x,d)]=none):¬ y=x:=by
  rw [List.lookup_cons] at h
  by_cases hy:(y == x)=true
  · rw [hy] at h;cases h
  · simpa using hy
section
variable {prog:Program} {w:World} {A:Around} {E:Value→Shared→Prop} {h₀:Heap} {L a:Addr} {cn:Str} {cs:Scope} {ccd:Value} {cl:List (Str × Addr)} {fc:Str→Dat→Option Dat}
/-- how plain statements end -/
noncomputable def Ends (Q:Flow→Shared→Prop) (news:Led) (s:Shared):Option Dat→Prop
  | none=>Q .next s
  | some d=>∀ v,DatIn news v d→Q (.ret v) s
noncomputable def ExOk (prog:Program) (w:World) (A:Around) (E:Value→Shared→Prop) (h₀:Heap) (L:Addr) (cs:Scope) (env:Env) (fc:Str→Dat→Option Dat) (n:Nat):Prop :=
  ∀ (ρ:List (Str × Dat)) (st:List Stmt) (o:Option Dat) (ρ':List (Str × Dat)) (m:Str→Option Value) (news:Led) (s:Shared) (Q:Flow→Shared→Prop),
    runD cs fc n ρ st=some (o,ρ')→Fr h₀ L s.heap m→News h₀ L s.heap news→Rho cs m news ρ →
    (∀ m' h' tk' news',Fr h₀ L h' m'→News h₀ L h' news'→Ext news news'→Rho cs m' news' ρ'→(∃ new,ρ'=new++ρ∧∀ x,new.lookup x=none→m' x=m x)→Ends Q news' { s with heap:=h',toks:=tk' } o) →
    wpAny (model prog w) A (execs st env) Q E s
theorem st_ok (hk:cs.kind=.function) (hu:A.units+64<cLine) (hc:CallsOk prog w A E h₀ L (envX cn cs L a ccd cl) fc) {n:Nat} (ih:ExOk prog w A E h₀ L cs (envX cn cs L a ccd cl) fc n) {ρ:List (Str × Dat)} {st:Stmt} {o:Option Dat} {ρ':List (Str × Dat)} {m:Str→Option Value} {news:Led} {s:Shared} {Q:Flow→Shared→Prop}
    (h:stD cs fc (runD cs fc n) ρ st=some (o,ρ')) (F:Fr h₀ L s.heap m) (N:News h₀ L s.heap news) (R:Rho cs m news ρ)
    (hQ:∀ m' h' tk' news',Fr h₀ L h' m'→News h₀ L h' news'→Ext news news'→Rho cs m' news' ρ'→(∃ new,ρ'=new++ρ∧∀ x,new.lookup x=none→m' x=m x)→Ends Q news' { s with heap:=h',toks:=tk' } o) :
    wpAny (model prog w) A (exec st (envX cn cs L a ccd cl)) Q E s:=by
  cases st with
  | Assign ts e pos =>
    obtain ⟨x,e1,h⟩:=bind_some (show ((tgOf ts).bind fun x=>if locN cs x then (evD fc ρ 20 false e).bind fun d=>some (none,(x,d)::ρ) else none)=some (o,ρ') from h)
    split at h
    · rename_i hl
      obtain ⟨d,e2,hr⟩:=bind_some h
      cases hr
      have ht:∃ p,ts=[.Name x p]:=by
        unfold tgOf at e1
        split at e1
        · cases e1;exact ⟨_,rfl⟩
        · cases e1
      obtain ⟨p,rfl⟩:=ht
      refine wpAny_Assign_Name ((ev_ok hk hu hc 20).1 e d m news s _ e2 F N R fun v h1 t1 n1 F1 N1 X1 D1=>?_) ((ev_plain e2).2 _ _ _)
      exact storeX_L F1 N1 (fun h2 F2 N2=>hQ _ h2 _ n1 F2 N2 X1 (rho_store D1 hl (rho_mono R (ext_sub X1))) ⟨[(x,d)],rfl,fun y hy=>if_neg (lk_one hy)⟩) hk (locN_of hl).1
    · cases h
  | If t b e pos =>
    obtain ⟨c,e1,h⟩:=bind_some (show (((evD fc ρ 20 true t).bind boolD).bind fun c=>runD cs fc n ρ (cond c b e))=some (o,ρ') from h)
    obtain ⟨dc,e0,e1⟩:=bind_some e1
    refine wpAny_If ((ev_ok hk hu hc 20).2 t dc m news s _ _ e0 F N R fun b' h2 t2 n2 eb F2 N2 X2=>?_)
    have eb':b'=c:=by rw [eb] at e1;cases e1;rfl
    subst eb'
    have go:=ih ρ (cond b' b e) o ρ' m n2 { s with heap:=h2,toks:=t2 } Q h F2 N2 (rho_mono R (ext_sub X2)) fun m3 h3 t3 n3 F3 N3 X3 R3 K3=>hQ m3 h3 t3 n3 F3 N3 (ext_trans X2 X3) R3 K3
    cases b' with
    | true=>exact go
    | false=>exact go
  | Return e pos =>
    obtain ⟨e,rfl,h⟩:=bind_some (show (e.bind fun e=>(evD fc ρ 20 false e).map fun d=>(some d,ρ))=some (o,ρ') from h)
    obtain ⟨d,e1,h⟩:=map_some h
    cases h
    exact wpAny_Return_some ((ev_ok hk hu hc 20).1 e d m news s _ e1 F N R fun v h1 t1 n1 F1 N1 X1 D1=>hQ m h1 t1 n1 F1 N1 X1 (rho_mono R (ext_sub X1)) ⟨[],rfl,fun _ _=>rfl⟩ v D1)
  | _=>cases (show (none:Option (Option Dat × List (Str × Dat)))=some (o,ρ') from h)
theorem ex_ok (hk:cs.kind=.function) (hu:A.units+64<cLine) (hc:CallsOk prog w A E h₀ L (envX cn cs L a ccd cl) fc):∀ n,ExOk prog w A E h₀ L cs (envX cn cs L a ccd cl) fc n
  | 0,_,_,_,_,_,_,_,_,h,_,_,_,_=>nomatch h
  | n+1,ρ,[],o,ρ',m,news,s,Q,h,F,N,R,hQ=>by
    cases (show some (none,ρ)=some (o,ρ') from h)
    exact wpAny_execs_nil (hQ m s.heap s.toks news F N ext_rfl R ⟨[],rfl,fun _ _=>rfl⟩)
  | n+1,ρ,st::r,o,ρ',m,news,s,Q,h,F,N,R,hQ=>by
    obtain ⟨⟨q1,q2⟩,h1,h⟩:=bind_some (show ((stD cs fc (runD cs fc n) ρ st).bind fun q=>(match q.1 with|some d=>some (some d,q.2)|none=>runD cs fc n q.2 r))=some (o,ρ') from h)
    refine wpAny_execs_cons (st_ok hk hu hc (ex_ok hk hu hc n) h1 F N R fun m3 h3 t3 n3 F3 N3 X3 R3 K3=>?_)
    cases q1 with
    | some d =>
      cases (show some (some d,q2)=some (o,ρ') from h)
      exact hQ m3 h3 t3 n3 F3 N3 X3 R3 K3
    | none =>
      refine ex_ok hk hu hc n q2 r o ρ' m3 n3 _ Q h F3 N3 R3 fun m4 h4 t4 n4 F4 N4 X4 R4 K4=>hQ m4 h4 t4 n4 F4 N4 (ext_trans X3 X4) R4 ?_
      obtain ⟨new3,e3,K3⟩:=K3
      obtain ⟨new4,e4,K4⟩:=K4
      exact ⟨new4++new3,by rw [e4,e3,List.append_assoc],fun y hy=>(K4 y (lk_app hy).1).trans (K3 y (lk_app hy).2)⟩
/-- plain statements ahead of others -/
theorem pre_ok (hk:cs.kind=.function) (hu:A.units+64<cLine) (hc:CallsOk prog w A E h₀ L (envX cn cs L a ccd cl) fc) {n:Nat} {rest:List Stmt} {Q:Flow→Shared→Prop}:∀ (pre:List Stmt) (ρ ρ':List (Str × Dat)) (m:Str→Option Value) (news:Led) (s:Shared),
    runD cs fc n ρ pre=some (none,ρ')→Fr h₀ L s.heap m→News h₀ L s.heap news→Rho cs m news ρ →
    (∀ m' h' tk' news',Fr h₀ L h' m'→News h₀ L h' news'→Ext news news'→Rho cs m' news' ρ'→(∃ new,ρ'=new++ρ∧∀ x,new.lookup x=none→m' x=m x)→wpAny (model prog w) A (execs rest (envX cn cs L a ccd cl)) Q E { s with heap:=h',toks:=tk' }) →
    wpAny (model prog w) A (execs (pre++rest) (envX cn cs L a ccd cl)) Q E s:=by
  induction n with
  | zero=>exact fun _ _ _ _ _ _ h=>nomatch h
  | succ n ihn =>
    intro pre ρ ρ' m news s h F N R hQ
    cases pre with
    | nil =>
      cases (show some (none,ρ)=some (none,ρ') from h)
      exact hQ m s.heap s.toks news F N ext_rfl R ⟨[],rfl,fun _ _=>rfl⟩
    | cons st r =>
      obtain ⟨⟨q1,q2⟩,h1,h⟩:=bind_some (show ((stD cs fc (runD cs fc n) ρ st).bind fun q=>(match q.1 with|some d=>some (some d,q.2)|none=>runD cs fc n q.2 r))=some (none,ρ') from h)
      cases q1 with
      | some d=>cases (show some (some d,q2)=some (none,ρ') from h)
      | none =>
        refine wpAny_execs_cons (st_ok hk hu hc (ex_ok hk hu hc n) h1 F N R fun m3 h3 t3 n3 F3 N3 X3 R3 K3=>?_)
        refine ihn r q2 ρ' m3 n3 _ h F3 N3 R3 fun m4 h4 t4 n4 F4 N4 X4 R4 K4=>hQ m4 h4 t4 n4 F4 N4 (ext_trans X3 X4) R4 ?_
        obtain ⟨new3,e3,K3⟩:=K3
        obtain ⟨new4,e4,K4⟩:=K4
        exact ⟨new4++new3,by rw [e4,e3,List.append_assoc],fun y hy=>(K4 y (lk_app hy).1).trans (K3 y (lk_app hy).2)⟩
end
end
section
section
variable {prog:Program} {w:World} {A A₀:Around} {env:Env} {outer:List Env} {base h₀:Heap} {L:Addr} {dp un:Nat} {p:Program} {loose:List Str} {mean:ExcName→Option Value} {mg mb:Str→Option Value} {m:Str→Option Value} {s:Shared} {Q E:Value→Shared→Prop} {news:Led}
  {name qual:Str} {params:Arguments} {body:List Stmt} {scope:Scope} {dV kV doc pm cdv ct oc:Value} {an od:Option Addr} {osl:Array (Option Value)} {f:Addr} {vs:List Value} {binds:List (Str × Value)}
/-- a def of plain statements alone,called -/
theorem plain_call (ρ ρ':List (Str × Dat)) (d:Dat) (C:Env0 w A A₀ env outer base h₀ L dp un p loose mean mg mb) (F:Fr h₀ L s.heap m) (N:News h₀ L s.heap news) (hun:Nat.ble 80 un=true)
    (ho:(K0 w.params).lookup f=some ⟨oc,od,.func (fnOf name qual params body scope dV kV doc pm an cdv ct),osl⟩) (hcd:codeIn (K0 w.params) cdv qual=true)
    (hbind:BindsTo s (fnOf name qual params body scope dV kV doc pm an cdv ct) ⟨vs,[]⟩ binds) (hloc:∀ y∈binds,scope.names.lookup y.1=some .local) (hco:scope.isCoroutine=false) (hgen:scope.isGenerator=false) (hk:scope.kind=.function) (hcell:∀ x∈scope.names,x.2≠.cell)
    (R:Rho scope (fun y=>binds.reverse.lookup y) news ρ) (hex:runD scope (fun _ _=>none) 20 ρ body=some (some d,ρ'))
    (hQ:∀ v h' tk' tl,Fr h₀ L h' m→News h₀ L h' (tl++news)→Tups tl→DatIn (tl++news) v d→Q v { s with heap:=h',toks:=tk' }) :
    wpAny (model prog w) A (call (.ref f) vs) Q E s:=by
  have hu:=C.hu
  have h80:=Nat.le_of_ble_eq_true hun
  refine wpAny_call (code_def C.B F C.X N C.T C.hA C.hf C.hk ho hcd (room0 C.hd) hbind hloc (fun g L' h₁ FG F' N' _ _ _=>?_) hco hgen hk hcell)
  refine ex_ok (cl:=[]) (fc:=fun _ _=>none) hk (by simp only [Around.deeper];omega) calls_none 20 ρ body (some d) ρ' _ news _ _ hex F' N' R fun m' h' tk' n' F1 N1 X1 _ _ v D1=>?_
  obtain ⟨tl,ht,rfl⟩:=X1
  exact leaveK_ F1 N1 fun kF kN=>hQ v h' tk' tl kF kN ht D1
end
noncomputable def lenF (f:Str) (da:Dat):Option Dat :=
  if f == Str.ofString "len" then (match da with|.tuple ds=>if ds.length≤1000 then some (.int ds.length) else none|_=>none) else none
section
variable {prog:Program} {w:World} {A:Around} {E:Value→Shared→Prop} {h₀:Heap} {L a:Addr} {cn:Str} {cs:Scope} {ccd:Value} {cl:List (Str × Addr)} {p:Program} {loose:List Str} {mean:ExcName→Option Value} {mg mb:Str→Option Value}
theorem calls_len (X:(K0 w.params).In h₀) (T:Top p loose mean mg mb h₀) (hk:cs.kind=.function) (hx:cs.names.lookup (Str.ofString "len")=some .globalImplicit):CallsOk prog w A E h₀ L (envX cn cs L a ccd cl) lenF:=by
  intro f da d h m s news Q p1 p2 arg F N harg he hQ
  unfold lenF at h
  split at h
  · rename_i hf
    rw [eq_of_beq hf]
    cases da with
    | tuple ds =>
      have h':(if ds.length≤1000 then some (Dat.int ds.length) else none)=some d:=h
      split at h'
      · rename_i hz
        cases h'
        refine Call_ (nameX_B F X (topRead_of T) (by k_is) (by boot_by_name) (by decide) (callWith_builtin1 (args_cons (harg _ fun v h1 t1 n1 F1 N1 X1 D1=>args_nil ?_) (he _ _)) (he _ _) rfl) hk hx rfl) rfl
        cases D1 with
        | @tuple b vs nb _ hm r =>
        have hl:=r.length
        refine PyProof.Rows.len_tuple (N1.isTup hm) (by rw [List.size_toArray];omega) ?_
        have e:((vs.toArray.size:Nat):Int)=(ds.length:Int):=by rw [List.size_toArray,hl]
        rw [e]
        exact hQ _ h1 _ n1 F1 N1 X1 (.int _ _)
      · cases h'
    | _=>cases (show (none:Option Dat)=some d from h)
  · cases h
theorem calls_or {f1 f2:Str→Dat→Option Dat} {env:Env} (h1:CallsOk prog w A E h₀ L env f1) (h2:CallsOk prog w A E h₀ L env f2):CallsOk prog w A E h₀ L env (fun f d=>match f1 f d with|some r=>some r|none=>f2 f d):=fun f da d h=>by
  have h':(match f1 f da with|some r=>some r|none=>f2 f da)=some d:=h
  cases e:f1 f da with
  | some r=>rw [e] at h';exact h1 f da d (e.trans h')
  | none=>rw [e] at h';exact h2 f da d h'
/-- a def of one datum,called -/
theorem calls_def {fc:Str→Dat→Option Dat} {fn:Str} {fa:Addr} (X:(K0 w.params).In h₀) (T:Top p loose mean mg mb h₀) (hk:cs.kind=.function) (hx:cs.names.lookup fn=some .globalImplicit) (hd:(fn == ("__debug__":Str))=false) (e:nsIn (K0 w.params) mainGlobals fn=some (some (.ref fa))) (hkeep:keepIn (K0 w.params) (.ref fa)=true)
    (hf:∀ f da d,fc f da=some d→f=fn)
    (h:∀ da d,fc fn da=some d→∀ (m:Str→Option Value) (s:Shared) (news:Led) (Q:Value→Shared→Prop) (v:Value),Fr h₀ L s.heap m→News h₀ L s.heap news→DatIn news v da→Goes h₀ L m news s d Q→wpAny (model prog w) A (call (.ref fa) [v]) Q E s) :
    CallsOk prog w A E h₀ L (envX cn cs L a ccd cl) fc:=by
  intro f da d hfd m s news Q p1 p2 arg F N harg he hQ
  obtain rfl:=hf f da d hfd
  refine Call_ (nameX_K F X (topRead_of T) e (callWith_K X hkeep (args_cons (harg _ fun v h1 t1 n1 F1 N1 X1 D1=>args_nil ⟨X.keeps F1.keep,?_⟩) (he _ _)) (he _ _) rfl) hk hx hd) rfl
  exact h da d hfd m _ n1 Q v F1 N1 D1 fun v2 h2 t2 n2 F2 N2 X2 D2=>hQ v2 h2 t2 n2 F2 N2 (ext_trans X1 X2) D2
end
end
section
theorem next_ok0 {prog:Program} {w:World} {hd dg:Nat} {k ways:Int} {tk tw:Tok} {n1 n2:Nat} {vs:List Value} {ns:List Int} {data:Led} (hk0:0≤k) (hw:0<ways) (hi:IntsAre vs ns) (hof:∀ p∈data,p.1≠hd) (hlen:ns.length≤63) (hdg:(dg,listOf vs.toArray n2)∈data) :
    Spec prog w (nat_lit 1345) [.ref hd,.int ways tw] 2 16 ((hd,handO dg k tk n1)::data)
      (fun r news'=>∃ i ti tk',r=.int i ti∧0≤i∧i<ways∧news'=(hd,handO dg (k+1) tk' n1)::data):=by
  have hlen':=hi.length
  intro A A₀ env outer base h₀ L p loose mean mg mb m s Q E C F N hQ
  obtain ⟨B,X,T,hA,hf,hk,hh,hd',hu⟩:=C
  refine wpAny_call ?_
  (refine' code_def (binds:=[(Str.ofString "hand",.ref hd),(Str.ofString "ways",.int ways tw)]) B F X N T hA hf hk (by k_is) (by k_is) (by exact room0 hd') (by exact BindsTo.of_eq rfl) (by exact locs rfl) ?_ (by exact rfl) (by exact rfl) (by exact rfl) (by decide);k_whole;intro g' L' h' FG' F' N' B' X' T';clear F N B X T;(conv=>pattern (fBody _);whnf);(conv=>pattern (occs:=*) (fScope _);all_goals whnf);dsimp only [List.reverse,List.reverseAux,List.length] at F' ⊢;k_fold)
  repeat' (first|(k_unfold;(try dsimp only))|(k_end;kc_close)|((with_reducible show wpAny _ _ (subscriptTail _ _ (Value.ref _) (Value.int _ _)) _ _ _);first|(refine item_litK (News.isList (by k_asm) (by k_mem)) (by decide) (by decide) (by exact rfl) ?_ (by with_unfolding_all rfl))|(refine item_tupleT (News.isTup (by k_asm) (by k_mem)) (by decide) (by decide) (by exact rfl) (by exact rfl) ?_ (by with_unfolding_all rfl)))|((with_reducible show wpAny _ _ (call (Value.builtin "len") [Value.ref _]) _ _ _);refine PyProof.Rows.len_list (News.isList (by k_asm) (by k_mem)) (by (simp only [List.size_toArray];omega)) ?_)|walk1|(dsimp only;walk1)|(leave1;(try dsimp only))|fail "no step")
  · (show LeaveK _ _ _ _ _ _ _;refine leaveK_ (by k_asm) (by k_asm) ?_;intro kF kN)
    exact hQ _ _ _ _ kF kN ⟨_,_,_,rfl,by omega,by omega,rfl⟩
  · (show LeaveK _ _ _ _ _ _ _;refine leaveK_ (by k_asm) (by k_asm) ?_;intro kF kN)
    exact hQ _ _ _ _ kF kN ⟨_,_,_,rfl,Int.fmod_nonneg_of_pos _ hw,Int.fmod_lt_of_pos _ hw,rfl⟩
theorem next_ok {prog:Program} {w:World} {hd dg:Nat} {k ways:Int} {tk tw:Tok} {n1 n2:Nat} {vs:List Value} {ns:List Int} {news:Led} {news2:Tok→Led} (hk0:0≤k) (hw:0<ways) (hi:IntsAre vs ns) (hlen:ns.length≤63) (hdg:(dg,listOf vs.toArray n2)∈news) (hne:hd≠dg)
    (U:∀ t,Upd hd (handO dg k tk n1) (handO dg (k+1) t n1) news (news2 t)) :
    Spec prog w (nat_lit 1345) [.ref hd,.int ways tw] 2 16 news
      (fun r news'=>∃ i ti tk',r=.int i ti∧0≤i∧i<ways∧news'=news2 tk'):=by
  obtain ⟨pre,post,e1,left,h1,h2⟩:=(U 0).split
  have hof:∀ p∈pre++post,p.1≠hd:=fun p hp=>(List.mem_append.mp hp).elim (h1 p) (h2 p)
  have hdg':(dg,listOf vs.toArray n2)∈pre++post:=by
    rw [e1] at hdg
    simp only [List.mem_append,List.mem_cons,Prod.mk.injEq] at hdg ⊢
    rcases hdg with h|⟨h,_⟩|h
    · exact .inl h
    · exact absurd h.symm hne
    · exact .inr h
  have hU:∀ t,news2 t=pre++(hd,handO dg (k+1) t n1)::post:=by
    intro t
    obtain ⟨pre',post',e1',e2',h1',h2'⟩:=(U t).split
    rw [e2']
    have:=e1.symm.trans e1'
    clear e1 e1' e2' U hdg hdg' hof left
    induction pre generalizing pre' with
    | nil =>
      cases pre' with
      | nil=>simp only [List.nil_append,List.cons.injEq] at this ⊢;exact ⟨trivial,this.2.symm⟩
      | cons q r=>simp only [List.nil_append,List.cons_append,List.cons.injEq] at this;exact absurd (congrArg Prod.fst this.1).symm (h1' q (.head _))
    | cons q r ih =>
      cases pre' with
      | nil=>simp only [List.nil_append,List.cons_append,List.cons.injEq] at this;exact absurd (congrArg Prod.fst this.1) (h1 q (.head _))
      | cons q' r' =>
        simp only [List.cons_append,List.cons.injEq] at this ⊢
        exact ⟨this.1.symm,ih (fun p hp=>h1 p (.tail _ hp)) r' (fun p hp=>h1' p (.tail _ hp)) this.2⟩
  intro A A₀ env outer base h₀ L p loose mean mg mb m s Q E C F N hQ
  refine next_ok0 (k:=k) (tk:=tk) (n1:=n1) hk0 hw hi hof hlen hdg' A A₀ env outer base h₀ L p loose mean mg mb m s Q E C F (news_sub N ?_) ?_
  · intro q hq
    rw [e1]
    simp only [List.mem_cons,List.mem_append] at hq ⊢
    rcases hq with h|h|h
    · exact .inr (.inl h)
    · exact .inl h
    · exact .inr (.inr h)
  · rintro r h' tk' news' F' N' ⟨i,ti,t,rfl,h0,h1,rfl⟩
    refine hQ _ _ _ _ F' (news_sub N' ?_) ⟨i,ti,t,rfl,h0,h1,rfl⟩
    intro q hq
    rw [hU] at hq
    simp only [List.mem_cons,List.mem_append] at hq ⊢
    rcases hq with h|h|h
    · exact .inr (.inl h)
    · exact .inl h
    · exact .inr (.inr h)
theorem next_use {prog:Program} {w:World} {hd dg:Nat} {k ways:Int} {tk tw:Tok} {n1 n2:Nat} {vs:List Value} {ns:List Int} {news:Led} {news2:Int→Tok→Led} {A A₀:Around} {env:Env} {outer:List Env} {base h₀:Heap} {L:Addr} {p:Program} {loose:List Str} {mean:ExcName→Option Value} {mg mb:Str→Option Value} {m:Str→Option Value} {s:Shared} {Q E:Value→Shared→Prop}
    (F:Fr h₀ L s.heap m) (N:News h₀ L s.heap news) (C:Env0 w A A₀ env outer base h₀ L 2 16 p loose mean mg mb) (U:∀ k' t,Upd hd (handO dg k tk n1) (handO dg k' t n1) news (news2 k' t))
    (hi:IntsAre vs ns) (hdg:(dg,listOf vs.toArray n2)∈news) (hk0:0≤k) (hw:0<ways) (hlen:ns.length≤63) (hne:hd≠dg)
    (hQ:∀ h' tk' i ti k2 t2,Fr h₀ L h' m→News h₀ L h' (news2 k2 t2)→0≤k2→0≤i→i<ways→Q (.int i ti) { s with heap:=h',toks:=tk' }) :
    wpAny (model prog w) A (call (.ref (nat_lit 1345)) [.ref hd,.int ways tw]) Q E s:=by
  refine next_ok (news2:=fun t=>news2 (k+1) t) hk0 hw hi hlen hdg hne (fun t=>U _ t) A A₀ env outer base h₀ L p loose mean mg mb m s Q E C F N ?_
  rintro r h' tk' news' F' N' ⟨i,ti,t,rfl,h0,h1,rfl⟩
  exact hQ _ _ _ _ _ _ F' N' (by omega) h0 h1
end
section
noncomputable abbrev numD (t:Int):Dat:=.tuple [.str (Str.ofString "num"),.int 3,.tuple [.int 32,.int t,.int 0],.bool true,.bool false]
noncomputable abbrev spanD (t:Int):Dat:=.tuple [numD t,numD 0]
theorem span_ok {prog:Program} {w:World} {t:Int} {tt:Tok} {data:Led} :
    Spec prog w (nat_lit 1359) [.int t tt] 2 16 data (fun r news'=>∃ tl,news'=tl++data∧DatIn tl r (spanD t)∧Tups tl):=by
  intro A A₀ env outer base h₀ L p loose mean mg mb m s Q E C F N hQ
  obtain ⟨B,X,T,hA,hf,hk,hh,hd',hu⟩:=C
  refine wpAny_call ?_
  (refine' code_def (binds:=[(Str.ofString "top",.int t tt)]) B F X N T hA hf hk (by k_is) (by k_is) (by exact room0 hd') (by exact BindsTo.of_eq rfl) (by exact locs rfl) ?_ (by exact rfl) (by exact rfl) (by exact rfl) (by decide);k_whole;intro g' L' h' FG' F' N' B' X' T';clear F N B X T;(conv=>pattern (fBody _);whnf);(conv=>pattern (occs:=*) (fScope _);all_goals whnf);dsimp only [List.reverse,List.reverseAux,List.length] at F' ⊢;k_fold)
  repeat' (first|(k_unfold;(try dsimp only))|(k_end;kc_close)|fail|walk1|(dsimp only;walk1)|(leave1;(try dsimp only))|fail "no step")
  · (show LeaveK _ _ _ _ _ _ _;refine leaveK_ (by k_asm) (by k_asm) ?_;intro kF kN)
    refine hQ _ _ _ _ kF kN ⟨[_,_,_,_,_],rfl,?_,?_⟩
    · ((repeat' (first|assumption|exact DatIn.int _ _|exact DatIn.str _ _|exact DatIn.bool _|exact DatIn.none|exact DatAll.nil|refine DatAll.cons ?_ ?_|(refine DatIn.mono ?_ (by assumption);((repeat' (first|with_reducible exact fun _ h=>h|with_reducible exact List.forall_mem_nil _|(with_reducible refine sub_cons ?_ ?_)|(with_reducible refine sub_app ?_ ?_)|(with_reducible refine sub_append ?_ ?_)|(intro q9 hq9;first|k_mem|(replace hq9:=hs _ hq9;k_mem))|k_mem));first|done|fail "left"))|refine DatIn.tuple (by k_mem) ?_));first|done|fail "left")
    · (repeat (first|assumption|exact tups_nil|(refine tups_app ?_ ?_)|(refine tups_cons rfl ?_)))
theorem span_use {prog:Program} {w:World} {t:Int} {tt:Tok} {data:Led} {A A₀:Around} {env:Env} {outer:List Env} {base h₀:Heap} {L:Addr} {p:Program} {loose:List Str} {mean:ExcName→Option Value} {mg mb:Str→Option Value} {m:Str→Option Value} {s:Shared} {Q E:Value→Shared→Prop} (C:Env0 w A A₀ env outer base h₀ L 2 16 p loose mean mg mb) (F:Fr h₀ L s.heap m) (N:News h₀ L s.heap data)
    (hQ:∀ r h' tk' tl,Fr h₀ L h' m→News h₀ L h' (tl++data)→DatIn tl r (spanD t)→Tups tl→Q r { s with heap:=h',toks:=tk' }) :
    wpAny (model prog w) A (call (.ref (nat_lit 1359)) [.int t tt]) Q E s:=by
  refine span_ok A A₀ env outer base h₀ L p loose mean mg mb m s Q E C F N ?_
  rintro r h' tk' news' F' N' ⟨tl,rfl,h0,h1⟩
  exact hQ _ _ _ _ F' N' h0 h1
end
section
noncomputable def bdD:Option Int→Dat
  | none=>.none
  | some t=>spanD t
noncomputable def bOk (b:Option Int):Prop:=b=none∨b=some 7∨b=some 31
inductive It where
  | port (at_:Int) (dir:Str) (sg:Bool) (b:Option Int) (nm:Str)
  | net (kd:Str) (sg:Bool) (b:Option Int) (nm:Str) (arr:Bool)
  | var (kd:Str) (sg:Bool) (b:Option Int) (nm:Str) (arr:Bool)
  | par (sg:Bool) (b:Option Int) (nm:Str)
noncomputable def arrD (b:Bool):Dat:=if b then .tuple [.tuple [.str (Str.ofString "a"),.int 1]] else .tuple []
noncomputable def itemD:It→Dat
  | .port a dir sg b nm=>.tuple [.str (Str.ofString "port"),.int a,.str dir,.bool sg,bdD b,.str nm]
  | .net kd sg b nm arr=>.tuple [.str (Str.ofString "net"),.int 4,.str kd,.bool sg,bdD b,.none,.str nm,arrD arr,.none,.none]
  | .var kd sg b nm arr=>.tuple [.str (Str.ofString "var"),.int 4,.str kd,.bool sg,bdD b,.str nm,arrD arr,.none]
  | .par sg b nm=>.tuple [.str (Str.ofString "param"),.int 4,.str (Str.ofString "parameter"),.bool sg,bdD b,.str nm,.none]
noncomputable def nmOk (x:Str):Prop:=x=Str.ofString "p"∨x=Str.ofString "q"∨x=Str.ofString "r"∨x=Str.ofString "s"
noncomputable def itOk:It→Prop
  | .port _ dir _ b nm=>(dir=Str.ofString "input"∨dir=Str.ofString "output"∨dir=Str.ofString "inout")∧bOk b∧nmOk nm
  | .net kd _ b nm _=>(kd=Str.ofString "wire"∨kd=Str.ofString "wand")∧bOk b∧nmOk nm
  | .var kd _ b nm _=>(kd=Str.ofString "reg"∨kd=Str.ofString "integer")∧bOk b∧nmOk nm
  | .par _ b nm=>bOk b∧nmOk nm
theorem noList_item (it:It):noList (itemD it)=true:=by
  cases it with
  | port _ _ _ b _=>cases b <;> rfl
  | net _ _ b _ arr=>cases b <;> cases arr <;> rfl
  | var _ _ b _ arr=>cases b <;> cases arr <;> rfl
  | par _ b _=>cases b <;> rfl
theorem nm_ok {i:Int} (h0:0≤i) (h1:i<4):nmOk (Txt.item (Str.ofString "pqrs") i):=by
  have:i=0∨i=1∨i=2∨i=3:=by omega
  rcases this with rfl|rfl|rfl|rfl
  · exact .inl (by decide +kernel)
  · exact .inr (.inl (by decide +kernel))
  · exact .inr (.inr (.inl (by decide +kernel)))
  · exact .inr (.inr (.inr (by decide +kernel)))
section
variable {prog:Program} {w:World} {A:Around} {E:Value→Shared→Prop} {s:Shared} {value slice:PySem.Expr} {h₀:Heap} {L:Addr} {news:Led} {l:Addr} {n:Nat} {k:Int} {u:Tok} {Q:Value→Shared→Prop}
theorem pick2 {a b:Str} {ta tb:Tok} (N:News h₀ L s.heap news) (hm:(l,listOf #[.str a ta,.str b tb] n)∈news) (h0:0≤k) (h1:k<2)
    (hs:subscripted slice false (.ref l) (.int k u)=operate [.ref l,.int k u] (getItem (.ref l) (.int k u))) (h:∀ x t,(x=a∨x=b)→Q (.str x t) s):wpAny (model prog w) A (subscriptTail value slice (.ref l) (.int k u)) Q E s :=
  pick_list (its:=[.str a ta,.str b tb]) N hm h0 (by simpa using h1) (by simp) (fun v hv=>by
    simp only [List.mem_cons,List.not_mem_nil,or_false] at hv
    rcases hv with rfl|rfl
    · exact h _ _ (.inl rfl)
    · exact h _ _ (.inr rfl)) hs
theorem pick3 {a b c:Str} {ta tb tc:Tok} (N:News h₀ L s.heap news) (hm:(l,listOf #[.str a ta,.str b tb,.str c tc] n)∈news) (h0:0≤k) (h1:k<3)
    (hs:subscripted slice false (.ref l) (.int k u)=operate [.ref l,.int k u] (getItem (.ref l) (.int k u))) (h:∀ x t,(x=a∨x=b∨x=c)→Q (.str x t) s):wpAny (model prog w) A (subscriptTail value slice (.ref l) (.int k u)) Q E s :=
  pick_list (its:=[.str a ta,.str b tb,.str c tc]) N hm h0 (by simpa using h1) (by simp) (fun v hv=>by
    simp only [List.mem_cons,List.not_mem_nil,or_false] at hv
    rcases hv with rfl|rfl|rfl
    · exact h _ _ (.inl rfl)
    · exact h _ _ (.inr (.inl rfl))
    · exact h _ _ (.inr (.inr rfl))) hs
theorem pickB {tl1 tl2:Led} {r1 r2:Value} (N:News h₀ L s.heap news) (hm:(l,listOf #[.none,r1,r2] n)∈news) (h7:DatIn tl1 r1 (spanD 7)) (h31:DatIn tl2 r2 (spanD 31)) (h0:0≤k) (h1:k<3)
    (hs:subscripted slice false (.ref l) (.int k u)=operate [.ref l,.int k u] (getItem (.ref l) (.int k u))) (h:∀ v b,bOk b→DatIn (tl2++tl1) v (bdD b)→Q v s):wpAny (model prog w) A (subscriptTail value slice (.ref l) (.int k u)) Q E s :=
  pick_list (its:=[.none,r1,r2]) N hm h0 (by simpa using h1) (by simp) (fun v hv=>by
    simp only [List.mem_cons,List.not_mem_nil,or_false] at hv
    rcases hv with rfl|rfl|rfl
    · exact h _ none (.inl rfl) .none
    · exact h _ (some 7) (.inr (.inl rfl)) (DatIn.mono (fun _ h=>List.mem_append_right _ h) h7)
    · exact h _ (some 31) (.inr (.inr rfl)) (DatIn.mono (fun _ h=>List.mem_append_left _ h) h31)) hs
end
theorem item_ok {prog:Program} {w:World} {hd dg:Nat} {k:Int} {tk:Tok} {n1 n2:Nat} {vs:List Value} {ns:List Int} {data:Led} (hk0:0≤k) (hi:IntsAre vs ns) (hlen:ns.length≤63) (hdg:(dg,listOf vs.toArray n2)∈data) (hne:hd≠dg) (hof:∀ p∈data,p.1≠hd) :
    Spec prog w (nat_lit 1366) [.ref hd] 4 32 ((hd,handO dg k tk n1)::data) (fun r news'=>∃ it tl k' tk',itOk it∧0≤k'∧Tups tl∧DatIn tl r (itemD it)∧news'=(hd,handO dg k' tk' n1)::(tl++data)):=by
  have hlen':=hi.length
  intro A A₀ env outer base h₀ L p loose mean mg mb m s Q E C F N hQ
  obtain ⟨B,X,T,hA,hf,hk,hh,hd',hu⟩:=C
  refine wpAny_call ?_
  (refine' code_def (binds:=[(Str.ofString "hand",.ref hd)]) B F X N T hA hf hk (by k_is) (by k_is) (by exact room0 hd') (by exact BindsTo.of_eq rfl) (by exact locs rfl) ?_ (by exact rfl) (by exact rfl) (by exact rfl) (by decide);k_whole;intro g' L' h' FG' F' N' B' X' T';clear F N B X T;(conv=>pattern (fBody _);whnf);(conv=>pattern (occs:=*) (fScope _);all_goals whnf);dsimp only [List.reverse,List.reverseAux,List.length] at F' ⊢;k_fold)
  repeat' (first|(k_unfold;(try dsimp only))|(k_end;kc_close)|((with_reducible show wpAny _ _ (call (Value.ref (nat_lit 1345)) _) _ _ _);refine next_use (by k_asm) (by k_asm) (Env0.deeper (by assumption) (by assumption) (by assumption) (by assumption) (by exact rfl) (by exact rfl) (by assumption) (by first|exact room hd' rfl|omega) (by first|exact room hu rfl|omega)) (fun k9 t9=>by first|k_upd|fail) (by assumption) (by k_mem) (by omega) (by omega) (by omega) (by assumption) ?_;intro h9 tk9 i9 ti9 k9 t9 F' N' hk9 hi0 hi1;(try k_sweep);(try dsimp only))|((with_reducible show wpAny _ _ (call (Value.ref (nat_lit 1359)) _) _ _ _);refine span_use (Env0.deeper (by assumption) (by assumption) (by assumption) (by assumption) (by exact rfl) (by exact rfl) (by assumption) (by first|exact room hd' rfl|omega) (by first|exact room hu rfl|omega)) (by k_asm) (by k_asm) ?_;intro r9 h9 tk9 tl9 F' N' hdat hab;(try k_sweep);(try dsimp only))|((with_reducible show wpAny _ _ (subscriptTail (PySem.Expr.List _ _) _ (Value.ref _) (Value.int _ _)) _ _ _);refine pickB (by k_asm) (by k_mem) (by assumption) (by assumption) (by omega) (by omega) (by with_unfolding_all rfl) ?_;intro v9 b9 hb9 hv9)|((with_reducible show wpAny _ _ (subscriptTail (PySem.Expr.List _ _) _ (Value.ref _) (Value.int _ _)) _ _ _);refine pick3 (by k_asm) (by k_mem) (by omega) (by omega) (by with_unfolding_all rfl) ?_;intro x9 t9 hx9)|((with_reducible show wpAny _ _ (subscriptTail (PySem.Expr.List _ _) _ (Value.ref _) (Value.int _ _)) _ _ _);refine pick2 (by k_asm) (by k_mem) (by omega) (by omega) (by with_unfolding_all rfl) ?_;intro x9 t9 hx9)|((with_reducible show wpAny _ _ (subscriptTail _ _ (Value.ref _) (Value.int _ _)) _ _ _);first|(refine item_litK (News.isList (by k_asm) (by k_mem)) (by decide) (by decide) (by exact rfl) ?_ (by with_unfolding_all rfl))|(refine item_tupleT (News.isTup (by k_asm) (by k_mem)) (by decide) (by decide) (by exact rfl) (by exact rfl) ?_ (by with_unfolding_all rfl)))|((with_reducible show wpAny _ _ (call (Value.builtin "len") [Value.ref _]) _ _ _);refine PyProof.Rows.len_list (News.isList (by k_asm) (by k_mem)) (by (simp only [List.size_toArray];omega)) ?_)|walk1|(dsimp only;walk1)|(leave1;(try dsimp only))|fail "no step")
  all_goals (show LeaveK _ _ _ _ _ _ _;refine leaveK_ (by k_asm) (by k_asm) ?_;intro kF kN)
  · refine end_cps [(hd,handO dg _ _ n1)] data (itemD (.port _ _ _ _ _)) kN (List.forall_mem_singleton.mpr (by k_mem)) (by ((repeat' (first|assumption|exact DatIn.int _ _|exact DatIn.str _ _|exact DatIn.bool _|exact DatIn.none|exact DatAll.nil|refine DatAll.cons ?_ ?_|(refine DatIn.mono ?_ (by assumption);((repeat' (first|with_reducible exact fun _ h=>h|with_reducible exact List.forall_mem_nil _|(with_reducible refine sub_cons ?_ ?_)|(with_reducible refine sub_app ?_ ?_)|(with_reducible refine sub_append ?_ ?_)|(intro q9 hq9;first|k_mem|(replace hq9:=hs _ hq9;k_mem))|k_mem));first|done|fail "left"))|refine DatIn.tuple (by k_mem) ?_));first|done|fail "left")) (noList_item _) (by ((repeat' (first|with_reducible exact fun _ h=>h|with_reducible exact List.forall_mem_nil _|(with_reducible refine sub_cons ?_ ?_)|(with_reducible refine sub_app ?_ ?_)|(with_reducible refine sub_append ?_ ?_)|(intro q9 hq9;first|k_mem|(replace hq9:=hs _ hq9;k_mem))|k_mem));first|done|fail "left")) fun tl ht hd9 hN=>?_
    exact hQ _ _ _ _ kF hN ⟨(.port _ _ _ _ _),tl,_,_,(⟨by assumption,by assumption,nm_ok (by assumption) (by assumption)⟩:itOk (It.port _ _ _ _ _)),by omega,ht,hd9,rfl⟩
  · refine end_cps [(hd,handO dg _ _ n1)] data (itemD (.net _ _ _ _ true)) kN (List.forall_mem_singleton.mpr (by k_mem)) (by ((repeat' (first|assumption|exact DatIn.int _ _|exact DatIn.str _ _|exact DatIn.bool _|exact DatIn.none|exact DatAll.nil|refine DatAll.cons ?_ ?_|(refine DatIn.mono ?_ (by assumption);((repeat' (first|with_reducible exact fun _ h=>h|with_reducible exact List.forall_mem_nil _|(with_reducible refine sub_cons ?_ ?_)|(with_reducible refine sub_app ?_ ?_)|(with_reducible refine sub_append ?_ ?_)|(intro q9 hq9;first|k_mem|(replace hq9:=hs _ hq9;k_mem))|k_mem));first|done|fail "left"))|refine DatIn.tuple (by k_mem) ?_));first|done|fail "left")) (noList_item _) (by ((repeat' (first|with_reducible exact fun _ h=>h|with_reducible exact List.forall_mem_nil _|(with_reducible refine sub_cons ?_ ?_)|(with_reducible refine sub_app ?_ ?_)|(with_reducible refine sub_append ?_ ?_)|(intro q9 hq9;first|k_mem|(replace hq9:=hs _ hq9;k_mem))|k_mem));first|done|fail "left")) fun tl ht hd9 hN=>?_
    exact hQ _ _ _ _ kF hN ⟨(.net _ _ _ _ true),tl,_,_,(⟨by assumption,by assumption,nm_ok (by assumption) (by assumption)⟩:itOk (It.net _ _ _ _ true)),by omega,ht,hd9,rfl⟩
  · refine end_cps [(hd,handO dg _ _ n1)] data (itemD (.var _ _ _ _ true)) kN (List.forall_mem_singleton.mpr (by k_mem)) (by ((repeat' (first|assumption|exact DatIn.int _ _|exact DatIn.str _ _|exact DatIn.bool _|exact DatIn.none|exact DatAll.nil|refine DatAll.cons ?_ ?_|(refine DatIn.mono ?_ (by assumption);((repeat' (first|with_reducible exact fun _ h=>h|with_reducible exact List.forall_mem_nil _|(with_reducible refine sub_cons ?_ ?_)|(with_reducible refine sub_app ?_ ?_)|(with_reducible refine sub_append ?_ ?_)|(intro q9 hq9;first|k_mem|(replace hq9:=hs _ hq9;k_mem))|k_mem));first|done|fail "left"))|refine DatIn.tuple (by k_mem) ?_));first|done|fail "left")) (noList_item _) (by ((repeat' (first|with_reducible exact fun _ h=>h|with_reducible exact List.forall_mem_nil _|(with_reducible refine sub_cons ?_ ?_)|(with_reducible refine sub_app ?_ ?_)|(with_reducible refine sub_append ?_ ?_)|(intro q9 hq9;first|k_mem|(replace hq9:=hs _ hq9;k_mem))|k_mem));first|done|fail "left")) fun tl ht hd9 hN=>?_
    exact hQ _ _ _ _ kF hN ⟨(.var _ _ _ _ true),tl,_,_,(⟨by assumption,by assumption,nm_ok (by assumption) (by assumption)⟩:itOk (It.var _ _ _ _ true)),by omega,ht,hd9,rfl⟩
  · refine end_cps [(hd,handO dg _ _ n1)] data (itemD (.par _ _ _)) kN (List.forall_mem_singleton.mpr (by k_mem)) (by ((repeat' (first|assumption|exact DatIn.int _ _|exact DatIn.str _ _|exact DatIn.bool _|exact DatIn.none|exact DatAll.nil|refine DatAll.cons ?_ ?_|(refine DatIn.mono ?_ (by assumption);((repeat' (first|with_reducible exact fun _ h=>h|with_reducible exact List.forall_mem_nil _|(with_reducible refine sub_cons ?_ ?_)|(with_reducible refine sub_app ?_ ?_)|(with_reducible refine sub_append ?_ ?_)|(intro q9 hq9;first|k_mem|(replace hq9:=hs _ hq9;k_mem))|k_mem));first|done|fail "left"))|refine DatIn.tuple (by k_mem) ?_));first|done|fail "left")) (noList_item _) (by ((repeat' (first|with_reducible exact fun _ h=>h|with_reducible exact List.forall_mem_nil _|(with_reducible refine sub_cons ?_ ?_)|(with_reducible refine sub_app ?_ ?_)|(with_reducible refine sub_append ?_ ?_)|(intro q9 hq9;first|k_mem|(replace hq9:=hs _ hq9;k_mem))|k_mem));first|done|fail "left")) fun tl ht hd9 hN=>?_
    exact hQ _ _ _ _ kF hN ⟨(.par _ _ _),tl,_,_,(⟨by assumption,nm_ok (by assumption) (by assumption)⟩:itOk (It.par _ _ _)),by omega,ht,hd9,rfl⟩
  · refine end_cps [(hd,handO dg _ _ n1)] data (itemD (.net _ _ _ _ false)) kN (List.forall_mem_singleton.mpr (by k_mem)) (by ((repeat' (first|assumption|exact DatIn.int _ _|exact DatIn.str _ _|exact DatIn.bool _|exact DatIn.none|exact DatAll.nil|refine DatAll.cons ?_ ?_|(refine DatIn.mono ?_ (by assumption);((repeat' (first|with_reducible exact fun _ h=>h|with_reducible exact List.forall_mem_nil _|(with_reducible refine sub_cons ?_ ?_)|(with_reducible refine sub_app ?_ ?_)|(with_reducible refine sub_append ?_ ?_)|(intro q9 hq9;first|k_mem|(replace hq9:=hs _ hq9;k_mem))|k_mem));first|done|fail "left"))|refine DatIn.tuple (by k_mem) ?_));first|done|fail "left")) (noList_item _) (by ((repeat' (first|with_reducible exact fun _ h=>h|with_reducible exact List.forall_mem_nil _|(with_reducible refine sub_cons ?_ ?_)|(with_reducible refine sub_app ?_ ?_)|(with_reducible refine sub_append ?_ ?_)|(intro q9 hq9;first|k_mem|(replace hq9:=hs _ hq9;k_mem))|k_mem));first|done|fail "left")) fun tl ht hd9 hN=>?_
    exact hQ _ _ _ _ kF hN ⟨(.net _ _ _ _ false),tl,_,_,(⟨by assumption,by assumption,nm_ok (by assumption) (by assumption)⟩:itOk (It.net _ _ _ _ false)),by omega,ht,hd9,rfl⟩
  · refine end_cps [(hd,handO dg _ _ n1)] data (itemD (.var _ _ _ _ false)) kN (List.forall_mem_singleton.mpr (by k_mem)) (by ((repeat' (first|assumption|exact DatIn.int _ _|exact DatIn.str _ _|exact DatIn.bool _|exact DatIn.none|exact DatAll.nil|refine DatAll.cons ?_ ?_|(refine DatIn.mono ?_ (by assumption);((repeat' (first|with_reducible exact fun _ h=>h|with_reducible exact List.forall_mem_nil _|(with_reducible refine sub_cons ?_ ?_)|(with_reducible refine sub_app ?_ ?_)|(with_reducible refine sub_append ?_ ?_)|(intro q9 hq9;first|k_mem|(replace hq9:=hs _ hq9;k_mem))|k_mem));first|done|fail "left"))|refine DatIn.tuple (by k_mem) ?_));first|done|fail "left")) (noList_item _) (by ((repeat' (first|with_reducible exact fun _ h=>h|with_reducible exact List.forall_mem_nil _|(with_reducible refine sub_cons ?_ ?_)|(with_reducible refine sub_app ?_ ?_)|(with_reducible refine sub_append ?_ ?_)|(intro q9 hq9;first|k_mem|(replace hq9:=hs _ hq9;k_mem))|k_mem));first|done|fail "left")) fun tl ht hd9 hN=>?_
    exact hQ _ _ _ _ kF hN ⟨(.var _ _ _ _ false),tl,_,_,(⟨by assumption,by assumption,nm_ok (by assumption) (by assumption)⟩:itOk (It.var _ _ _ _ false)),by omega,ht,hd9,rfl⟩
  · refine end_cps [(hd,handO dg _ _ n1)] data (itemD (.par _ _ _)) kN (List.forall_mem_singleton.mpr (by k_mem)) (by ((repeat' (first|assumption|exact DatIn.int _ _|exact DatIn.str _ _|exact DatIn.bool _|exact DatIn.none|exact DatAll.nil|refine DatAll.cons ?_ ?_|(refine DatIn.mono ?_ (by assumption);((repeat' (first|with_reducible exact fun _ h=>h|with_reducible exact List.forall_mem_nil _|(with_reducible refine sub_cons ?_ ?_)|(with_reducible refine sub_app ?_ ?_)|(with_reducible refine sub_append ?_ ?_)|(intro q9 hq9;first|k_mem|(replace hq9:=hs _ hq9;k_mem))|k_mem));first|done|fail "left"))|refine DatIn.tuple (by k_mem) ?_));first|done|fail "left")) (noList_item _) (by ((repeat' (first|with_reducible exact fun _ h=>h|with_reducible exact List.forall_mem_nil _|(with_reducible refine sub_cons ?_ ?_)|(with_reducible refine sub_app ?_ ?_)|(with_reducible refine sub_append ?_ ?_)|(intro q9 hq9;first|k_mem|(replace hq9:=hs _ hq9;k_mem))|k_mem));first|done|fail "left")) fun tl ht hd9 hN=>?_
    exact hQ _ _ _ _ kF hN ⟨(.par _ _ _),tl,_,_,(⟨by assumption,nm_ok (by assumption) (by assumption)⟩:itOk (It.par _ _ _)),by omega,ht,hd9,rfl⟩
end
section
theorem upd_of {d:Addr} {o o':Obj}:∀ {l l':Led},Upd d o o' l l'→∀ p∈l',p=(d,o')∨(p∈l∧p.1≠d)
  | _,_,.head h=>fun p hp=>by
    rcases List.mem_cons.mp hp with rfl|hp
    · exact .inl rfl
    · exact .inr ⟨.tail _ hp,h p hp⟩
  | _,_,.tail h r=>fun p hp=>by
    rcases List.mem_cons.mp hp with rfl|hp
    · exact .inr ⟨.head _,h⟩
    · rcases upd_of r p hp with q|⟨q,n⟩
      · exact .inl q
      · exact .inr ⟨.tail _ q,n⟩
theorem upd_at {d:Addr} {o o':Obj}:∀ {l l':Led},Upd d o o' l l'→(d,o)∈l
  | _,_,.head _=>.head _
  | _,_,.tail _ r=>.tail _ (upd_at r)
theorem upd_keep {d:Addr} {o o':Obj}:∀ {l l':Led},Upd d o o' l l'→∀ p∈l,p.1≠d→p∈l'
  | _,_,.head h=>fun p hp hn=>by
    rcases List.mem_cons.mp hp with rfl|hp
    · exact absurd rfl hn
    · exact .tail _ hp
  | _,_,.tail h r=>fun p hp hn=>by
    rcases List.mem_cons.mp hp with rfl|hp
    · exact .head _
    · exact .tail _ (upd_keep r p hp hn)
theorem Spec.use1 {prog:Program} {w:World} {f:Addr} {vs:List Value} {dp un:Nat} {hd:Addr} {o:Obj} {news:Led} {news₂:Obj→Led} {R:Value→Obj→Led→Prop}
    (U1:∀ o',Upd hd o o' news (news₂ o'))
    (h:∀ rest,(∀ p∈rest,p∈news∧p.1≠hd)→(∀ p∈news,p.1≠hd→p∈rest) →
      Spec prog w f vs dp un ((hd,o)::rest) (fun r news'=>∃ o' tl,R r o' tl∧news'=(hd,o')::(tl++rest))) :
    Spec prog w f vs dp un news (fun r news'=>∃ o' tl,R r o' tl∧news'=tl++news₂ o'):=by
  have h':=h (news.filter fun p=>decide (p.1≠hd)) (fun p hp=>by simpa using List.mem_filter.mp hp) (fun p hp hn=>List.mem_filter.mpr ⟨hp,by simpa using hn⟩)
  intro A A₀ env outer base h₀ L p loose mean mg mb m s Q E C F N hQ
  refine h' A A₀ env outer base h₀ L p loose mean mg mb m s Q E C F (news_sub N fun q hq=>?_) ?_
  · rcases List.mem_cons.mp hq with rfl|hq
    · exact upd_at (U1 o)
    · exact (List.mem_filter.mp hq).1
  · rintro r h' tk' news' F' N' ⟨o',tl,hR,rfl⟩
    refine hQ _ _ _ _ F' (news_sub N' fun q hq=>?_) ⟨o',tl,hR,rfl⟩
    rcases List.mem_append.mp hq with hq|hq
    · exact .tail _ (List.mem_append_left _ hq)
    · rcases upd_of (U1 o') q hq with rfl|⟨hq,hn⟩
      · exact .head _
      · exact .tail _ (List.mem_append_right _ (List.mem_filter.mpr ⟨hq,by simpa using hn⟩))
theorem Spec.use2 {prog:Program} {w:World} {f:Addr} {vs:List Value} {dp un:Nat} {hd cl:Addr} {o c:Obj} {news:Led} {news₂:Obj→Led} {news₃:Obj→Obj→Led} {R:Value→Obj→Obj→Led→Prop}
    (hne:cl≠hd) (U1:∀ o',Upd hd o o' news (news₂ o')) (U2:∀ o' c',Upd cl c c' (news₂ o') (news₃ o' c'))
    (h:∀ rest,(∀ p∈rest,p∈news∧p.1≠hd∧p.1≠cl)→(∀ p∈news,p.1≠hd→p.1≠cl→p∈rest) →
      Spec prog w f vs dp un ((hd,o)::(cl,c)::rest) (fun r news'=>∃ o' c' tl,R r o' c' tl∧news'=(hd,o')::(cl,c')::(tl++rest))) :
    Spec prog w f vs dp un news (fun r news'=>∃ o' c' tl,R r o' c' tl∧news'=tl++news₃ o' c'):=by
  have h':=h (news.filter fun p=>decide (p.1≠hd) && decide (p.1≠cl)) (fun p hp=>by simpa using List.mem_filter.mp hp) (fun p hp hn hn'=>List.mem_filter.mpr ⟨hp,by simpa using ⟨hn,hn'⟩⟩)
  intro A A₀ env outer base h₀ L p loose mean mg mb m s Q E C F N hQ
  refine h' A A₀ env outer base h₀ L p loose mean mg mb m s Q E C F (news_sub N fun q hq=>?_) ?_
  · rcases List.mem_cons.mp hq with rfl|hq
    · exact upd_at (U1 o)
    · rcases List.mem_cons.mp hq with rfl|hq
      · rcases upd_of (U1 o) _ (upd_at (U2 o c)) with q|⟨q,_⟩
        · exact absurd (congrArg Prod.fst q) hne
        · exact q
      · exact (List.mem_filter.mp hq).1
  · rintro r h' tk' news' F' N' ⟨o',c',tl,hR,rfl⟩
    refine hQ _ _ _ _ F' (news_sub N' fun q hq=>?_) ⟨o',c',tl,hR,rfl⟩
    rcases List.mem_append.mp hq with hq|hq
    · exact .tail _ (.tail _ (List.mem_append_left _ hq))
    · rcases upd_of (U2 o' c') q hq with rfl|⟨hq,hn⟩
      · exact .tail _ (.head _)
      · rcases upd_of (U1 o') q hq with rfl|⟨hq,hn'⟩
        · exact .head _
        · exact .tail _ (.tail _ (List.mem_append_right _ (List.mem_filter.mpr ⟨hq,by simpa using ⟨hn',hn⟩⟩)))
end
section
inductive Ex where
  | id
  | num
  | bin (l r:Ex)
  | cat (x:Ex)
  | call (n:Str) (x:Ex)
noncomputable abbrev f9D:Dat:=.tuple [.str (Str.ofString "call"),.int 3,.tuple [.str (Str.ofString "path"),.int 3,.str (Str.ofString "f9")],.tuple []]
noncomputable def exD:Ex→Dat
  | .id=>.tuple [.str (Str.ofString "id"),.int 3,.str (Str.ofString "call")]
  | .num=>.tuple [.str (Str.ofString "num"),.int 3,.tuple [.int 1,.int 0,.int 0],.bool false,.bool true]
  | .bin l r=>.tuple [.str (Str.ofString "bin"),.int 3,.str (Str.ofString "+"),exD l,exD r]
  | .cat x=>.tuple [.str (Str.ofString "cat"),.int 3,.tuple [exD x,f9D]]
  | .call n x=>.tuple [.str (Str.ofString "call"),.int 3,.str n,.tuple [exD x]]
noncomputable def ins (n:Str) (acc:List Str):List Str:=if n∈acc then acc else acc++[n]
noncomputable def names:Ex→List Str→List Str
  | .id,acc=>acc
  | .num,acc=>acc
  | .bin l r,acc=>names r (names l acc)
  | .cat x,acc=>names x acc
  | .call n x,acc=>names x (ins n acc)
noncomputable def fnOk (x:Str):Prop:=x=Str.ofString "f0"∨x=Str.ofString "f1"∨x=Str.ofString "f2"
noncomputable def exOk:Nat→Ex→Prop
  | _,.id=>True
  | _,.num=>True
  | j+1,.bin l r=>exOk j l∧exOk j r
  | j+1,.cat x=>exOk j x
  | j+1,.call n x=>fnOk n∧exOk j x
  | 0,_=>False
theorem noList_ex:∀ e,noList (exD e)=true
  | .id=>rfl
  | .num=>rfl
  | .bin l r=>by simp [exD,noList,noLists,noList_ex l,noList_ex r]
  | .cat x=>by simp [exD,noList,noLists,noList_ex x]
  | .call n x=>by simp [exD,noList,noLists,noList_ex x]
/-- the names so far: of the three,each once -/
noncomputable def nsOk (l:List Str):Prop:=(∀ x∈l,fnOk x)∧l.Nodup
theorem nsOk_nil:nsOk []:=⟨fun _ h=>(nomatch h),List.nodup_nil⟩
theorem nsOk_ins {n:Str} {l:List Str} (h:fnOk n) (k:nsOk l):nsOk (ins n l):=by
  unfold ins
  split
  · exact k
  · rename_i hn
    refine ⟨fun x hx=>?_,?_⟩
    · rcases List.mem_append.mp hx with hx|hx
      · exact k.1 x hx
      · rw [List.mem_singleton.mp hx];exact h
    · rw [List.nodup_append]
      exact ⟨k.2,List.nodup_cons.mpr ⟨List.not_mem_nil,List.nodup_nil⟩,fun a ha b hb e=>hn (by rw [← List.mem_singleton.mp hb,← e];exact ha)⟩
theorem nsOk_names:∀ (e:Ex) {j:Nat} {l:List Str},exOk j e→nsOk l→nsOk (names e l)
  | .id,_,_,_,k=>k
  | .num,_,_,_,k=>k
  | .bin l r,j+1,_,h,k=>nsOk_names r h.2 (nsOk_names l h.1 k)
  | .cat x,j+1,_,h,k=>nsOk_names x (j:=j) h k
  | .call _ x,j+1,_,h,k=>nsOk_names x h.2 (nsOk_ins h.1 k)
theorem nsOk_len {l:List Str} (k:nsOk l):l.length≤3:=by
  have h:=List.Nodup.length_le_of_subset (l₁:=l) (l₂:=[Str.ofString "f0",Str.ofString "f1",Str.ofString "f2"]) k.2 (fun x hx=>by
    rcases k.1 x hx with rfl|rfl|rfl <;> simp)
  simpa using h
end
section
noncomputable def ExR (j:Nat) (dg:Addr) (n1:Nat) (ms:List Str) (r:Value) (o' c':Obj) (tl:Led):Prop :=
  ∃ e k' tk' us' n3',exOk j e∧0≤k'∧Tups tl∧DatIn tl r (exD e)∧o'=handO dg k' tk' n1∧c'=listOf us'.toArray n3'∧DatAll [] us' ((names e ms).map Dat.str)
noncomputable def ExprAt (prog:Program) (w:World) (j:Nat):Prop :=
  ∀ {hd dg cl:Nat} {deep k:Int} {tk td:Tok} {n1 n2 n3:Nat} {vs us:List Value} {ns:List Int} {ms:List Str} {data:Led},deep+j=4→0≤k→IntsAre vs ns→ns.length≤63→(dg,listOf vs.toArray n2)∈data→hd≠dg→cl≠hd→cl≠dg→(∀ p∈data,p.1≠hd)→(∀ p∈data,p.1≠cl)→DatAll [] us (ms.map Dat.str)→nsOk ms →
    Spec prog w (nat_lit 1352) [.ref hd,.int deep td,.ref cl] (4+j) (100+4 * j) ((hd,handO dg k tk n1)::(cl,listOf us.toArray n3)::data)
      (fun r news'=>∃ o' c' tl,ExR j dg n1 ms r o' c' tl∧news'=(hd,o')::(cl,c')::(tl++data))
theorem expr_use {prog:Program} {w:World} {j:Nat} (ih:ExprAt prog w j) {hd dg cl:Nat} {deep k:Int} {tk td:Tok} {n1 n2 n3:Nat} {vs us:List Value} {ns:List Int} {ms:List Str} {news:Led} {news₂:Obj→Led} {news₃:Obj→Obj→Led}
    {A A₀:Around} {env:Env} {outer:List Env} {base h₀:Heap} {L:Addr} {p:Program} {loose:List Str} {mean:ExcName→Option Value} {mg mb:Str→Option Value} {m:Str→Option Value} {s:Shared} {Q E:Value→Shared→Prop}
    (F:Fr h₀ L s.heap m) (N:News h₀ L s.heap news) (C:Env0 w A A₀ env outer base h₀ L (4+j) (100+4 * j) p loose mean mg mb) (hi:IntsAre vs ns) (hlen:ns.length≤63) (hne:hd≠dg) (hcl:cl≠hd) (hcd:cl≠dg)
    (U1:∀ o',Upd hd (handO dg k tk n1) o' news (news₂ o')) (U2:∀ o' c',Upd cl (listOf us.toArray n3) c' (news₂ o') (news₃ o' c')) (hdeep:deep+j=4) (hk0:0≤k) (hdg:(dg,listOf vs.toArray n2)∈news) (hus:DatAll [] us (ms.map Dat.str)) (hms:nsOk ms)
    (hQ:∀ r h' tk' tl e k' t2 us' n3',Fr h₀ L h' m→News h₀ L h' (tl++news₃ (handO dg k' t2 n1) (listOf (List.toArray us') n3'))→exOk j e→0≤k'→Tups tl→DatIn tl r (exD e)→DatAll [] us' ((names e ms).map Dat.str)→nsOk (names e ms)→Q r { s with heap:=h',toks:=tk' }) :
    wpAny (model prog w) A (call (.ref (nat_lit 1352)) [.ref hd,.int deep td,.ref cl]) Q E s:=by
  refine Spec.use2 hcl U1 U2 (fun rest hs ht=>ih hdeep hk0 hi hlen (ht _ hdg (Ne.symm hne) (Ne.symm hcd)) hne hcl hcd (fun p hp=>(hs p hp).2.1) (fun p hp=>(hs p hp).2.2) hus hms) A A₀ env outer base h₀ L p loose mean mg mb m s Q E C F N ?_
  rintro r h' tk' news' F' N' ⟨_,_,tl,⟨e,k',t2,us',n3',he,hk,ht,hd',rfl,rfl,hu⟩,rfl⟩
  exact hQ _ _ _ _ _ _ _ _ _ F' N' he hk ht hd' hu (nsOk_names e he hms)
theorem f_ok {i:Int} (h0:0≤i) (h1:i<3):fnOk (Str.ofString "f"++Str.ofString (toString i)):=by
  have:i=0∨i=1∨i=2:=by omega
  rcases this with rfl|rfl|rfl
  · exact .inl (by decide +kernel)
  · exact .inr (.inl (by decide +kernel))
  · exact .inr (.inr (by decide +kernel))
theorem fn_strOk {x:Str} (h:fnOk x):kqdOk 8 (.str x)=true:=by
  rcases h with rfl|rfl|rfl <;> decide +kernel
theorem ns_kqd {l:List Str} (h:nsOk l):∀ d∈l.map Dat.str,kqdOk 8 d=true:=fun d hd=>by
  obtain ⟨x,hx,rfl⟩:=List.mem_map.mp hd
  exact fn_strOk (h.1 x hx)
theorem datAll_nil {l:Led} {vs:List Value} {ds:List Dat} (h:DatAll [] vs ds):DatAll l vs ds:=DatAll.mono (fun _ h=>absurd h List.not_mem_nil) h
theorem mem_str {x:Str} {l:List Str}:Dat.str x∈l.map Dat.str ↔ x∈l:=by
  constructor
  · intro h
    obtain ⟨y,hy,e⟩:=List.mem_map.mp h
    cases e;exact hy
  · exact fun h=>List.mem_map.mpr ⟨x,h,rfl⟩
open Classical in
theorem notIn_names {prog:Program} {w:World} {A:Around} {E:Value→Shared→Prop} {s:Shared} {h₀:Heap} {L cl:Addr} {news:Led} {us:List Value} {ms:List Str} {n3:Nat} {x:Str} {t:Tok} {Q:Value→Shared→Prop}
    (N:News h₀ L s.heap news) (hm:(cl,listOf us.toArray n3)∈news) (hu:DatAll [] us (ms.map Dat.str)) (hms:nsOk ms) (hx:fnOk x) (hr:A.units+64<cLine) (h1:x∈ms→Q (.bool false) s) (h2:x ∉ ms→Q (.bool true) s) :
    wpAny (model prog w) A (compareOp .NotIn (.str x t) (.ref cl)) Q E s:=by
  refine kqd_notIn (n₁:=[]) N hm rfl rfl hu (fun _ h=>absurd h List.not_mem_nil) (DatIn.str x t) (fun _ h=>h) (ns_kqd hms) (fn_strOk hx) hr ?_
  have:(decide (Dat.str x∈ms.map Dat.str))=decide (x∈ms):=by
    by_cases q:x∈ms
    · rw [decide_eq_true q,decide_eq_true (mem_str.mpr q)]
    · rw [decide_eq_false q,decide_eq_false (fun z=>q (mem_str.mp z))]
  rw [this]
  by_cases q:x∈ms
  · rw [decide_eq_true q];exact h1 q
  · rw [decide_eq_false q];exact h2 q
theorem dat_ins {us:List Value} {ms:List Str} {x:Str} {t:Tok} (hu:DatAll [] us (ms.map Dat.str)) (hn:x ∉ ms):DatAll [] (us++[.str x t]) ((ins x ms).map Dat.str):=by
  unfold ins
  rw [if_neg hn,List.map_append]
  exact hu.append (.one (.str _ _))
theorem dat_had {us:List Value} {ms:List Str} {x:Str} (hu:DatAll [] us (ms.map Dat.str)) (hn:x∈ms):DatAll [] us ((ins x ms).map Dat.str):=by
  unfold ins
  rw [if_pos hn]
  exact hu
theorem notin_use {prog:Program} {w:World} {A:Around} {E:Value→Shared→Prop} {s:Shared} {h₀:Heap} {L cl:Addr} {news:Led} {us:List Value} {ms:List Str} {n3:Nat} {i:Int} {t:Tok} {Q:Value→Shared→Prop}
    (N:News h₀ L s.heap news) (hm:(cl,listOf us.toArray n3)∈news) (hu:DatAll [] us (ms.map Dat.str)) (hms:nsOk ms) (h0:0≤i) (hi:i<3) (hr:A.units+64<cLine)
    (h1:fnOk (Str.ofString "f"++Str.ofString (toString i))→nsOk (ins (Str.ofString "f"++Str.ofString (toString i)) ms)→DatAll [] us ((ins (Str.ofString "f"++Str.ofString (toString i)) ms).map Dat.str)→Q (.bool false) s)
    (h2:fnOk (Str.ofString "f"++Str.ofString (toString i))→nsOk (ins (Str.ofString "f"++Str.ofString (toString i)) ms)→(∀ t,DatAll [] (us++[.str (Str.ofString "f"++Str.ofString (toString i)) t]) ((ins (Str.ofString "f"++Str.ofString (toString i)) ms).map Dat.str))→Q (.bool true) s) :
    wpAny (model prog w) A (compareOp .NotIn (.str (Str.ofString "f"++Str.ofString (toString i)) t) (.ref cl)) Q E s :=
  notIn_names N hm hu hms (f_ok h0 hi) hr (fun q=>h1 (f_ok h0 hi) (nsOk_ins (f_ok h0 hi) hms) (dat_had hu q)) (fun q=>h2 (f_ok h0 hi) (nsOk_ins (f_ok h0 hi) hms) fun _=>dat_ins hu q)
theorem expr_step {prog:Program} {w:World} (j:Nat) (hj:j+1≤4) (ih:ExprAt prog w j):ExprAt prog w (j+1):=by
  intro hd dg cl deep k tk td n1 n2 n3 vs us ns ms data hdeep hk0 hi hlen hdg hne hcl hcd hof hoc hus hms
  have hlen':=hi.length
  have hul:us.length≤3:=by have:=hus.length;rw [List.length_map] at this;have:=nsOk_len hms;omega
  intro A A₀ env outer base h₀ L p loose mean mg mb m s Q E C F N hQ
  obtain ⟨B,X,T,hA,hf,hk,hh,hd',hu⟩:=C
  refine wpAny_call ?_
  (refine' code_def (binds:=[(Str.ofString "hand",.ref hd),(Str.ofString "deep",.int deep td),(Str.ofString "called",.ref cl)]) B F X N T hA hf hk (by k_is) (by k_is) (by exact room0 hd') (by exact BindsTo.of_eq rfl) (by exact locs rfl) ?_ (by exact rfl) (by exact rfl) (by exact rfl) (by decide);k_whole;intro g' L' h' FG' F' N' B' X' T';clear F N B X T;(conv=>pattern (fBody _);whnf);(conv=>pattern (occs:=*) (fScope _);all_goals whnf);dsimp only [List.reverse,List.reverseAux,List.length] at F' ⊢;k_fold)
  repeat' (first|(k_unfold;(try dsimp only))|(k_end;kc_close)|((with_reducible show wpAny _ _ (call (Value.ref (nat_lit 1345)) _) _ _ _);refine next_use (by k_asm) (by k_asm) (Env0.deeper (by assumption) (by assumption) (by assumption) (by assumption) (by exact rfl) (by exact rfl) (by assumption) (by first|exact room hd' rfl|omega) (by first|exact room hu rfl|omega)) (fun k9 t9=>by first|k_upd|fail) (by assumption) (by k_mem) (by omega) (by omega) (by omega) (by assumption) ?_;intro h9 tk9 i9 ti9 k9 t9 F' N' hk9 hi0 hi1;(try k_sweep);(try dsimp only))|((with_reducible show wpAny _ _ (call (Value.ref (nat_lit 1352)) _) _ _ _);refine expr_use ih (by k_asm) (by k_asm) (Env0.deeper (by assumption) (by assumption) (by assumption) (by assumption) (by exact rfl) (by exact rfl) (by assumption) (by omega) (by omega)) hi hlen hne hcl hcd (fun o9=>by first|k_upd|fail) (fun o9 c9=>by first|k_upd|fail) (by omega) (by omega) (by k_mem) (by first|assumption|exact hus9 _) (by assumption) ?_;intro r9 h9 tk9 tl9 e9 k9 t9 us9 n9 F' N' he9 hk9 ht9 hd9 hu9 hm9;(try k_sweep);(try dsimp only))|((with_reducible show wpAny _ _ (compareOp CmpOp.NotIn (Value.str _ _) (Value.ref _)) _ _ _);refine notin_use (by k_asm) (by k_mem) (by assumption) (by assumption) (by assumption) (by assumption) (by simp only [Around.deeper];omega) ?_ ?_ <;> intro hf9 hm9 hus9)|((with_reducible show wpAny _ _ (call (Value.builtin "list.append") _) _ _ _);refine' append_K ?k1 ?k2 ?k3 ?_ ?z;(case k1=>k_asm);(case k2=>k_asm);(case k3=>k_upd);(case z=>((try simp only [List.size_toArray]);rw [sizeLine_eq];omega));intro h' F' N';(try k_sweep);simp only [List.push_toArray] at N')|((with_reducible show wpAny _ _ (subscriptTail _ _ (Value.ref _) (Value.int _ _)) _ _ _);first|(refine item_litK (News.isList (by k_asm) (by k_mem)) (by decide) (by decide) (by exact rfl) ?_ (by with_unfolding_all rfl))|(refine item_tupleT (News.isTup (by k_asm) (by k_mem)) (by decide) (by decide) (by exact rfl) (by exact rfl) ?_ (by with_unfolding_all rfl)))|((with_reducible show wpAny _ _ (call (Value.builtin "len") [Value.ref _]) _ _ _);refine PyProof.Rows.len_list (News.isList (by k_asm) (by k_mem)) (by (simp only [List.size_toArray];omega)) ?_)|walk1|(dsimp only;walk1)|(leave1;(try dsimp only))|fail "no step")
  all_goals (first|(show LeaveK _ _ _ _ _ _ _;refine leaveK_ (by k_asm) (by k_asm) ?_;intro kF kN)|skip)
  · refine end_cps [(hd,handO dg _ _ n1),(cl,listOf (List.toArray _) _)] data (exD .id) kN (List.forall_mem_cons.mpr ⟨by k_mem,List.forall_mem_singleton.mpr (by k_mem)⟩) (by ((repeat' (first|assumption|exact DatIn.int _ _|exact DatIn.str _ _|exact DatIn.bool _|exact DatIn.none|exact DatAll.nil|refine DatAll.cons ?_ ?_|(refine DatIn.mono ?_ (by assumption);((repeat' (first|with_reducible exact fun _ h=>h|with_reducible exact List.forall_mem_nil _|(with_reducible refine sub_cons ?_ ?_)|(with_reducible refine sub_app ?_ ?_)|(with_reducible refine sub_append ?_ ?_)|(intro q9 hq9;first|k_mem|(replace hq9:=hs _ hq9;k_mem))|k_mem));first|done|fail "left"))|refine DatIn.tuple (by k_mem) ?_));first|done|fail "left")) (noList_ex _) (by ((repeat' (first|with_reducible exact fun _ h=>h|with_reducible exact List.forall_mem_nil _|(with_reducible refine sub_cons ?_ ?_)|(with_reducible refine sub_app ?_ ?_)|(with_reducible refine sub_append ?_ ?_)|(intro q9 hq9;first|k_mem|(replace hq9:=hs _ hq9;k_mem))|k_mem));first|done|fail "left")) fun tl ht hd9 hN=>?_
    exact hQ _ _ _ _ kF hN ⟨_,_,tl,⟨.id,_,_,_,_,trivial,by omega,ht,hd9,rfl,rfl,hus⟩,rfl⟩
  · refine end_cps [(hd,handO dg _ _ n1),(cl,listOf (List.toArray _) _)] data (exD .num) kN (List.forall_mem_cons.mpr ⟨by k_mem,List.forall_mem_singleton.mpr (by k_mem)⟩) (by ((repeat' (first|assumption|exact DatIn.int _ _|exact DatIn.str _ _|exact DatIn.bool _|exact DatIn.none|exact DatAll.nil|refine DatAll.cons ?_ ?_|(refine DatIn.mono ?_ (by assumption);((repeat' (first|with_reducible exact fun _ h=>h|with_reducible exact List.forall_mem_nil _|(with_reducible refine sub_cons ?_ ?_)|(with_reducible refine sub_app ?_ ?_)|(with_reducible refine sub_append ?_ ?_)|(intro q9 hq9;first|k_mem|(replace hq9:=hs _ hq9;k_mem))|k_mem));first|done|fail "left"))|refine DatIn.tuple (by k_mem) ?_));first|done|fail "left")) (noList_ex _) (by ((repeat' (first|with_reducible exact fun _ h=>h|with_reducible exact List.forall_mem_nil _|(with_reducible refine sub_cons ?_ ?_)|(with_reducible refine sub_app ?_ ?_)|(with_reducible refine sub_append ?_ ?_)|(intro q9 hq9;first|k_mem|(replace hq9:=hs _ hq9;k_mem))|k_mem));first|done|fail "left")) fun tl ht hd9 hN=>?_
    exact hQ _ _ _ _ kF hN ⟨_,_,tl,⟨.num,_,_,_,_,trivial,by omega,ht,hd9,rfl,rfl,hus⟩,rfl⟩
  · refine end_cps [(hd,handO dg _ _ n1),(cl,listOf (List.toArray _) _)] data (exD (.bin _ _)) kN (List.forall_mem_cons.mpr ⟨by k_mem,List.forall_mem_singleton.mpr (by k_mem)⟩) (by ((repeat' (first|assumption|exact DatIn.int _ _|exact DatIn.str _ _|exact DatIn.bool _|exact DatIn.none|exact DatAll.nil|refine DatAll.cons ?_ ?_|(refine DatIn.mono ?_ (by assumption);((repeat' (first|with_reducible exact fun _ h=>h|with_reducible exact List.forall_mem_nil _|(with_reducible refine sub_cons ?_ ?_)|(with_reducible refine sub_app ?_ ?_)|(with_reducible refine sub_append ?_ ?_)|(intro q9 hq9;first|k_mem|(replace hq9:=hs _ hq9;k_mem))|k_mem));first|done|fail "left"))|refine DatIn.tuple (by k_mem) ?_));first|done|fail "left")) (noList_ex _) (by ((repeat' (first|with_reducible exact fun _ h=>h|with_reducible exact List.forall_mem_nil _|(with_reducible refine sub_cons ?_ ?_)|(with_reducible refine sub_app ?_ ?_)|(with_reducible refine sub_append ?_ ?_)|(intro q9 hq9;first|k_mem|(replace hq9:=hs _ hq9;k_mem))|k_mem));first|done|fail "left")) fun tl ht hd9 hN=>?_
    exact hQ _ _ _ _ kF hN ⟨_,_,tl,⟨(.bin _ _),_,_,_,_,⟨by assumption,by assumption⟩,by omega,ht,hd9,rfl,rfl,by assumption⟩,rfl⟩
  · refine end_cps [(hd,handO dg _ _ n1),(cl,listOf (List.toArray _) _)] data (exD (.cat _)) kN (List.forall_mem_cons.mpr ⟨by k_mem,List.forall_mem_singleton.mpr (by k_mem)⟩) (by ((repeat' (first|assumption|exact DatIn.int _ _|exact DatIn.str _ _|exact DatIn.bool _|exact DatIn.none|exact DatAll.nil|refine DatAll.cons ?_ ?_|(refine DatIn.mono ?_ (by assumption);((repeat' (first|with_reducible exact fun _ h=>h|with_reducible exact List.forall_mem_nil _|(with_reducible refine sub_cons ?_ ?_)|(with_reducible refine sub_app ?_ ?_)|(with_reducible refine sub_append ?_ ?_)|(intro q9 hq9;first|k_mem|(replace hq9:=hs _ hq9;k_mem))|k_mem));first|done|fail "left"))|refine DatIn.tuple (by k_mem) ?_));first|done|fail "left")) (noList_ex _) (by ((repeat' (first|with_reducible exact fun _ h=>h|with_reducible exact List.forall_mem_nil _|(with_reducible refine sub_cons ?_ ?_)|(with_reducible refine sub_app ?_ ?_)|(with_reducible refine sub_append ?_ ?_)|(intro q9 hq9;first|k_mem|(replace hq9:=hs _ hq9;k_mem))|k_mem));first|done|fail "left")) fun tl ht hd9 hN=>?_
    exact hQ _ _ _ _ kF hN ⟨_,_,tl,⟨(.cat _),_,_,_,_,(by assumption:exOk j _),by omega,ht,hd9,rfl,rfl,by assumption⟩,rfl⟩
  · refine end_cps [(hd,handO dg _ _ n1),(cl,listOf (List.toArray _) _)] data (exD (.call _ _)) kN (List.forall_mem_cons.mpr ⟨by k_mem,List.forall_mem_singleton.mpr (by k_mem)⟩) (by ((repeat' (first|assumption|exact DatIn.int _ _|exact DatIn.str _ _|exact DatIn.bool _|exact DatIn.none|exact DatAll.nil|refine DatAll.cons ?_ ?_|(refine DatIn.mono ?_ (by assumption);((repeat' (first|with_reducible exact fun _ h=>h|with_reducible exact List.forall_mem_nil _|(with_reducible refine sub_cons ?_ ?_)|(with_reducible refine sub_app ?_ ?_)|(with_reducible refine sub_append ?_ ?_)|(intro q9 hq9;first|k_mem|(replace hq9:=hs _ hq9;k_mem))|k_mem));first|done|fail "left"))|refine DatIn.tuple (by k_mem) ?_));first|done|fail "left")) (noList_ex _) (by ((repeat' (first|with_reducible exact fun _ h=>h|with_reducible exact List.forall_mem_nil _|(with_reducible refine sub_cons ?_ ?_)|(with_reducible refine sub_app ?_ ?_)|(with_reducible refine sub_append ?_ ?_)|(intro q9 hq9;first|k_mem|(replace hq9:=hs _ hq9;k_mem))|k_mem));first|done|fail "left")) fun tl ht hd9 hN=>?_
    exact hQ _ _ _ _ kF hN ⟨_,_,tl,⟨(.call _ _),_,_,_,_,⟨hf9,by assumption⟩,by omega,ht,hd9,rfl,rfl,by assumption⟩,rfl⟩
  · refine end_cps [(hd,handO dg _ _ n1),(cl,listOf (List.toArray _) _)] data (exD (.call _ _)) kN (List.forall_mem_cons.mpr ⟨by k_mem,List.forall_mem_singleton.mpr (by k_mem)⟩) (by ((repeat' (first|assumption|exact DatIn.int _ _|exact DatIn.str _ _|exact DatIn.bool _|exact DatIn.none|exact DatAll.nil|refine DatAll.cons ?_ ?_|(refine DatIn.mono ?_ (by assumption);((repeat' (first|with_reducible exact fun _ h=>h|with_reducible exact List.forall_mem_nil _|(with_reducible refine sub_cons ?_ ?_)|(with_reducible refine sub_app ?_ ?_)|(with_reducible refine sub_append ?_ ?_)|(intro q9 hq9;first|k_mem|(replace hq9:=hs _ hq9;k_mem))|k_mem));first|done|fail "left"))|refine DatIn.tuple (by k_mem) ?_));first|done|fail "left")) (noList_ex _) (by ((repeat' (first|with_reducible exact fun _ h=>h|with_reducible exact List.forall_mem_nil _|(with_reducible refine sub_cons ?_ ?_)|(with_reducible refine sub_app ?_ ?_)|(with_reducible refine sub_append ?_ ?_)|(intro q9 hq9;first|k_mem|(replace hq9:=hs _ hq9;k_mem))|k_mem));first|done|fail "left")) fun tl ht hd9 hN=>?_
    exact hQ _ _ _ _ kF hN ⟨_,_,tl,⟨(.call _ _),_,_,_,_,⟨hf9,by assumption⟩,by omega,ht,hd9,rfl,rfl,by assumption⟩,rfl⟩
theorem expr_zero {prog:Program} {w:World}:ExprAt prog w 0:=by
  intro hd dg cl deep k tk td n1 n2 n3 vs us ns ms data hdeep hk0 hi hlen hdg hne hcl hcd hof hoc hus hms
  have hlen':=hi.length
  intro A A₀ env outer base h₀ L p loose mean mg mb m s Q E C F N hQ
  obtain ⟨B,X,T,hA,hf,hk,hh,hd',hu⟩:=C
  refine wpAny_call ?_
  (refine' code_def (binds:=[(Str.ofString "hand",.ref hd),(Str.ofString "deep",.int deep td),(Str.ofString "called",.ref cl)]) B F X N T hA hf hk (by k_is) (by k_is) (by exact room0 hd') (by exact BindsTo.of_eq rfl) (by exact locs rfl) ?_ (by exact rfl) (by exact rfl) (by exact rfl) (by decide);k_whole;intro g' L' h' FG' F' N' B' X' T';clear F N B X T;(conv=>pattern (fBody _);whnf);(conv=>pattern (occs:=*) (fScope _);all_goals whnf);dsimp only [List.reverse,List.reverseAux,List.length] at F' ⊢;k_fold)
  repeat' (first|(k_unfold;(try dsimp only))|(k_end;kc_close)|((with_reducible show wpAny _ _ (call (Value.ref (nat_lit 1345)) _) _ _ _);refine next_use (by k_asm) (by k_asm) (Env0.deeper (by assumption) (by assumption) (by assumption) (by assumption) (by exact rfl) (by exact rfl) (by assumption) (by first|exact room hd' rfl|omega) (by first|exact room hu rfl|omega)) (fun k9 t9=>by first|k_upd|fail) (by assumption) (by k_mem) (by omega) (by omega) (by omega) (by assumption) ?_;intro h9 tk9 i9 ti9 k9 t9 F' N' hk9 hi0 hi1;(try k_sweep);(try dsimp only))|((with_reducible show wpAny _ _ (call (Value.ref (nat_lit 1352)) _) _ _ _);refine expr_use ih (by k_asm) (by k_asm) (Env0.deeper (by assumption) (by assumption) (by assumption) (by assumption) (by exact rfl) (by exact rfl) (by assumption) (by omega) (by omega)) hi hlen hne hcl hcd (fun o9=>by first|k_upd|fail) (fun o9 c9=>by first|k_upd|fail) (by omega) (by omega) (by k_mem) (by first|assumption|exact hus9 _) (by assumption) ?_;intro r9 h9 tk9 tl9 e9 k9 t9 us9 n9 F' N' he9 hk9 ht9 hd9 hu9 hm9;(try k_sweep);(try dsimp only))|((with_reducible show wpAny _ _ (compareOp CmpOp.NotIn (Value.str _ _) (Value.ref _)) _ _ _);refine notin_use (by k_asm) (by k_mem) (by assumption) (by assumption) (by assumption) (by assumption) (by simp only [Around.deeper];omega) ?_ ?_ <;> intro hf9 hm9 hus9)|((with_reducible show wpAny _ _ (call (Value.builtin "list.append") _) _ _ _);refine' append_K ?k1 ?k2 ?k3 ?_ ?z;(case k1=>k_asm);(case k2=>k_asm);(case k3=>k_upd);(case z=>((try simp only [List.size_toArray]);rw [sizeLine_eq];omega));intro h' F' N';(try k_sweep);simp only [List.push_toArray] at N')|((with_reducible show wpAny _ _ (subscriptTail _ _ (Value.ref _) (Value.int _ _)) _ _ _);first|(refine item_litK (News.isList (by k_asm) (by k_mem)) (by decide) (by decide) (by exact rfl) ?_ (by with_unfolding_all rfl))|(refine item_tupleT (News.isTup (by k_asm) (by k_mem)) (by decide) (by decide) (by exact rfl) (by exact rfl) ?_ (by with_unfolding_all rfl)))|((with_reducible show wpAny _ _ (call (Value.builtin "len") [Value.ref _]) _ _ _);refine PyProof.Rows.len_list (News.isList (by k_asm) (by k_mem)) (by (simp only [List.size_toArray];omega)) ?_)|walk1|(dsimp only;walk1)|(leave1;(try dsimp only))|fail "no step")
  all_goals (first|(show LeaveK _ _ _ _ _ _ _;refine leaveK_ (by k_asm) (by k_asm) ?_;intro kF kN)|skip)
  · refine end_cps [(hd,handO dg _ _ n1),(cl,listOf (List.toArray _) _)] data (exD .id) kN (List.forall_mem_cons.mpr ⟨by k_mem,List.forall_mem_singleton.mpr (by k_mem)⟩) (by ((repeat' (first|assumption|exact DatIn.int _ _|exact DatIn.str _ _|exact DatIn.bool _|exact DatIn.none|exact DatAll.nil|refine DatAll.cons ?_ ?_|(refine DatIn.mono ?_ (by assumption);((repeat' (first|with_reducible exact fun _ h=>h|with_reducible exact List.forall_mem_nil _|(with_reducible refine sub_cons ?_ ?_)|(with_reducible refine sub_app ?_ ?_)|(with_reducible refine sub_append ?_ ?_)|(intro q9 hq9;first|k_mem|(replace hq9:=hs _ hq9;k_mem))|k_mem));first|done|fail "left"))|refine DatIn.tuple (by k_mem) ?_));first|done|fail "left")) (noList_ex _) (by ((repeat' (first|with_reducible exact fun _ h=>h|with_reducible exact List.forall_mem_nil _|(with_reducible refine sub_cons ?_ ?_)|(with_reducible refine sub_app ?_ ?_)|(with_reducible refine sub_append ?_ ?_)|(intro q9 hq9;first|k_mem|(replace hq9:=hs _ hq9;k_mem))|k_mem));first|done|fail "left")) fun tl ht hd9 hN=>?_
    exact hQ _ _ _ _ kF hN ⟨_,_,tl,⟨.id,_,_,_,_,trivial,by omega,ht,hd9,rfl,rfl,hus⟩,rfl⟩
  · refine end_cps [(hd,handO dg _ _ n1),(cl,listOf (List.toArray _) _)] data (exD .num) kN (List.forall_mem_cons.mpr ⟨by k_mem,List.forall_mem_singleton.mpr (by k_mem)⟩) (by ((repeat' (first|assumption|exact DatIn.int _ _|exact DatIn.str _ _|exact DatIn.bool _|exact DatIn.none|exact DatAll.nil|refine DatAll.cons ?_ ?_|(refine DatIn.mono ?_ (by assumption);((repeat' (first|with_reducible exact fun _ h=>h|with_reducible exact List.forall_mem_nil _|(with_reducible refine sub_cons ?_ ?_)|(with_reducible refine sub_app ?_ ?_)|(with_reducible refine sub_append ?_ ?_)|(intro q9 hq9;first|k_mem|(replace hq9:=hs _ hq9;k_mem))|k_mem));first|done|fail "left"))|refine DatIn.tuple (by k_mem) ?_));first|done|fail "left")) (noList_ex _) (by ((repeat' (first|with_reducible exact fun _ h=>h|with_reducible exact List.forall_mem_nil _|(with_reducible refine sub_cons ?_ ?_)|(with_reducible refine sub_app ?_ ?_)|(with_reducible refine sub_append ?_ ?_)|(intro q9 hq9;first|k_mem|(replace hq9:=hs _ hq9;k_mem))|k_mem));first|done|fail "left")) fun tl ht hd9 hN=>?_
    exact hQ _ _ _ _ kF hN ⟨_,_,tl,⟨.num,_,_,_,_,trivial,by omega,ht,hd9,rfl,rfl,hus⟩,rfl⟩
  · exfalso;omega
theorem expr_ok {prog:Program} {w:World}:∀ j,j≤4→ExprAt prog w j
  | 0,_=>expr_zero
  | j+1,h=>expr_step j h (expr_ok j (by omega))
end
section
open PySem.AutoSeq1 (wpAny_loadPart')
set_option maxHeartbeats 4000000
theorem slot_rev_init:Slot "reversed" "__init__" "object.__init__" :=
  .of (owner:="object") (n:="__init__") (by rw [typeLookup_type,builtinLookup_eq_fast];kernel_rfl) (by decide +kernel) (by decide +kernel) (by decide +kernel)
    (by first|exact .inl (by decide +kernel)|exact .inr (by decide +kernel)) (by rw [isSubtype_type];kernel_rfl)
theorem slot_rev_next:Slot "reversed" "__next__" "reversed.__next__" :=
  .of (owner:="reversed") (n:="__next__") (by rw [typeLookup_type,builtinLookup_eq_fast];kernel_rfl) (by decide +kernel) (by decide +kernel) (by decide +kernel)
    (by first|exact .inl (by decide +kernel)|exact .inr (by decide +kernel)) (by rw [isSubtype_type];kernel_rfl)
theorem slot_rev_iter:Slot "reversed" "__iter__" "reversed.__iter__" :=
  .of (owner:="reversed") (n:="__iter__") (by rw [typeLookup_type,builtinLookup_eq_fast];kernel_rfl) (by decide +kernel) (by decide +kernel) (by decide +kernel)
    (by first|exact .inl (by decide +kernel)|exact .inr (by decide +kernel)) (by rw [isSubtype_type];kernel_rfl)
theorem slot_rev_hint:Slot "reversed" "__length_hint__" "reversed.__length_hint__" :=
  .of (owner:="reversed") (n:="__length_hint__") (by rw [typeLookup_type,builtinLookup_eq_fast];kernel_rfl) (by decide +kernel) (by decide +kernel) (by decide +kernel)
    (by first|exact .inl (by decide +kernel)|exact .inr (by decide +kernel)) (by rw [isSubtype_type];kernel_rfl)
theorem entry_rev_next:entryFor table "reversed.__next__"=some Builtin.«reversed.__next__»:=entryFor_of_tree (by kernel_rfl)
theorem entry_rev_hint:entryFor table "reversed.__length_hint__"=some Builtin.«reversed.__length_hint__»:=entryFor_of_tree (by kernel_rfl)
theorem entry_rev_iter:entryFor table "reversed.__iter__"=some Builtin.«dict_keyiterator.__iter__» :=
  entryFor_alias (id':="dict_keyiterator.__iter__") (by kernel_rfl) (by first|rfl|decide +kernel|(unfold String.splitOn;simp +decide [String.splitOnAux])) (by decide +kernel) (by kernel_rfl)
theorem args_rev_next (a:Value):argsOk "reversed.__next__" ⟨[a],[]⟩:=by unfold argsOk;kernel_rfl
theorem args_rev_iter (a:Value):argsOk "reversed.__iter__" ⟨[a],[]⟩:=by unfold argsOk;kernel_rfl
theorem args_rev_hint (a:Value):argsOk "reversed.__length_hint__" ⟨[a],[]⟩:=by unfold argsOk;kernel_rfl
theorem called_rev:TypeCalled "reversed" "reversed.__new__" "object.__init__" :=
  ⟨by decide +kernel,by decide +kernel,⟨_,_,F.mro_reversed⟩,F.made_reversed,by decide +kernel,F.sub_reversed_self,slot_rev_init⟩
theorem rev_no_len:typeLookup (.type "reversed") "__len__"=pure none:=by rw [typeLookup_type,builtinLookup_eq_fast];kernel_rfl
theorem tup_no_rev:typeLookup (.type "tuple") "__reversed__"=pure none:=by rw [typeLookup_type,builtinLookup_eq_fast];kernel_rfl
theorem tup_no_dict:isSubtype (.type "tuple") (.type "dict")=pure false:=by rw [isSubtype_type];kernel_rfl
end
section
open PySem.AutoSeq1 (wpAny_loadPart')
set_option maxHeartbeats 4000000
noncomputable def rvO (t:Addr) (i:Int):Obj:={ cls:=.type "reversed",data:=.fields #[.ref t,rawInt i] }
theorem meets_rev_new (t:Addr) (items:Array Value) (n:Nat) :
    Meets (Builtin.«reversed.__new__» ⟨[.type "reversed",.ref t],[]⟩) (fun _ R s=>s.heap.get? t=some { cls:=.type "tuple",data:=.seq items n }∧(items.size:Int)<2 ^ 63 ∧
      R (.ok (.ret (.ref s.heap.objs.size))) { s with heap:=s.heap.push (rvO t ((items.size:Int) - 1)),toks:=s.toks+1+1 }) :=
  .of_wp fun prog w A R s h=>by
    obtain ⟨hl,hz,h⟩:=h
    have hT:s.TypeIs (.ref t) "tuple":=⟨_,hl,rfl⟩
    unfold Builtin.«reversed.__new__»
    refine wpAny_bind (wpAny_of_eq (newClass_reversed _) ?_)
    try dsimp only
    refine wpAny_bind (wpAny_of_eq (a:=()) (by first|rfl|kernel_rfl) ?_)
    refine wpAny_bind (wpAny_of_eq (a:=()) (by first|rfl|kernel_rfl) ?_)
    try dsimp only
    refine wpAny_bind (wpAny_specialOf hT tup_no_rev ?_)
    try dsimp only
    refine wpAny_bind ?_
    wp_delta
    refine wpAny_bind (wpAny_isInstance (T:="tuple") (b:=false) hT tup_no_dict ?_)
    try dsimp only
    refine wpAny_bind (wpAny_specialOf hT PyProof.Rows.slot_tuple_getitem.lookup ?_)
    try dsimp only
    refine wpAny_ite_split (fun _=>?_) (fun hab=>absurd (by decide +kernel) hab)
    refine wpAny_pure ?_
    refine wpAny_ite_split (fun hab=>absurd hab (by decide)) (fun _=>?_)
    refine wpAny_bind (PyProof.Rows.len_tuple ⟨_,hl,rfl,_,rfl⟩ hz ?_)
    refine wpAny_bind (wpAny_of_eq (a:=some (items.size:Int)) rfl ?_)
    try dsimp only
    refine wpAny_bind ?_
    unfold Builtin.SmallTypes.newRecord
    refine wpAny_newObj_type ?_ (by size_fits)
    exact wpAny_pure ⟨_,rfl,h⟩
theorem rev_new {prog:Program} {w:World} {A:Around} {E:Value→Shared→Prop} {s:Shared} {h₀:Heap} {L t:Addr} {m:Str→Option Value} {news:Led} {items:Array Value} {n:Nat} {Q:Value→Shared→Prop} (F:Fr h₀ L s.heap m) (N:News h₀ L s.heap news)
    (hm:(t,({ cls:=.type "tuple",data:=.seq items n }:Obj))∈news) (hz:(items.size:Int)<2 ^ 63)
    (h:∀ D h' tk,Fr h₀ L h' m→News h₀ L h' ((D,rvO t ((items.size:Int) - 1))::news)→(∀ p∈news,p.1<D)→Q (.ref D) { s with heap:=h',toks:=tk }) :
    wpAny (model prog w) A (call (.type "reversed") [.ref t]) Q E s :=
  callType_new called_rev (by decide) (PySem.F.typeCall_reversed_1 _) (PySem.F.newCall_reversed_1 _) (fun obj=>PySem.F.args_object_init_2 obj _) PySem.F.entry_reversed_new (meets_rev_new t items n)
    ⟨(N _ hm).1,hz,⟨⟨_,Heap.get?_push_size _ rfl,rfl⟩,h _ _ _ (F.push _) (News.push F N _) (fun p hp=>Heap.lt_size (N p hp).1)⟩⟩
noncomputable def IsRv (h:Heap) (a t:Addr) (i:Int):Prop:=∃ o,h.get? a=some o∧o.cls=.type "reversed"∧o.data=.fields #[.ref t,rawInt i]
theorem IsRv.at {h h':Heap} {a l:Addr} {i:Int} (x:IsRv h a l i) (e:∀ o,h.get? a=some o→h'.get? a=some o):IsRv h' a l i:=let ⟨o,ho,r⟩:=x;⟨o,e _ ho,r⟩
section
variable {prog:Program} {w:World} {A:Around} {E:Value→Shared→Prop} {s:Shared}
theorem IsRv.typeIs {a l:Addr} {i:Int} (x:IsRv s.heap a l i):s.TypeIs (.ref a) "reversed":=let ⟨o,ho,hc,_⟩:=x;⟨o,ho,hc⟩
theorem rv_iter {it l:Addr} {i:Int} {Q:Value→Shared→Prop} (hit:IsRv s.heap it l i) (h:Q (.ref it) s):wpAny (model prog w) A (pyIter (.ref it)) Q E s:=by
  refine wpAny_pyIter_slot hit.typeIs slot_rev_iter (wpAny_call_entry slot_rev_iter hit.typeIs entry_rev_iter ?_ (args_rev_iter _))
  show wpAny _ _ (ret (.ref it)) _ _ s
  exact wpAny_pure ⟨_,rfl,"reversed",_,hit.typeIs,slot_rev_next.lookup,h⟩
theorem rv_item {it t:Addr} {i:Nat} {items:Array Value} {x:Value} {Q:Option Value→Shared→Prop} (_hne:t≠it) (hit:IsRv s.heap it t (i:Int)) (hl:IsTup s.heap t items) (hx:items[i]?=some x) (hi:(i:Int)<2 ^ 63)
    (hQ:∀ h' tk,IsRv h' it t ((i:Int) - 1)→Heap.SameBut it s.heap h'→Q (some x) { s with heap:=h',toks:=tk }):wpAny (model prog w) A (pyNext (.ref it)) Q E s:=by
  obtain ⟨o,ho,hc,hd⟩:=id hit
  unfold pyNext
  refine wpAny_bind (wpAny_attempt (wpAny_callSpecial?_slot (name:=Str.ofString "__next__") hit.typeIs slot_rev_next
    (wpAny_call_entry slot_rev_next hit.typeIs entry_rev_next ?_ (args_rev_next _))))
  unfold Builtin.«reversed.__next__»
  refine wpAny_bind (wpAny_of_eq (a:=(Value.ref it,[])) rfl ?_)
  try dsimp only
  refine wpAny_bind (wpAny_field ho hd (x:=.ref t) rfl ?_)
  refine wpAny_bind (wpAny_field ho hd (x:=rawInt (i:Int)) rfl ?_)
  show wpAny _ _ (if (i:Int)<0 then _ else _) _ _ s
  rw [if_neg (by omega)]
  refine wpAny_bind (wpAny_specialOf hl.typeIs PyProof.Rows.slot_tuple_getitem.lookup ?_)
  try dsimp only
  refine wpAny_ite_split (fun hab=>absurd hab (by decide)) (fun _=>?_)
  refine wpAny_bind ?_
  wp_step
  refine wpAny_bind (wpAny_attempt (PyProof.Rows.getItem_tuple hl (by omega) hi (j:=i) ?_ hx ?_))
  · have:=(Array.getElem?_eq_some_iff.mp hx).1
    unfold seqIndex?
    simp only [show ¬ ((i:Int)<0) from by omega,if_false]
    rw [if_pos (by simp;omega)]
    simp
  try dsimp only
  refine wpAny_bind (wpAny_field ho hd (x:=rawInt (i:Int)) rfl ?_)
  show wpAny _ _ (setField (.ref it) 1 (rawInt ((i:Int) - 1)) >>= _) _ _ _
  refine wpAny_bind (wpAny_setField ho hd (by simp) ?_)
  refine wpAny_pure ⟨x,rfl,wpAny_pure (hQ _ _ ?_ (Heap.SameBut.update ..))⟩
  exact ⟨_,Heap.get?_update_self _ ho (Obj.isFreed_of_fields (Obj.data_mapFields hd _)),(Obj.cls_mapFields ..).trans hc,by
    rw [Obj.data_mapFields hd];simp⟩
theorem rv_end {it l:Addr} {Q:Option Value→Shared→Prop} (hh:A.handled=none) (hit:IsRv s.heap it l (-1))
    (hQ:∀ h',Heap.ExtBut it s.heap h'→Q none { s with heap:=h' }):wpAny (model prog w) A (pyNext (.ref it)) Q E s:=by
  obtain ⟨o,ho,hc,hd⟩:=id hit
  unfold pyNext
  refine wpAny_bind (wpAny_attempt (wpAny_callSpecial?_slot (name:=Str.ofString "__next__") hit.typeIs slot_rev_next
    (wpAny_call_entry slot_rev_next hit.typeIs entry_rev_next ?_ (args_rev_next _))))
  unfold Builtin.«reversed.__next__»
  refine wpAny_bind (wpAny_of_eq (a:=(Value.ref it,[])) rfl ?_)
  try dsimp only
  refine wpAny_bind (wpAny_field ho hd (x:=.ref l) rfl ?_)
  refine wpAny_bind (wpAny_field ho hd (x:=rawInt (-1)) rfl ?_)
  show wpAny _ _ (if (-1:Int)<0 then _ else _) _ _ s
  rw [if_pos (by decide)]
  refine wpAny_bind (wpAny_rule ?_)
  refine wpAny_bind ?_
  wp_delta
  refine wpAny_bind (wpAny_setField ho hd (by simp) ?_)
  have ho₁:=Heap.get?_update_self (Obj.mapFields (fun xs=>xs.setIfInBounds 1 (rawInt (-1)))) ho (Obj.isFreed_of_fields (Obj.data_mapFields hd _))
  refine wpAny_setField ho₁ (Obj.data_mapFields hd _) (by simp) ?_
  first
  | show wpAny _ _ (newExc (.type "StopIteration") [] >>= _) _ _ _
  | (refine wpAny_bind ?_;show wpAny _ _ (newExc (.type "StopIteration") [] >>= _) _ _ _)
  refine wpAny_bind ?_
  simp only [newExc,newTuple]
  refine wpAny_bind (wpAny_newObj_type ?_ (by size_fits))
  refine wpAny_bind (m:=firstArgMember _ _) (wpAny_of_eq (a:=Value.none) (by first|rfl|(simp only [firstArgMember];rfl)) ?_)
  refine wpAny_newObj_type ?_ (by size_fits)
  simp only [raiseNew]
  refine wpAny_bind (wpAny_handled ?_)
  first|rw [show A.in1.handled=none from hh]|rw [hh]
  refine wpAny_bind (wpAny_pure (wpAny_throw ?_))
  refine wpAny_bind (wpAny_isInstance (T:="StopIteration") (b:=true) ⟨_,Heap.get?_push_size _ rfl,rfl⟩ isSubtype_stop ?_)
  exact wpAny_pure (hQ _ ((((Heap.SameBut.update ..).trans (Heap.SameBut.update ..)).extBut.push _).push _))
theorem walks_rev (hh:A.handled=none) (I l:Addr) (hne:l≠I) (items:Array Value) (hz:(items.size:Int)<2 ^ 63) :
    Walks prog w A I [I,l] [I] items.size (fun i v=>items[items.size - 1 - i]?=some v) (fun i h=>i≤items.size∧IsRv h I l ((items.size:Int) - 1 - (i:Int))∧IsTup h l items) where
  sub:=fun b hb=>by simp at hb;simp [hb]
  frame:=fun _ _ _ x hk=>⟨x.1,x.2.1.at fun o e=>hk I (by simp) o e,let ⟨o,e,r⟩:=x.2.2;⟨o,hk l (by simp) o e,r⟩⟩
  item:=fun i s Q E hi x hQ=>by
    have e:(items.size:Int) - 1 - (i:Int)=((items.size - 1 - i:Nat):Int):=by omega
    have hit:=x.2.1
    rw [e] at hit
    have hx:items[items.size - 1 - i]?=some (items[items.size - 1 - i]'(by omega)):=Array.getElem?_eq_getElem (by omega)
    refine rv_item hne hit x.2.2 hx (by omega) fun h' tk hit' hs'=>?_
    have e2:((items.size - 1 - i:Nat):Int) - 1=(items.size:Int) - 1 - ((i+1:Nat):Int):=by omega
    rw [e2] at hit'
    exact hQ _ h' tk hx ⟨hi,hit',let ⟨o,eo,r⟩:=x.2.2;⟨o,(hs'.2 l hne).trans eo,r⟩⟩ fun b o hb eo=>hs'.extBut b o (fun h=>hb (by simp [h])) eo
  done:=fun s Q E x hQ=>by
    have e:(items.size:Int) - 1 - (items.size:Int)=-1:=by omega
    have hit:=x.2.1
    rw [e] at hit
    exact rv_end hh hit fun h' he'=>hQ h' s.toks fun b o hb eo=>he' b o (fun h=>hb (by simp [h])) eo
  self:=fun _ _ _ _ x hQ=>rv_iter x.2.1 hQ
theorem rv_hint {it t:Addr} {items:Array Value} {Q:Bool→Shared→Prop} (hit:IsRv s.heap it t ((items.size:Int) - 1)) (hl:IsTup s.heap t items) (hz:items.size<1000)
    (h:∀ b tk,Q b { s with toks:=tk }):wpAny (model prog w) A (Builtin.List.listLengthHint (.ref it)) Q E s:=by
  obtain ⟨o,ho,hc,hd⟩:=id hit
  unfold Builtin.List.listLengthHint
  refine wpAny_bind (wpAny_specialOf hit.typeIs rev_no_len ?_)
  try dsimp only
  refine wpAny_ite_split (fun hab=>absurd hab (by decide +kernel)) (fun _=>?_)
  refine wpAny_ite_split (fun hab=>absurd hab (by decide)) (fun _=>?_)
  refine wpAny_bind (wpAny_specialOf hit.typeIs slot_rev_hint.lookup ?_)
  generalize hid:("reversed.__length_hint__":String)=id0
  try dsimp only
  rw [show splitId id0=some ("reversed","__length_hint__") from by subst hid;decide +kernel]
  subst hid
  try dsimp only
  refine wpAny_bind (wpAny_isInstance (T:="reversed") (b:=true) hit.typeIs PySem.F.sub_reversed_self ?_)
  refine wpAny_ite_split (fun hab=>absurd hab (by decide)) (fun _=>?_)
  refine wpAny_ite_split (fun hab=>absurd hab (by decide +kernel)) (fun _=>?_)
  refine wpAny_bind (wpAny_rule ?_)
  refine wpAny_bind (wpAny_of_eq (slot_rev_hint.bind _) ?_)
  try dsimp only
  refine wpAny_bind (wpAny_attempt (wpAny_call_entry slot_rev_hint hit.typeIs entry_rev_hint ?_ (args_rev_hint _)))
  unfold Builtin.«reversed.__length_hint__»
  refine wpAny_bind (wpAny_of_eq (a:=Value.ref it) rfl ?_)
  refine wpAny_bind (wpAny_field ho hd (x:=.ref t) rfl ?_)
  refine wpAny_ite_split (fun hab=>absurd hab (by simp)) (fun _=>?_)
  refine wpAny_bind (PyProof.Rows.len_tuple hl (by omega) ?_)
  refine wpAny_bind (wpAny_of_eq (a:=some (items.size:Int)) rfl ?_)
  try dsimp only
  refine wpAny_bind (wpAny_field (s:={ s with toks:=s.toks+1+1 }) ho hd (x:=rawInt ((items.size:Int) - 1)) rfl ?_)
  show wpAny _ _ (if (items.size:Int)<((items.size:Int) - 1)+1 then _ else _) _ _ _
  rw [if_neg (by omega)]
  rw [show (items.size:Int) - 1+1=(items.size:Int) from by omega]
  wp_delta
  refine wpAny_bind ?_
  wp_step
  refine wpAny_pure ⟨_,rfl,?_⟩
  show wpAny _ _ (asInt? (Value.int (items.size:Int) (s.toks+1+1)) >>= _) _ _ _
  refine wpAny_bind ?_
  refine wpAny_of_eq (a:=some (items.size:Int)) ?_ ?_
  · rfl
  try dsimp only
  have f1:Builtin.List.listFitsIndex (items.size:Int)=true:=by
    unfold Builtin.List.listFitsIndex
    rw [Bool.and_eq_true]
    exact ⟨decide_eq_true (by omega),decide_eq_true (by omega)⟩
  have f2:¬ ((items.size:Int)<0):=by omega
  have f3:Builtin.List.listTooLong ((items.size:Int).toNat)=false:=by
    unfold Builtin.List.listTooLong
    refine decide_eq_false ?_
    rw [sizeLine_eq]
    omega
  simp only [f1,Bool.not_true,Bool.false_eq_true,if_false,f2,f3]
  exact wpAny_pure (h _ _)
end
end
section
set_option maxHeartbeats 4000000
section
variable {prog:Program} {w:World} {A:Around} {E:Value→Shared→Prop} {s:Shared}
theorem walks_shift {I:Addr} {fp wr:List Addr} {n:Nat} {P:Nat→Value→Prop} {St:Nat→Heap→Prop} (W:Walks prog w A I fp wr n P St) (k:Nat) (P₀:Nat→Value→Prop) :
    Walks prog w A I fp wr (k+n) (fun i v=>if i<k then P₀ i v else P (i - k) v) (fun i h=>k≤i∧St (i - k) h) where
  sub:=W.sub
  frame:=fun i h h' x hk=>⟨x.1,W.frame _ _ _ x.2 hk⟩
  item:=fun i s Q E hi x hQ=>W.item (i - k) s Q E (by have:=x.1;omega) x.2 fun v h' tk hP st hk=>hQ v h' tk (by rw [if_neg (by have:=x.1;omega)];exact hP) ⟨by have:=x.1;omega,by rw [show i+1 - k=i - k+1 from by have:=x.1;omega];exact st⟩ hk
  done:=fun s Q E x hQ=>W.done s Q E (by have:=x.2;rw [show k+n - k=n from by omega] at this;exact this) hQ
  self:=fun i s Q E x hQ=>W.self (i - k) s Q E x.2 hQ
theorem ext_rev {S t I:Addr} {acc items:Array Value} {c:Nat} {Q:Value→Shared→Prop} (hh:A.handled=none) (hSI:S≠I) (hSt:S≠t) (htI:t≠I) (hS:s.heap.get? S=some (listOf acc c)) (hI:IsRv s.heap I t ((items.size:Int) - 1)) (ht:IsTup s.heap t items)
    (hz:acc.size+items.size<1000) (h:∀ h' tk acc' c',(∀ b o,b≠S→b≠I→s.heap.get? b=some o→h'.get? b=some o)→h'.get? S=some (listOf acc' c')→acc'=acc++items.reverse→Q .none { s with heap:=h',toks:=tk }) :
    wpAny (model prog w) A (call (.builtin "list.extend") [.ref S,.ref I]) Q E s:=by
  refine wpAny_call (codeAny_call_builtin PySem.F.slot_list_extend.plain PySem.F.entry_list_extend (PySem.F.slot_list_extend.check _ _ _ _ _ _ _ _ ⟨_,hS,rfl⟩ (PySem.F.args_list_extend_2 _ _) ?_))
  have W:=walks_shift (walks_rev (prog:=prog) (w:=w) (A:=A.in1) hh I t htI items (by omega)) acc.size (fun i v=>acc[i]?=some v)
  have key:∀ (h:Heap) (c₁ tk:Nat),IsRv h I t ((items.size:Int) - 1)→IsTup h t items→(∀ b o,b≠S→b≠I→s.heap.get? b=some o→h.get? b=some o)→h.get? S=some (listOf acc c₁) →
      codeAny (model prog w) A (.builtin "list.extend.loop" ⟨[.ref S,.ref I,.none],[]⟩) (fun r s'=>match r with|.ok (.ret v)=>Q v s'|.ok _=>False|.error e=>E e s') { s with heap:=h,toks:=tk }:=by
    intro h₁ c₁ tk hr htt hk hS₁
    refine codeAny_extend_loopS W.toS (by rw [sizeLine_eq];omega) S ?_ .none items.size acc.size _ acc c₁ (by omega) (by omega) ⟨Nat.le_refl _,by rw [Nat.sub_self];exact ⟨Nat.zero_le _,by simpa using hr,htt⟩⟩ hS₁ ⟨rfl,fun j v hj=>?_⟩ fun s' acc' c' hm hS' hacc=>?_
    · simp [hSI,hSt]
    · have:=(Array.getElem?_eq_some_iff.mp hj).1
      show (if j<acc.size then acc[j]?=some v else _)
      rw [if_pos this];exact hj
    · rw [Moved.eq_with hm]
      refine h s'.heap s'.toks acc' c' (fun b o hb hb' e=>hm.heap b o (fun hmem=>?_) (hk b o hb hb' e)) hS' ?_
      · rcases List.mem_cons.mp hmem with e'|hmem
        · exact hb e'
        · exact hb' (List.mem_singleton.mp hmem)
      · refine Array.ext_getElem? fun i=>?_
        by_cases hi:i<acc.size+items.size
        · have hv:acc'[i]?=some (acc'[i]'(by rw [hacc.1];exact hi)):=Array.getElem?_eq_getElem (by rw [hacc.1];exact hi)
          have:=hacc.2 i _ hv
          simp only [] at this
          rw [hv,Array.getElem?_append]
          by_cases hia:i<acc.size
          · rw [if_pos hia] at this ⊢
            exact this.symm
          · rw [if_neg hia] at this ⊢
            rw [Array.getElem?_reverse (by omega)]
            exact this.symm
        · rw [Array.getElem?_eq_none (by rw [hacc.1];omega),Array.getElem?_eq_none (by rw [Array.size_append,Array.size_reverse];omega)]
  unfold Builtin.«list.extend»
  refine wpAny_bind (wpAny_of_eq (a:=(Value.ref S,Value.ref I)) rfl ?_)
  show wpAny _ _ (Builtin.List.listExtendWith (.ref S) (.ref I) .none) _ _ s
  unfold Builtin.List.listExtendWith
  refine wpAny_bind (wpAny_typeOf (T:="reversed") hI.typeIs ?_)
  have h1:Builtin.List.listSameRef (.ref S) (.ref I)=false:=by simp [Builtin.List.listSameRef,hSI]
  have h2:(Value.type "reversed" == Value.type "list")=false:=by decide
  have h3:(Value.type "reversed" == Value.type "tuple")=false:=by decide
  simp only [h1,h2,h3,Bool.or_false,Bool.false_eq_true,if_false]
  refine wpAny_bind (rv_iter hI ?_)
  refine wpAny_bind (wpAny_holding (rv_hint hI ht (by omega) fun b tk=>?_))
  refine wpAny_ite_split (fun _=>?_) (fun _=>wpAny_pure ⟨plainId_quiet PySem.F.plain_extend_loop _,key _ c _ hI ht (fun b o _ _ e=>e) hS⟩)
  refine wpAny_bind (wpAny_rule ?_)
  refine wpAny_bind ?_
  show wpAny _ _ (updateSeq S (·.push .none) >>= fun _=>updateSeq S (·.pop)) _ _ _
  refine wpAny_bind (wpAny_updateSeq (s:={ s with toks:=tk }) hS rfl ?_ ?_ ?_)
  rotate_left
  · rw [sizeLine_eq];omega
  · rw [sizeLine_eq,Array.size_push];omega
  have hS₂:=Heap.get?_update_self (Obj.mapSeq (·.push Value.none)) hS rfl
  refine wpAny_updateSeq (s:={ s with heap:=s.heap.update S (Obj.mapSeq (·.push Value.none)),toks:=tk }) hS₂ rfl ?_ ?_ ?_
  rotate_left
  · rw [sizeLine_eq];show (acc.push Value.none).size≤_;rw [Array.size_push];omega
  · rw [sizeLine_eq];show ((acc.push Value.none).pop).size≤_;rw [Array.size_pop,Array.size_push];omega
  have hS₃:=Heap.get?_update_self (Obj.mapSeq (·.pop)) hS₂ rfl
  have oth:∀ b o,b≠S→s.heap.get? b=some o→((s.heap.update S (Obj.mapSeq (·.push Value.none))).update S (Obj.mapSeq (·.pop))).get? b=some o:=fun b o hb e =>
    (Heap.get?_update_other _ _ (Ne.symm hb)).trans ((Heap.get?_update_other _ _ (Ne.symm hb)).trans e)
  refine wpAny_pure ⟨plainId_quiet PySem.F.plain_extend_loop _,key _ (c+1+1) _ (hI.at fun o e=>oth _ _ hSI.symm e) ?_ (fun b o hb _ e=>oth b o hb e) ?_⟩
  · obtain ⟨o,e,r⟩:=ht
    exact ⟨o,oth _ _ hSt.symm e,r⟩
  · exact hS₃.trans (congrArg some (by
      have e:(acc.push Value.none).pop=acc:=by simp
      show ({ cls:=.type "list",data:=_ }:Obj)=_
      have n1:((acc.push Value.none).size == acc.size)=false:=by rw [Array.size_push];exact beq_eq_false_iff_ne.mpr (by omega)
      have n2:(acc.size == (acc.push Value.none).size)=false:=by rw [Array.size_push];exact beq_eq_false_iff_ne.mpr (by omega)
      simp only [Obj.mapSeq,e,n1,n2,Bool.false_eq_true,if_false]))
theorem ext_revN {h₀:Heap} {L S t I:Addr} {m:Str→Option Value} {news:Led} {news':Nat→Led} {acc items:List Value} {c nt:Nat} {Q:Value→Shared→Prop} (hh:A.handled=none) (F:Fr h₀ L s.heap m) (N:News h₀ L s.heap ((I,rvO t ((items.length:Int) - 1))::news))
    (hI:∀ p∈news,p.1<I) (U:∀ c',Upd S (listOf acc.toArray c) (listOf (acc++items.reverse).toArray c') news (news' c')) (ht:(t,({ cls:=.type "tuple",data:=.seq items.toArray nt }:Obj))∈news) (hz:acc.length+items.length<1000)
    (h:∀ h' tk c',Fr h₀ L h' m→News h₀ L h' (news' c')→Q .none { s with heap:=h',toks:=tk }) :
    wpAny (model prog w) A (call (.builtin "list.extend") [.ref S,.ref I]) Q E s:=by
  have mS:=upd_at (U 0)
  have nI:=N _ (.head _)
  have nS:=N _ (.tail _ mS)
  have nt:=N _ (.tail _ ht)
  have hSI:S≠I:=fun e=>Nat.lt_irrefl _ (e ▸ hI _ mS)
  have htI:t≠I:=fun e=>Nat.lt_irrefl _ (e ▸ hI _ ht)
  have hSt:S≠t:=fun e=>by
    have h1:=nS.1
    have h2:=nt.1
    simp only [e] at h1
    rw [h2] at h1
    have e2:Value.type "tuple"=Value.type "list":=congrArg Obj.cls (Option.some.inj h1)
    exact absurd e2 (by decide)
  refine ext_rev (acc:=acc.toArray) (items:=items.toArray) hh hSI hSt htI nS.1 ⟨_,nI.1,rfl,by simp [rvO]⟩ ⟨_,nt.1,rfl,_,rfl⟩ (by simpa using hz) fun h' tk acc' c' hk hS' e=>?_
  have e':acc'=(acc++items.reverse).toArray:=by rw [e];simp
  subst e'
  have keep₀:∀ b o,h₀.get? b=some o→h'.get? b=some o:=fun b o eb=>hk b o (fun z=>by rw [z,nS.2.2] at eb;cases eb) (fun z=>by rw [z,nI.2.2] at eb;cases eb) (F.keep b o eb)
  refine h h' tk c' ⟨F.ns.at' fun o e=>hk L o (Ne.symm nS.2.1) (Ne.symm nI.2.1) e,keep₀,F.above⟩ fun p hp=>?_
  rcases upd_of (U c') p hp with rfl|⟨hp,hn⟩
  · exact ⟨hS',nS.2⟩
  · have z:=N p (.tail _ hp)
    exact ⟨hk _ _ hn (Nat.ne_of_lt (hI p hp)) z.1,z.2⟩
end
end
section
mutual
noncomputable def szD:Dat→Nat
  | .tuple ds=>1+szDs ds
  | _=>1
noncomputable def szDs:List Dat→Nat
  | []=>0
  | d::ds=>szD d+szDs ds
end
noncomputable def hitD (ds:List Dat) (acc:List Str):List Str :=
  if ds.length=4 then (match (ds[0]?).bind strOf,(ds[2]?).bind strOf with
    | some c,some n=>if c=Str.ofString "call" then ins n acc else acc
    | _,_=>acc) else acc
mutual
noncomputable def dn:Dat→List Str→List Str
  | .tuple ds,acc=>dns ds (hitD ds acc)
  | _,acc=>acc
noncomputable def dns:List Dat→List Str→List Str
  | [],acc=>acc
  | d::ds,acc=>dns ds (dn d acc)
end
noncomputable def okHead (ds:List Dat):Bool:=if ds.length=4 then ((ds[0]?).bind strOf).isSome else true
mutual
noncomputable def okD:Dat→Bool
  | .tuple ds=>okHead ds && okDs ds
  | .bytes _=>false
  | _=>true
noncomputable def okDs:List Dat→Bool
  | []=>true
  | d::ds=>okD d && okDs ds
end
theorem dn_ex:∀ (e:Ex) (acc:List Str),dn (exD e) acc=names e acc
  | .id,acc=>by simp [exD,dn,dns,hitD,strOf,names]
  | .num,acc=>by simp [exD,dn,dns,hitD,strOf,names]
  | .bin l r,acc=>by simp [exD,dn,dns,hitD,strOf,names,dn_ex l,dn_ex r]
  | .cat x,acc=>by simp [exD,dn,dns,hitD,strOf,names,dn_ex x]
  | .call n x,acc=>by simp [exD,dn,dns,hitD,strOf,names,dn_ex x]
theorem ok_ex:∀ e:Ex,okD (exD e)=true
  | .id=>rfl
  | .num=>rfl
  | .bin l r=>by simp [exD,okD,okDs,okHead,strOf,ok_ex l,ok_ex r]
  | .cat x=>by simp [exD,okD,okDs,okHead,strOf,ok_ex x]
  | .call n x=>by simp [exD,okD,okDs,okHead,strOf,ok_ex x]
theorem sz_ex:∀ (e:Ex) (j:Nat),exOk j e→szD (exD e)+12≤21 * 2 ^ j
  | .id,j,_=>by have:=Nat.one_le_two_pow (n:=j);simp only [exD,szD,szDs];omega
  | .num,j,_=>by have:=Nat.one_le_two_pow (n:=j);simp only [exD,szD,szDs];omega
  | .bin l r,j+1,h=>by have:=sz_ex l j h.1;have:=sz_ex r j h.2;simp only [exD,szD,szDs];rw [Nat.pow_succ];omega
  | .cat x,j+1,h=>by have:=sz_ex x j h;simp only [exD,szD,szDs];rw [Nat.pow_succ];omega
  | .call n x,j+1,h=>by have:=sz_ex x j h.2;simp only [exD,szD,szDs];rw [Nat.pow_succ];omega
theorem dns_app:∀ (a b:List Dat) (acc:List Str),dns (a++b) acc=dns b (dns a acc)
  | [],_,_=>rfl
  | d::a,b,acc=>by simp [dns,dns_app a b]
theorem szDs_app:∀ (a b:List Dat),szDs (a++b)=szDs a+szDs b
  | [],_=>by simp [szDs]
  | d::a,b=>by simp [szDs,szDs_app a b];omega
theorem okDs_app:∀ (a b:List Dat),okDs (a++b)=(okDs a && okDs b)
  | [],_=>by simp [okDs]
  | d::a,b=>by simp [okDs,okDs_app a b,Bool.and_assoc]
theorem szDs_rev:∀ a:List Dat,szDs a.reverse=szDs a
  | []=>rfl
  | d::a=>by simp [szDs_app,szDs,szDs_rev a];omega
theorem okDs_rev:∀ a:List Dat,okDs a.reverse=okDs a
  | []=>rfl
  | d::a=>by simp [okDs_app,okDs,okDs_rev a,Bool.and_comm]
theorem len_sz:∀ a:List Dat,a.length≤szDs a
  | []=>Nat.le_refl _
  | d::a=>by
    have:=len_sz a
    have h1:1≤szD d:=by cases d <;> simp [szD]
    simp only [List.length_cons,szDs];omega
theorem ins_len (n:Str) (acc:List Str):acc.length≤(ins n acc).length:=by
  unfold ins;split
  · exact Nat.le_refl _
  · simp
theorem hit_len (ds:List Dat) (acc:List Str):acc.length≤(hitD ds acc).length:=by
  unfold hitD
  split
  · split
    · split
      · exact ins_len _ _
      · exact Nat.le_refl _
    · exact Nat.le_refl _
  · exact Nat.le_refl _
mutual
theorem dn_len:∀ (d:Dat) (acc:List Str),acc.length≤(dn d acc).length
  | .tuple ds,acc=>Nat.le_trans (hit_len ds acc) (by rw [dn];exact dns_len ds _)
  | .none,acc=>Nat.le_refl _
  | .bool _,acc=>Nat.le_refl _
  | .int _,acc=>Nat.le_refl _
  | .str _,acc=>Nat.le_refl _
  | .bytes _,acc=>Nat.le_refl _
  | .list _,acc=>Nat.le_refl _
theorem dns_len:∀ (ds:List Dat) (acc:List Str),acc.length≤(dns ds acc).length
  | [],acc=>Nat.le_refl _
  | d::ds,acc=>Nat.le_trans (dn_len d acc) (by rw [dns];exact dns_len ds _)
end
theorem dat_rev {l:Led}:∀ {vs:List Value} {ds:List Dat},DatAll l vs ds→DatAll l vs.reverse ds.reverse
  | _,_,.nil=>.nil
  | _,_,.cons h r=>by simp only [List.reverse_cons];exact (dat_rev r).append (.one h)
theorem keys_stored (kvs:List (Str × Value)) (n:Str) (v:Value):(stored kvs n v).map (·.1)=ins n (kvs.map (·.1)):=by
  unfold stored ins
  by_cases h:kvs.any (fun kv=>kv.1=n)=true
  · rw [if_pos h,if_pos (by simp at h;simpa using h),List.map_map]
    refine List.map_congr_left fun p _=>?_
    show (if p.1=n then (p.1,v) else p).1=p.1
    split <;> rfl
  · rw [if_neg h,if_neg (by simp at h;simpa using h)]
    simp
end
section
theorem keysS_of:∀ (kvs:List (Str × Value)) (C:List Value→Prop),(∀ us,DatAll [] us ((kvs.map (·.1)).map Dat.str)→C us)→KdlKeysS kvs C
  | [],C,h=>h [] .nil
  | q::r,C,h=>fun t=>keysS_of r _ fun us hu=>h (.str q.1 t::us) (.cons (.str _ _) hu)
section
variable {prog:Program} {w:World} {A:Around} {E:Value→Shared→Prop} {s:Shared} {h₀:Heap} {L d:Addr} {m:Str→Option Value} {news:Led} {o:Obj}
theorem list_keys {kvs:List (Str × Value)} {Q:Value→Shared→Prop} (hh:A.handled=none) (F:Fr h₀ L s.heap m) (N:News h₀ L s.heap news) (hp:(d,o)∈news) (hd:o.IsDictOf (PySem.strKind prog w) kvs) (lo:(d == sysModules)=false) (hn:kvs.length≤16777216)
    (h:∀ (B:Addr) c h' tk us,DatAll [] us ((kvs.map (·.1)).map Dat.str)→Fr h₀ L h' m→News h₀ L h' ((B,listOf us.toArray c)::news)→(∀ q∈news,q.1<B)→Q (.ref B) { s with heap:=h',toks:=tk }) :
    wpAny (model prog w) A (call (.type "list") [.ref d]) Q E s :=
  kdl_list_keysS hh F N hp hd lo hn fun B c h' tk=>keysS_of _ _ fun us hu F' N' l=>h B c h' tk us hu F' N' l
theorem set_D {news':Obj→Led} {kvs:List (Str × Value)} {x:Str} {t:Tok} {v:Value} {Q:Unit→Shared→Prop} (F:Fr h₀ L s.heap m) (N:News h₀ L s.heap news) (U:∀ o',Upd d o o' news (news' o')) (hd:o.IsDictOf (PySem.strKind prog w) kvs) (hsz:kvs.length≤1000)
    (h:∀ h' o',Fr h₀ L h' m→News h₀ L h' (news' o')→o'.IsDictOf (PySem.strKind prog w) (stored kvs x v)→Q () { s with heap:=h',toks:=s.toks+1 }):wpAny (model prog w) A (setItem (.ref d) (.str x t) v) Q E s:=by
  have hm:=N _ (upd_at (U o))
  refine wpAny_setItem_pairs (knd:=PySem.strKind prog w) (k:=x) (hsz:=by rw [sizeLine_eq];omega) (by show Value.isStrOf x (.str x t)=true;simp [Value.isStrOf]) (Heap.dictOf_iff.mpr ⟨o,hm.1,hd⟩) fun h' hmm hs=>?_
  obtain ⟨o',ho',hd'⟩:=Heap.dictOf_iff.mp hmm
  refine h h' o' (F.change hs hm.2.1 hm.2.2) (fun p hp=>?_) hd'
  rcases upd_of (U o') p hp with rfl|⟨hp,hn⟩
  · exact ⟨ho',hm.2⟩
  · exact ⟨(hs.2 _ hn).trans (N p hp).1,(N p hp).2⟩
theorem last_snoc (p:List Value) (y:Value):kl_last (p++[y])=some (p,y):=by
  induction p with
  | nil=>rfl
  | cons a r ih=>show (match kl_last (r++[y]) with|some (p,y)=>some (a::p,y)|none=>some ([],a))=_;rw [ih]
theorem pop_ok {S:Addr} {news':Led} {p:List Value} {y:Value} {n:Nat} {Q:Value→Shared→Prop} (F:Fr h₀ L s.heap m) (N:News h₀ L s.heap news) (U:Upd S (listOf (p++[y]).toArray n) (listOf p.toArray (n+1)) news news')
    (hz:p.length<1000) (h:∀ h',Fr h₀ L h' m→News h₀ L h' news'→Q y { s with heap:=h' }):wpAny (model prog w) A (call (.builtin "list.pop") [.ref S]) Q E s :=
  kl_pop F N (by simpa using last_snoc p y) U (by simp [sizeLine_eq];omega) h
end
noncomputable def isStrD:Dat→Bool
  | .str _=>true
  | _=>false
noncomputable def isTupD:Dat→Bool
  | .tuple _=>true
  | _=>false
section
variable {prog:Program} {w:World} {A:Around} {E:Value→Shared→Prop} {s:Shared} {h₀:Heap} {L:Addr} {news l:Led} {v:Value} {d:Dat} {Q:Value→Shared→Prop}
theorem isi_str (X:(K0 w.params).In s.heap) (N:News h₀ L s.heap news) (hv:DatIn l v d) (hs:∀ p∈l,p∈news) (hb:okD d=true) (h1:∀ x t tk,d=.str x→v=.str x t→Q (.bool true) { s with toks:=tk }) (h2:isStrD d=false→∀ tk,Q (.bool false) { s with toks:=tk }) :
    wpAny (model prog w) A (call (.builtin "isinstance") [v,.type "str"]) Q E s:=by
  cases hv with
  | none=>exact kia_one kitx_none X trivial rfl (fun q=>by cases q) (h2 rfl)
  | bool b=>exact kia_one kitx_bool X trivial rfl (fun q=>by cases q) (h2 rfl)
  | int i t=>exact kia_one kitx_int X trivial rfl (fun q=>by cases q) (h2 rfl)
  | str x t=>exact kia_one kitx_str X trivial rfl (fun q=>by cases q) (fun tk=>h1 x t tk rfl rfl)
  | bytes b t=>simp [okD] at hb
  | tuple hm r=>exact kia_one kitx_tuple X ⟨_,(N _ (hs _ hm)).1,rfl⟩ rfl (fun q=>by cases q) (h2 rfl)
  | list hm r=>exact kia_one kitx_list X ⟨_,(N _ (hs _ hm)).1,rfl⟩ rfl (fun q=>by cases q) (h2 rfl)
theorem isi_tup (X:(K0 w.params).In s.heap) (N:News h₀ L s.heap news) (hv:DatIn l v d) (hs:∀ p∈l,p∈news) (hb:okD d=true)
    (h1:∀ a vs n ds tk,d=.tuple ds→v=.ref a→(a,({ cls:=.type "tuple",data:=.seq vs.toArray n }:Obj))∈l→DatAll l vs ds→Q (.bool true) { s with toks:=tk }) (h2:isTupD d=false→∀ tk,Q (.bool false) { s with toks:=tk }) :
    wpAny (model prog w) A (call (.builtin "isinstance") [v,.type "tuple"]) Q E s:=by
  cases hv with
  | none=>exact kia_one kitx_none X trivial rfl (fun q=>by cases q) (h2 rfl)
  | bool b=>exact kia_one kitx_bool X trivial rfl (fun q=>by cases q) (h2 rfl)
  | int i t=>exact kia_one kitx_int X trivial rfl (fun q=>by cases q) (h2 rfl)
  | str x t=>exact kia_one kitx_str X trivial rfl (fun q=>by cases q) (h2 rfl)
  | bytes b t=>simp [okD] at hb
  | @tuple a vs n ds hm r=>exact kia_one kitx_tuple X ⟨_,(N _ (hs _ hm)).1,rfl⟩ rfl (fun q=>by cases q) (fun tk=>h1 a vs n ds tk rfl rfl hm r)
  | list hm r=>exact kia_one kitx_list X ⟨_,(N _ (hs _ hm)).1,rfl⟩ rfl (fun q=>by cases q) (h2 rfl)
end
end
section
theorem fr_name {h₀ h:Heap} {L:Addr} {m:Str→Option Value} {x:Str} {v:Value} (F:Fr h₀ L h m) (e:m x=some v):Fr h₀ L h (fun y=>if y=x then some v else m y):=by
  have:(fun y=>if y=x then some v else m y)=m:=by
    funext y
    by_cases h:y=x
    · rw [if_pos h,h,e]
    · rw [if_neg h]
  rw [this];exact F
theorem nil_snoc {α:Type} (l:List α):l=[]∨∃ p y,l=p++[y]:=by
  rcases List.eq_nil_or_concat l with h|⟨p,y,h⟩
  · exact .inl h
  · exact .inr ⟨p,y,by rw [h,List.concat_eq_append]⟩
noncomputable def NmJ (prog:Program) (w:World) (fd sk:Addr) (data:Led) (target:List Str) (n:Nat) (m:Str→Option Value) (nx:Led):Prop :=
  ∃ ds vs nv o kvs,nx=(sk,listOf (List.toArray vs) nv)::(fd,o)::data∧DatAll data vs ds∧okDs ds=true∧szDs ds=n∧n<900∧o.IsDictOf (strKind prog w) kvs∧dns ds.reverse (kvs.map (·.1))=target∧m (Str.ofString "found")=some (.ref fd)∧m (Str.ofString "stack")=some (.ref sk)
theorem nmj_next {prog:Program} {w:World} {fd sk:Addr} {data:Led} {target:List Str} {m:Str→Option Value} {es ds4:List Dat} {vs' vs4:List Value} {c:Nat} {o:Obj} {keys:List Str} {kvs:List (Str × Value)}
    (hes:DatAll data vs' es) (r:DatAll data vs4 ds4) (h1:okDs es=true) (h2:okDs ds4=true) (hn:szDs es+szDs ds4<900) (hd:o.IsDictOf (PySem.strKind prog w) kvs) (hk:kvs.map (·.1)=hitD ds4 keys) (heq:dns es.reverse (dns ds4 (hitD ds4 keys))=target)
    (hf:m (Str.ofString "found")=some (.ref fd)) (hs:m (Str.ofString "stack")=some (.ref sk)) :
    NmJ prog w fd sk data target (szDs es+szDs ds4) m ((sk,listOf (vs'++vs4.reverse).toArray c)::(fd,o)::data) :=
  ⟨es++ds4.reverse,_,_,o,kvs,rfl,hes.append (dat_rev r),by rw [okDs_app,okDs_rev,h1,h2];rfl,by rw [szDs_app,szDs_rev],hn,hd,by rw [List.reverse_append,List.reverse_reverse,dns_app,hk];exact heq,hf,hs⟩
theorem nmj_same {prog:Program} {w:World} {fd sk:Addr} {data:Led} {target:List Str} {m:Str→Option Value} {es:List Dat} {vs':List Value} {c:Nat} {o:Obj} {kvs:List (Str × Value)}
    (hes:DatAll data vs' es) (h1:okDs es=true) (hn:szDs es<900) (hd:o.IsDictOf (PySem.strKind prog w) kvs) (heq:dns es.reverse (kvs.map (·.1))=target)
    (hf:m (Str.ofString "found")=some (.ref fd)) (hs:m (Str.ofString "stack")=some (.ref sk)) :
    NmJ prog w fd sk data target (szDs es) m ((sk,listOf vs'.toArray c)::(fd,o)::data) :=
  ⟨es,_,_,o,kvs,rfl,hes,h1,rfl,hn,hd,heq,hf,hs⟩
theorem hit_no {x:Str} {e1 e2 e3:Dat} {acc:List Str} (h:isStrD e2=false):hitD [.str x,e1,e2,e3] acc=acc:=by
  cases e2 <;> first|rfl|cases h
theorem hit_ne {x:Str} {e1 e2 e3:Dat} {acc:List Str} (h:¬ (x == Str.ofString "call")=true):hitD [.str x,e1,e2,e3] acc=acc:=by
  cases e2 <;> first|rfl|(show (if x=Str.ofString "call" then _ else acc)=acc;exact if_neg fun e=>h (by rw [e];exact beq_self_eq_true _))
theorem hit_yes {x y:Str} {e1 e3:Dat} {acc:List Str} (h:(x == Str.ofString "call")=true):hitD [.str x,e1,.str y,e3] acc=ins y acc:=if_pos (eq_of_beq h)
theorem hit_len4 {ds:List Dat} {acc:List Str} (h:ds.length≠4):hitD ds acc=acc:=if_neg h
theorem all4 {l:Led} {vs:List Value} {ds:List Dat} (r:DatAll l vs ds) (h4:ds.length=4) (hd:okHead ds=true):∃ x t e1 e2 e3 v1 v2 v3,DatIn l v1 e1∧DatIn l v2 e2∧DatIn l v3 e3∧vs=[.str x t,v1,v2,v3]∧ds=[.str x,e1,e2,e3]:=by
  cases r with|nil=>cases h4|cons r0 r =>
  cases r with|nil=>cases h4|cons r1 r =>
  cases r with|nil=>cases h4|cons r2 r =>
  cases r with|nil=>cases h4|cons r3 r =>
  cases r with
  | nil=>cases r0 <;> first|exact ⟨_,_,_,_,_,_,_,_,r1,r2,r3,rfl,rfl⟩|cases hd
  | cons _ r=>exact absurd h4 (by simp only [List.length_cons];omega)
theorem dn_not {d:Dat} {acc:List Str} (h:isTupD d=false):dn d acc=acc∧szD d=1:=by
  cases d <;> simp [isTupD] at h <;> exact ⟨rfl,rfl⟩
theorem called_ok {prog:Program} {w:World} {v:Value} {d:Dat} {data:Led} (hv:DatIn data v d) (hok:okD d=true) (hsz:szD d<900) (hlen:(dn d []).length≤3) :
    Spec prog w (nat_lit 1214) [v] 6 200 data (fun r news'=>∃ l us n,r=.ref l∧DatAll [] us ((dn d []).map Dat.str)∧news'=(l,listOf (List.toArray us) n)::data∧∀ p∈data,p.1<l):=by
  intro A A₀ env outer base h₀ L p loose mean mg mb m s Q E C F N hQ
  obtain ⟨B,X,T,hA,hf,hk,hh,hd',hu⟩:=C
  refine wpAny_call ?_
  (refine' code_def (binds:=[(Str.ofString "node",v)]) B F X N T hA hf hk (by k_is) (by k_is) (by exact room0 hd') (by exact BindsTo.of_eq rfl) (by exact locs rfl) ?_ (by exact rfl) (by exact rfl) (by exact rfl) (by decide);k_whole;intro g' L' h' FG' F' N' B' X' T';clear F N B X T;(conv=>pattern (fBody _);whnf);(conv=>pattern (occs:=*) (fScope _);all_goals whnf);dsimp only [List.reverse,List.reverseAux,List.length] at F' ⊢;k_fold)
  repeat' ((fail_if_success (with_reducible show wpAny _ _ (exec (Stmt.While _ _ _ _) _) _ _ _));(fail_if_success (with_reducible show wpAny _ _ (pyIter _) _ _ _));first|(k_unfold;(try dsimp only))|(k_end;wrow_close)|((with_reducible show wpAny _ _ (call (Value.builtin "len") [Value.ref _]) _ _ _);first|refine PyProof.Rows.len_list (News.isList (by k_asm) (by k_mem)) (by (simp only [List.size_toArray,List.length_append,List.length_cons,List.length_nil];omega)) ?_|refine PyProof.Rows.len_tuple (News.isTup (by k_asm) (by k_mem)) (by (simp only [List.size_toArray,List.length_append,List.length_cons,List.length_nil];omega)) ?_);(try simp only [List.size_toArray,List.length_append,List.length_cons,List.length_nil])|((with_reducible show wpAny _ _ (call (Value.type "list") [Value.ref _]) _ _ _);refine list_keys (by assumption) (by k_asm) (by k_asm) (by k_mem) (by assumption) (by assumption) (by omega) ?_;intro B9 c9 h9 tk9 us9 hu9 F9 N9 l9;(try k_sweep))|((with_reducible show wpAny _ _ (call (Value.type "reversed") _) _ _ _);refine rev_new (by k_asm) (by k_asm) (by k_mem) (by (simp only [List.size_toArray];omega)) ?_;intro D9 h9 tk9 F9 N9 l9;(try k_sweep);(try simp only [List.size_toArray] at N9))|((with_reducible show wpAny _ _ (call (Value.builtin "list.extend") _) _ _ _);refine ext_revN (by assumption) (by k_asm) (by k_asm) (by assumption) (fun c9=>by first|k_upd|fail) (by k_mem) (by first|omega|(simp only [List.length_cons,List.length_nil];omega)) ?_;intro h9 tk9 c9 F9 N9;(try k_sweep))|((with_reducible show wpAny _ _ (call (Value.builtin "list.pop") _) _ _ _);refine pop_ok (by k_asm) (by k_asm) (by first|k_upd|fail) (by omega) ?_;intro h9 F9 N9;(try k_sweep))|((with_reducible show wpAny _ _ (setItem (Value.ref _) _ _) _ _ _);(try subst_vars);refine set_D (by k_asm) (by k_asm) (fun o9=>by first|k_upd|fail) (by assumption) (by omega) ?_;intro h9 o9 F9 N9 hd9;(try k_sweep))|((with_reducible show wpAny _ _ (call (Value.builtin "isinstance") [_,Value.type "str"]) _ _ _);refine isi_str (by k_in) (by k_asm) (by assumption) (by ((repeat' (first|with_reducible exact fun _ h=>h|with_reducible exact List.forall_mem_nil _|(with_reducible refine sub_cons ?_ ?_)|(with_reducible refine sub_app ?_ ?_)|(with_reducible refine sub_append ?_ ?_)|(intro q9 hq9;first|k_mem|(replace hq9:=hs _ hq9;k_mem))|k_mem));first|done|fail "left")) (by assumption) (fun x9 t9 tk9 ed9 ev9=>?_) (fun hn9 tk9=>?_))|((with_reducible show wpAny _ _ (subscriptTail _ _ (Value.ref _) (Value.int _ _)) _ _ _);first|(refine item_litK (News.isList (by k_asm) (by k_mem)) (by decide) (by decide) (by exact rfl) ?_ (by with_unfolding_all rfl))|(refine item_tupleT (News.isTup (by k_asm) (by k_mem)) (by decide) (by decide) (by exact rfl) (by exact rfl) ?_ (by with_unfolding_all rfl)))|walk1|(dsimp only;walk1)|(leave1;(try dsimp only))|fail "no step")
  rename_i d1 h1 o1 l1 lo hs fs hi fi h2 l2 h3 h0 h4 F N
  have hfd:∀ p∈data,p.1≠d1:=fun p hp e=>Nat.lt_irrefl _ (e ▸ l1 p hp)
  have hsk:∀ p∈data,p.1≠l2:=fun p hp e=>Nat.lt_irrefl _ (e ▸ h0 p (.tail _ hp))
  have hfs:d1≠l2:=Nat.ne_of_lt (h0 _ (.head _))
  clear fs hi fi h1 h2 h3 l1 h0
  refine While_inv2 (NmJ prog w d1 l2 data (dn d [])) (n₀:=szD d) F N ⟨[d],[v],_,o1,[],rfl,.one hv,by simp [okDs,hok],by simp [szDs],hsz,hs,by simp [dns],rfl,rfl⟩ ?_ ?hE
  clear F N hs
  rintro n m₁ nx h₁ tk₁ F₁ N₁ ⟨ds,vs,nv,o,kvs,rfl,hds,hoks,hszs,hn,hdict,heq,hm1,hm2⟩
  have F:=fr_name (x:=Str.ofString "stack") (fr_name F₁ hm1) ((if_neg (by decide)).trans hm2)
  clear F₁ hm1 hm2
  have hvl:vs.length<900:=by have:=hds.length;have:=len_sz ds;omega
  have hkl:kvs.length≤3:=by have:=dns_len ds.reverse (kvs.map (·.1));rw [heq,List.length_map] at this;omega
  rcases nil_snoc vs with rfl|⟨vs',v9,rfl⟩
  · cases hds
    repeat' ((fail_if_success (with_reducible show wpAny _ _ (exec (Stmt.While _ _ _ _) _) _ _ _));(fail_if_success (with_reducible show wpAny _ _ (pyIter _) _ _ _));first|(k_unfold;(try dsimp only))|(k_end;wrow_close)|((with_reducible show wpAny _ _ (call (Value.builtin "len") [Value.ref _]) _ _ _);first|refine PyProof.Rows.len_list (News.isList (by k_asm) (by k_mem)) (by (simp only [List.size_toArray,List.length_append,List.length_cons,List.length_nil];omega)) ?_|refine PyProof.Rows.len_tuple (News.isTup (by k_asm) (by k_mem)) (by (simp only [List.size_toArray,List.length_append,List.length_cons,List.length_nil];omega)) ?_);(try simp only [List.size_toArray,List.length_append,List.length_cons,List.length_nil])|((with_reducible show wpAny _ _ (call (Value.type "list") [Value.ref _]) _ _ _);refine list_keys (by assumption) (by k_asm) (by k_asm) (by k_mem) (by assumption) (by assumption) (by omega) ?_;intro B9 c9 h9 tk9 us9 hu9 F9 N9 l9;(try k_sweep))|((with_reducible show wpAny _ _ (call (Value.type "reversed") _) _ _ _);refine rev_new (by k_asm) (by k_asm) (by k_mem) (by (simp only [List.size_toArray];omega)) ?_;intro D9 h9 tk9 F9 N9 l9;(try k_sweep);(try simp only [List.size_toArray] at N9))|((with_reducible show wpAny _ _ (call (Value.builtin "list.extend") _) _ _ _);refine ext_revN (by assumption) (by k_asm) (by k_asm) (by assumption) (fun c9=>by first|k_upd|fail) (by k_mem) (by first|omega|(simp only [List.length_cons,List.length_nil];omega)) ?_;intro h9 tk9 c9 F9 N9;(try k_sweep))|((with_reducible show wpAny _ _ (call (Value.builtin "list.pop") _) _ _ _);refine pop_ok (by k_asm) (by k_asm) (by first|k_upd|fail) (by omega) ?_;intro h9 F9 N9;(try k_sweep))|((with_reducible show wpAny _ _ (setItem (Value.ref _) _ _) _ _ _);(try subst_vars);refine set_D (by k_asm) (by k_asm) (fun o9=>by first|k_upd|fail) (by assumption) (by omega) ?_;intro h9 o9 F9 N9 hd9;(try k_sweep))|((with_reducible show wpAny _ _ (call (Value.builtin "isinstance") [_,Value.type "str"]) _ _ _);refine isi_str (by k_in) (by k_asm) (by assumption) (by ((repeat' (first|with_reducible exact fun _ h=>h|with_reducible exact List.forall_mem_nil _|(with_reducible refine sub_cons ?_ ?_)|(with_reducible refine sub_app ?_ ?_)|(with_reducible refine sub_append ?_ ?_)|(intro q9 hq9;first|k_mem|(replace hq9:=hs _ hq9;k_mem))|k_mem));first|done|fail "left")) (by assumption) (fun x9 t9 tk9 ed9 ev9=>?_) (fun hn9 tk9=>?_))|((with_reducible show wpAny _ _ (subscriptTail _ _ (Value.ref _) (Value.int _ _)) _ _ _);first|(refine item_litK (News.isList (by k_asm) (by k_mem)) (by decide) (by decide) (by exact rfl) ?_ (by with_unfolding_all rfl))|(refine item_tupleT (News.isTup (by k_asm) (by k_mem)) (by decide) (by decide) (by exact rfl) (by exact rfl) ?_ (by with_unfolding_all rfl)))|walk1|(dsimp only;walk1)|(leave1;(try dsimp only))|fail "no step")
    (show LeaveK _ _ _ _ _ _ _;refine leaveK_ (by k_asm) (by k_asm) ?_;intro kF kN)
    refine hQ _ _ _ _ kF (news_sub (l':=(B9,listOf us9.toArray c9)::data) kN (by ((repeat' (first|with_reducible exact fun _ h=>h|with_reducible exact List.forall_mem_nil _|(with_reducible refine sub_cons ?_ ?_)|(with_reducible refine sub_app ?_ ?_)|(with_reducible refine sub_append ?_ ?_)|(intro q9 hq9;first|k_mem|(replace hq9:=hs _ hq9;k_mem))|k_mem));first|done|fail "left"))) ⟨_,_,_,rfl,?_,rfl,?_⟩
    · rw [← heq];assumption
    · exact fun p hp=>l9 p (.tail _ (.tail _ hp))
  · obtain ⟨es,e,rfl,hes,he⟩:=hds.snoc
    simp only [List.length_append,List.length_cons,List.length_nil] at hvl
    rw [okDs_app] at hoks
    rw [szDs_app] at hszs
    rw [List.reverse_append] at heq
    simp only [okDs,szDs,List.reverse_cons,List.reverse_nil,List.nil_append,List.singleton_append,dns,Bool.and_true,Nat.add_zero,Bool.and_eq_true] at hoks hszs heq
    have hl6:vs'.length≤szDs es:=by have:=hes.length;have:=len_sz es;omega
    repeat' ((fail_if_success (with_reducible show wpAny _ _ (exec (Stmt.While _ _ _ _) _) _ _ _));(fail_if_success (with_reducible show wpAny _ _ (pyIter _) _ _ _));first|(k_unfold;(try dsimp only))|(k_end;wrow_close)|((with_reducible show wpAny _ _ (call (Value.builtin "len") [Value.ref _]) _ _ _);first|refine PyProof.Rows.len_list (News.isList (by k_asm) (by k_mem)) (by (simp only [List.size_toArray,List.length_append,List.length_cons,List.length_nil];omega)) ?_|refine PyProof.Rows.len_tuple (News.isTup (by k_asm) (by k_mem)) (by (simp only [List.size_toArray,List.length_append,List.length_cons,List.length_nil];omega)) ?_);(try simp only [List.size_toArray,List.length_append,List.length_cons,List.length_nil])|((with_reducible show wpAny _ _ (call (Value.type "list") [Value.ref _]) _ _ _);refine list_keys (by assumption) (by k_asm) (by k_asm) (by k_mem) (by assumption) (by assumption) (by omega) ?_;intro B9 c9 h9 tk9 us9 hu9 F9 N9 l9;(try k_sweep))|((with_reducible show wpAny _ _ (call (Value.type "reversed") _) _ _ _);refine rev_new (by k_asm) (by k_asm) (by k_mem) (by (simp only [List.size_toArray];omega)) ?_;intro D9 h9 tk9 F9 N9 l9;(try k_sweep);(try simp only [List.size_toArray] at N9))|((with_reducible show wpAny _ _ (call (Value.builtin "list.extend") _) _ _ _);refine ext_revN (by assumption) (by k_asm) (by k_asm) (by assumption) (fun c9=>by first|k_upd|fail) (by k_mem) (by first|omega|(simp only [List.length_cons,List.length_nil];omega)) ?_;intro h9 tk9 c9 F9 N9;(try k_sweep))|((with_reducible show wpAny _ _ (call (Value.builtin "list.pop") _) _ _ _);refine pop_ok (by k_asm) (by k_asm) (by first|k_upd|fail) (by omega) ?_;intro h9 F9 N9;(try k_sweep))|((with_reducible show wpAny _ _ (setItem (Value.ref _) _ _) _ _ _);(try subst_vars);refine set_D (by k_asm) (by k_asm) (fun o9=>by first|k_upd|fail) (by assumption) (by omega) ?_;intro h9 o9 F9 N9 hd9;(try k_sweep))|((with_reducible show wpAny _ _ (call (Value.builtin "isinstance") [_,Value.type "str"]) _ _ _);refine isi_str (by k_in) (by k_asm) (by assumption) (by ((repeat' (first|with_reducible exact fun _ h=>h|with_reducible exact List.forall_mem_nil _|(with_reducible refine sub_cons ?_ ?_)|(with_reducible refine sub_app ?_ ?_)|(with_reducible refine sub_append ?_ ?_)|(intro q9 hq9;first|k_mem|(replace hq9:=hs _ hq9;k_mem))|k_mem));first|done|fail "left")) (by assumption) (fun x9 t9 tk9 ed9 ev9=>?_) (fun hn9 tk9=>?_))|((with_reducible show wpAny _ _ (subscriptTail _ _ (Value.ref _) (Value.int _ _)) _ _ _);first|(refine item_litK (News.isList (by k_asm) (by k_mem)) (by decide) (by decide) (by exact rfl) ?_ (by with_unfolding_all rfl))|(refine item_tupleT (News.isTup (by k_asm) (by k_mem)) (by decide) (by decide) (by exact rfl) (by exact rfl) ?_ (by with_unfolding_all rfl)))|walk1|(dsimp only;walk1)|(leave1;(try dsimp only))|fail "no step")
    all_goals first|(exfalso;omega)|skip
    refine isi_tup (by k_in) (by k_asm) he (by ((repeat' (first|with_reducible exact fun _ h=>h|with_reducible exact List.forall_mem_nil _|(with_reducible refine sub_cons ?_ ?_)|(with_reducible refine sub_app ?_ ?_)|(with_reducible refine sub_append ?_ ?_)|(intro q9 hq9;first|k_mem|(replace hq9:=hs _ hq9;k_mem))|k_mem));first|done|fail "left")) hoks.2 (fun a4 vs4 n4 ds4 tk4 ed ev hm4 r=>?_) fun hn4 tk4=>?_
    · subst ed ev
      have hl4:=r.length
      have hl5:=len_sz ds4
      simp only [szD,dn,okD,Bool.and_eq_true] at hszs heq hoks
      by_cases h4:ds4.length=4
      · have hokc:=hoks.2.2
        have hoke:=hoks.1
        obtain ⟨x0,t0,e1,e2,e3,v1,v2,v3,r1,r2,r3,rfl,rfl⟩:=all4 r h4 hoks.2.1
        have hok2:okD e2=true:=by
          simp only [okDs,Bool.and_eq_true] at hokc
          exact hokc.2.2.1
        repeat' ((fail_if_success (with_reducible show wpAny _ _ (exec (Stmt.While _ _ _ _) _) _ _ _));(fail_if_success (with_reducible show wpAny _ _ (pyIter _) _ _ _));first|(k_unfold;(try dsimp only))|(k_end;wrow_close)|((with_reducible show wpAny _ _ (call (Value.builtin "len") [Value.ref _]) _ _ _);first|refine PyProof.Rows.len_list (News.isList (by k_asm) (by k_mem)) (by (simp only [List.size_toArray,List.length_append,List.length_cons,List.length_nil];omega)) ?_|refine PyProof.Rows.len_tuple (News.isTup (by k_asm) (by k_mem)) (by (simp only [List.size_toArray,List.length_append,List.length_cons,List.length_nil];omega)) ?_);(try simp only [List.size_toArray,List.length_append,List.length_cons,List.length_nil])|((with_reducible show wpAny _ _ (call (Value.type "list") [Value.ref _]) _ _ _);refine list_keys (by assumption) (by k_asm) (by k_asm) (by k_mem) (by assumption) (by assumption) (by omega) ?_;intro B9 c9 h9 tk9 us9 hu9 F9 N9 l9;(try k_sweep))|((with_reducible show wpAny _ _ (call (Value.type "reversed") _) _ _ _);refine rev_new (by k_asm) (by k_asm) (by k_mem) (by (simp only [List.size_toArray];omega)) ?_;intro D9 h9 tk9 F9 N9 l9;(try k_sweep);(try simp only [List.size_toArray] at N9))|((with_reducible show wpAny _ _ (call (Value.builtin "list.extend") _) _ _ _);refine ext_revN (by assumption) (by k_asm) (by k_asm) (by assumption) (fun c9=>by first|k_upd|fail) (by k_mem) (by first|omega|(simp only [List.length_cons,List.length_nil];omega)) ?_;intro h9 tk9 c9 F9 N9;(try k_sweep))|((with_reducible show wpAny _ _ (call (Value.builtin "list.pop") _) _ _ _);refine pop_ok (by k_asm) (by k_asm) (by first|k_upd|fail) (by omega) ?_;intro h9 F9 N9;(try k_sweep))|((with_reducible show wpAny _ _ (setItem (Value.ref _) _ _) _ _ _);(try subst_vars);refine set_D (by k_asm) (by k_asm) (fun o9=>by first|k_upd|fail) (by assumption) (by omega) ?_;intro h9 o9 F9 N9 hd9;(try k_sweep))|((with_reducible show wpAny _ _ (call (Value.builtin "isinstance") [_,Value.type "str"]) _ _ _);refine isi_str (by k_in) (by k_asm) (by assumption) (by ((repeat' (first|with_reducible exact fun _ h=>h|with_reducible exact List.forall_mem_nil _|(with_reducible refine sub_cons ?_ ?_)|(with_reducible refine sub_app ?_ ?_)|(with_reducible refine sub_append ?_ ?_)|(intro q9 hq9;first|k_mem|(replace hq9:=hs _ hq9;k_mem))|k_mem));first|done|fail "left")) (by assumption) (fun x9 t9 tk9 ed9 ev9=>?_) (fun hn9 tk9=>?_))|((with_reducible show wpAny _ _ (subscriptTail _ _ (Value.ref _) (Value.int _ _)) _ _ _);first|(refine item_litK (News.isList (by k_asm) (by k_mem)) (by decide) (by decide) (by exact rfl) ?_ (by with_unfolding_all rfl))|(refine item_tupleT (News.isTup (by k_asm) (by k_mem)) (by decide) (by decide) (by exact rfl) (by exact rfl) ?_ (by with_unfolding_all rfl)))|walk1|(dsimp only;walk1)|(leave1;(try dsimp only))|fail "no step")
        all_goals first|(exfalso;omega)|skip
        · refine ⟨_,_,_,_,_,rfl,by assumption,by assumption,?_,nmj_next (ds4:=[_,_,_,_]) hes (.cons (.str _ _) (.cons r1 (.cons (.str _ _) (.cons r3 .nil)))) hoke hokc (by omega) (by assumption) ((keys_stored _ _ _).trans (hit_yes (by assumption)).symm) heq rfl rfl⟩
          omega
        · refine ⟨_,_,_,_,_,rfl,by assumption,by assumption,?_,nmj_next (ds4:=[_,_,_,_]) hes (.cons (.str _ _) (.cons r1 (.cons r2 (.cons r3 .nil)))) hoke hokc (by omega) hdict (hit_no (by assumption)).symm heq rfl rfl⟩
          omega
        · refine ⟨_,_,_,_,_,rfl,by assumption,by assumption,?_,nmj_next (ds4:=[_,_,_,_]) hes (.cons (.str _ _) (.cons r1 (.cons r2 (.cons r3 .nil)))) hoke hokc (by omega) hdict (hit_ne (by simp_all)).symm heq rfl rfl⟩
          omega
      · have h4':vs4.length≠4:=by omega
        repeat' ((fail_if_success (with_reducible show wpAny _ _ (exec (Stmt.While _ _ _ _) _) _ _ _));(fail_if_success (with_reducible show wpAny _ _ (pyIter _) _ _ _));first|(k_unfold;(try dsimp only))|(k_end;wrow_close)|((with_reducible show wpAny _ _ (call (Value.builtin "len") [Value.ref _]) _ _ _);first|refine PyProof.Rows.len_list (News.isList (by k_asm) (by k_mem)) (by (simp only [List.size_toArray,List.length_append,List.length_cons,List.length_nil];omega)) ?_|refine PyProof.Rows.len_tuple (News.isTup (by k_asm) (by k_mem)) (by (simp only [List.size_toArray,List.length_append,List.length_cons,List.length_nil];omega)) ?_);(try simp only [List.size_toArray,List.length_append,List.length_cons,List.length_nil])|((with_reducible show wpAny _ _ (call (Value.type "list") [Value.ref _]) _ _ _);refine list_keys (by assumption) (by k_asm) (by k_asm) (by k_mem) (by assumption) (by assumption) (by omega) ?_;intro B9 c9 h9 tk9 us9 hu9 F9 N9 l9;(try k_sweep))|((with_reducible show wpAny _ _ (call (Value.type "reversed") _) _ _ _);refine rev_new (by k_asm) (by k_asm) (by k_mem) (by (simp only [List.size_toArray];omega)) ?_;intro D9 h9 tk9 F9 N9 l9;(try k_sweep);(try simp only [List.size_toArray] at N9))|((with_reducible show wpAny _ _ (call (Value.builtin "list.extend") _) _ _ _);refine ext_revN (by assumption) (by k_asm) (by k_asm) (by assumption) (fun c9=>by first|k_upd|fail) (by k_mem) (by first|omega|(simp only [List.length_cons,List.length_nil];omega)) ?_;intro h9 tk9 c9 F9 N9;(try k_sweep))|((with_reducible show wpAny _ _ (call (Value.builtin "list.pop") _) _ _ _);refine pop_ok (by k_asm) (by k_asm) (by first|k_upd|fail) (by omega) ?_;intro h9 F9 N9;(try k_sweep))|((with_reducible show wpAny _ _ (setItem (Value.ref _) _ _) _ _ _);(try subst_vars);refine set_D (by k_asm) (by k_asm) (fun o9=>by first|k_upd|fail) (by assumption) (by omega) ?_;intro h9 o9 F9 N9 hd9;(try k_sweep))|((with_reducible show wpAny _ _ (call (Value.builtin "isinstance") [_,Value.type "str"]) _ _ _);refine isi_str (by k_in) (by k_asm) (by assumption) (by ((repeat' (first|with_reducible exact fun _ h=>h|with_reducible exact List.forall_mem_nil _|(with_reducible refine sub_cons ?_ ?_)|(with_reducible refine sub_app ?_ ?_)|(with_reducible refine sub_append ?_ ?_)|(intro q9 hq9;first|k_mem|(replace hq9:=hs _ hq9;k_mem))|k_mem));first|done|fail "left")) (by assumption) (fun x9 t9 tk9 ed9 ev9=>?_) (fun hn9 tk9=>?_))|((with_reducible show wpAny _ _ (subscriptTail _ _ (Value.ref _) (Value.int _ _)) _ _ _);first|(refine item_litK (News.isList (by k_asm) (by k_mem)) (by decide) (by decide) (by exact rfl) ?_ (by with_unfolding_all rfl))|(refine item_tupleT (News.isTup (by k_asm) (by k_mem)) (by decide) (by decide) (by exact rfl) (by exact rfl) ?_ (by with_unfolding_all rfl)))|walk1|(dsimp only;walk1)|(leave1;(try dsimp only))|fail "no step")
        all_goals first|(exfalso;omega)|skip
        refine ⟨_,_,_,_,_,rfl,by assumption,by assumption,?_,nmj_next hes r hoks.1 hoks.2.2 (by omega) hdict (hit_len4 h4).symm heq rfl rfl⟩
        omega
    · repeat' ((fail_if_success (with_reducible show wpAny _ _ (exec (Stmt.While _ _ _ _) _) _ _ _));(fail_if_success (with_reducible show wpAny _ _ (pyIter _) _ _ _));first|(k_unfold;(try dsimp only))|(k_end;wrow_close)|((with_reducible show wpAny _ _ (call (Value.builtin "len") [Value.ref _]) _ _ _);first|refine PyProof.Rows.len_list (News.isList (by k_asm) (by k_mem)) (by (simp only [List.size_toArray,List.length_append,List.length_cons,List.length_nil];omega)) ?_|refine PyProof.Rows.len_tuple (News.isTup (by k_asm) (by k_mem)) (by (simp only [List.size_toArray,List.length_append,List.length_cons,List.length_nil];omega)) ?_);(try simp only [List.size_toArray,List.length_append,List.length_cons,List.length_nil])|((with_reducible show wpAny _ _ (call (Value.type "list") [Value.ref _]) _ _ _);refine list_keys (by assumption) (by k_asm) (by k_asm) (by k_mem) (by assumption) (by assumption) (by omega) ?_;intro B9 c9 h9 tk9 us9 hu9 F9 N9 l9;(try k_sweep))|((with_reducible show wpAny _ _ (call (Value.type "reversed") _) _ _ _);refine rev_new (by k_asm) (by k_asm) (by k_mem) (by (simp only [List.size_toArray];omega)) ?_;intro D9 h9 tk9 F9 N9 l9;(try k_sweep);(try simp only [List.size_toArray] at N9))|((with_reducible show wpAny _ _ (call (Value.builtin "list.extend") _) _ _ _);refine ext_revN (by assumption) (by k_asm) (by k_asm) (by assumption) (fun c9=>by first|k_upd|fail) (by k_mem) (by first|omega|(simp only [List.length_cons,List.length_nil];omega)) ?_;intro h9 tk9 c9 F9 N9;(try k_sweep))|((with_reducible show wpAny _ _ (call (Value.builtin "list.pop") _) _ _ _);refine pop_ok (by k_asm) (by k_asm) (by first|k_upd|fail) (by omega) ?_;intro h9 F9 N9;(try k_sweep))|((with_reducible show wpAny _ _ (setItem (Value.ref _) _ _) _ _ _);(try subst_vars);refine set_D (by k_asm) (by k_asm) (fun o9=>by first|k_upd|fail) (by assumption) (by omega) ?_;intro h9 o9 F9 N9 hd9;(try k_sweep))|((with_reducible show wpAny _ _ (call (Value.builtin "isinstance") [_,Value.type "str"]) _ _ _);refine isi_str (by k_in) (by k_asm) (by assumption) (by ((repeat' (first|with_reducible exact fun _ h=>h|with_reducible exact List.forall_mem_nil _|(with_reducible refine sub_cons ?_ ?_)|(with_reducible refine sub_app ?_ ?_)|(with_reducible refine sub_append ?_ ?_)|(intro q9 hq9;first|k_mem|(replace hq9:=hs _ hq9;k_mem))|k_mem));first|done|fail "left")) (by assumption) (fun x9 t9 tk9 ed9 ev9=>?_) (fun hn9 tk9=>?_))|((with_reducible show wpAny _ _ (subscriptTail _ _ (Value.ref _) (Value.int _ _)) _ _ _);first|(refine item_litK (News.isList (by k_asm) (by k_mem)) (by decide) (by decide) (by exact rfl) ?_ (by with_unfolding_all rfl))|(refine item_tupleT (News.isTup (by k_asm) (by k_mem)) (by decide) (by decide) (by exact rfl) (by exact rfl) ?_ (by with_unfolding_all rfl)))|walk1|(dsimp only;walk1)|(leave1;(try dsimp only))|fail "no step")
      all_goals first|(exfalso;omega)|skip
      obtain ⟨e1,e2⟩:=dn_not (acc:=kvs.map (·.1)) hn4
      rw [e1] at heq
      rw [e2] at hszs
      refine ⟨_,_,_,_,_,rfl,by assumption,by assumption,?_,nmj_same hes hoks.1 (by omega) hdict heq rfl rfl⟩
      omega
  case hE=>(dsimp only [ek];passes_own)
end
section
theorem open_ok {prog:Program} {w:World} {A A₀:Around} {env:Env} {outer:List Env} {base h₀:Heap} {L l:Addr} {p:Program} {loose:List Str} {mean:ExcName→Option Value} {mg mb:Str→Option Value} {m:Str→Option Value} {s:Shared} {Q E:Value→Shared→Prop} {vs:List Value} {ns:List Int} {news:Led}
    (C:Env0 w A A₀ env outer base h₀ L 4 200 p loose mean mg mb) (F:Fr h₀ L s.heap m) (N:News h₀ L s.heap news) (hl:h₀.IsList l vs.toArray) (hi:IntsAre vs ns) (hlen:ns.length≤63)
    (hQ:∀ hd dg k tk n1 n2 us ds h' tk',Fr h₀ L h' m→News h₀ L h' ((hd,handO dg k tk n1)::(dg,listOf (List.toArray us) n2)::news)→IntsAre us ds→ds.length≤63→0≤k→dg≠hd→(∀ p∈news,p.1<dg∧p.1<hd)→Q (.ref hd) { s with heap:=h',toks:=tk' }) :
    wpAny (model prog w) A (call (.ref (nat_lit 1338)) [.ref l]) Q E s:=by
  have hlen':=hi.length
  obtain ⟨B,X,T,hA,hf,hk,hh,hd',hu⟩:=C
  refine wpAny_call ?_
  (refine' code_def (binds:=[(Str.ofString "script",.ref l)]) B F X N T hA hf hk (by k_is) (by k_is) (by exact room0 hd') (by exact BindsTo.of_eq rfl) (by exact locs rfl) ?_ (by exact rfl) (by exact rfl) (by exact rfl) (by decide);k_whole;intro g' L' h' FG' F' N' B' X' T';clear F N B X T;(conv=>pattern (fBody _);whnf);(conv=>pattern (occs:=*) (fScope _);all_goals whnf);dsimp only [List.reverse,List.reverseAux,List.length] at F' ⊢;k_fold)
  have hl':g'.IsList l vs.toArray:=stays_list FG'.keep hl
  repeat' ((fail_if_success (with_reducible show wpAny _ _ (exec (Stmt.While _ _ _ _) _) _ _ _));(fail_if_success (with_reducible show wpAny _ _ (pyIter _) _ _ _));first|(k_unfold;(try dsimp only))|(k_end;wrow_close)|((with_reducible show wpAny _ _ (exec (Stmt.For (PySem.Expr.Name _ _) _ _ [] _) _) _ _ _);(with_reducible rename Fr _ _ _ _=>kF9);refine For_invVF kF9 (by rfl) (by rfl) ?_ (by intro _;with_unfolding_all rfl) (by first|passes_own|(dsimp only [ek];passes_own)))|((with_reducible show wpAny _ _ (call (Value.builtin "list.append") _) _ _ _);refine' append_K ?k1 ?k2 ?k3 ?_ ?z;(case k1=>k_asm);(case k2=>k_asm);(case k3=>k_upd);(case z=>((try simp only [List.size_toArray]);rw [sizeLine_eq];omega));intro h' F' N';(try k_sweep))|((with_reducible show wpAny _ _ (call (Value.builtin "len") [Value.ref _]) _ _ _);refine PyProof.Rows.len_list (News.isList (by k_asm) (by k_mem)) (by (simp only [List.size_toArray];omega)) ?_)|((with_reducible show wpAny _ _ (subscriptTail _ _ (Value.ref _) (Value.int _ _)) _ _ _);first|(refine item_litK (News.isList (by k_asm) (by k_mem)) (by decide) (by decide) (by exact rfl) ?_ (by with_unfolding_all rfl))|(refine item_tupleT (News.isTup (by k_asm) (by k_mem)) (by decide) (by decide) (by exact rfl) (by exact rfl) ?_ (by with_unfolding_all rfl)))|walk1|(dsimp only;walk1)|(leave1;(try dsimp only))|fail "no step")
  rename_i l1 h5 ll h2 D1 ws1 h3 F1 N1 h0 hI1 hC1 hL1
  have hDl:D1≠l1:=fun e=>Nat.lt_irrefl D1 (by have:=h0 _ (.head _);rw [e] at this ⊢;exact this)
  have hnl:∀ p∈news,p.1≠l1:=fun p hp e=>Nat.lt_irrefl _ (e ▸ ll p hp)
  have hwl:ws1.length≤63:=by have:=hI1.length;omega
  refine kdl_iter (fun i m nx=>∃ us ds n2,nx=(D1,listOf ws1.toArray 0)::(l1,listOf (List.toArray us) n2)::news∧IntsAre us ds∧ds.length=i∧m (Str.ofString "digits")=some (.ref l1)) hh (.head _) F1 N1 ⟨[],[],0,rfl,.nil,rfl,rfl⟩ ?_ ?_
  · rintro i v m₁ nx h4 tk4 own hv hoff _ ⟨us,ds,n2,rfl,hus,rfl,hm1⟩ F9 N9
    have hlt:ds.length<ws1.length:=(List.getElem?_eq_some_iff.mp hv).1
    obtain ⟨t,hx⟩:=hI1.get ds.length ((List.take 70 ns)[ds.length]'(by rw [← hI1.length];exact hlt)) (List.getElem?_eq_getElem _)
    generalize (List.take 70 ns)[ds.length]'(by rw [← hI1.length];exact hlt)=c at hx
    have ev:v=.int c t:=by rw [hx] at hv;exact (Option.some.inj hv).symm
    subst ev
    have hol:∀ p∈own,p.1≠l1:=fun p hp=>hoff p hp l1 (by simp)
    have hul:=hus.length
    have F:=fr_name (x:=Str.ofString "digits") F9 ((if_neg (by decide)).trans hm1)
    have F2:=fr_name (x:=Str.ofString "cell") F rfl
    clear F9 F
    repeat' ((fail_if_success (with_reducible show wpAny _ _ (exec (Stmt.While _ _ _ _) _) _ _ _));(fail_if_success (with_reducible show wpAny _ _ (pyIter _) _ _ _));first|(k_unfold;(try dsimp only))|(k_end;wrow_close)|((with_reducible show wpAny _ _ (exec (Stmt.For (PySem.Expr.Name _ _) _ _ [] _) _) _ _ _);(with_reducible rename Fr _ _ _ _=>kF9);refine For_invVF kF9 (by rfl) (by rfl) ?_ (by intro _;with_unfolding_all rfl) (by first|passes_own|(dsimp only [ek];passes_own)))|((with_reducible show wpAny _ _ (call (Value.builtin "list.append") _) _ _ _);refine' append_K ?k1 ?k2 ?k3 ?_ ?z;(case k1=>k_asm);(case k2=>k_asm);(case k3=>k_upd);(case z=>((try simp only [List.size_toArray]);rw [sizeLine_eq];omega));intro h' F' N';(try k_sweep))|((with_reducible show wpAny _ _ (call (Value.builtin "len") [Value.ref _]) _ _ _);refine PyProof.Rows.len_list (News.isList (by k_asm) (by k_mem)) (by (simp only [List.size_toArray];omega)) ?_)|((with_reducible show wpAny _ _ (subscriptTail _ _ (Value.ref _) (Value.int _ _)) _ _ _);first|(refine item_litK (News.isList (by k_asm) (by k_mem)) (by decide) (by decide) (by exact rfl) ?_ (by with_unfolding_all rfl))|(refine item_tupleT (News.isTup (by k_asm) (by k_mem)) (by decide) (by decide) (by exact rfl) (by exact rfl) ?_ (by with_unfolding_all rfl)))|walk1|(dsimp only;walk1)|(leave1;(try dsimp only))|fail "no step")
    all_goals
      (with_reducible rename News _ _ _ _=>N5)
      (with_reducible rename Fr _ _ _ _=>F5)
      (try simp only [List.push_toArray] at N5)
      exact InvEndG.intro F5 N5 ⟨.head _,_,_,_,rfl,hus.append (.cons _ _ .nil),by simp,rfl⟩ hoff (fun p hp=>List.mem_append_left own hp) (fun p hp=>.tail _ (.tail _ (List.mem_append_right _ hp)))
  · rintro m₁ nx h4 tk4 ⟨us,ds,n2,rfl,hus,hl3,hm1⟩ F9 N9
    have F:=fr_name (x:=Str.ofString "digits") F9 hm1
    clear F9
    repeat' ((fail_if_success (with_reducible show wpAny _ _ (exec (Stmt.While _ _ _ _) _) _ _ _));(fail_if_success (with_reducible show wpAny _ _ (pyIter _) _ _ _));first|(k_unfold;(try dsimp only))|(k_end;wrow_close)|((with_reducible show wpAny _ _ (exec (Stmt.For (PySem.Expr.Name _ _) _ _ [] _) _) _ _ _);(with_reducible rename Fr _ _ _ _=>kF9);refine For_invVF kF9 (by rfl) (by rfl) ?_ (by intro _;with_unfolding_all rfl) (by first|passes_own|(dsimp only [ek];passes_own)))|((with_reducible show wpAny _ _ (call (Value.builtin "list.append") _) _ _ _);refine' append_K ?k1 ?k2 ?k3 ?_ ?z;(case k1=>k_asm);(case k2=>k_asm);(case k3=>k_upd);(case z=>((try simp only [List.size_toArray]);rw [sizeLine_eq];omega));intro h' F' N';(try k_sweep))|((with_reducible show wpAny _ _ (call (Value.builtin "len") [Value.ref _]) _ _ _);refine PyProof.Rows.len_list (News.isList (by k_asm) (by k_mem)) (by (simp only [List.size_toArray];omega)) ?_)|((with_reducible show wpAny _ _ (subscriptTail _ _ (Value.ref _) (Value.int _ _)) _ _ _);first|(refine item_litK (News.isList (by k_asm) (by k_mem)) (by decide) (by decide) (by exact rfl) ?_ (by with_unfolding_all rfl))|(refine item_tupleT (News.isTup (by k_asm) (by k_mem)) (by decide) (by decide) (by exact rfl) (by exact rfl) ?_ (by with_unfolding_all rfl)))|walk1|(dsimp only;walk1)|(leave1;(try dsimp only))|fail "no step")
    (show LeaveK _ _ _ _ _ _ _;refine leaveK_ (by k_asm) (by k_asm) ?_;intro kF kN)
    rename_i hd1 h6 F6 N6 hh0
    refine hQ _ l1 0 tk4 0 n2 us ds _ _ kF (news_sub kN (by ((repeat' (first|with_reducible exact fun _ h=>h|with_reducible exact List.forall_mem_nil _|(with_reducible refine sub_cons ?_ ?_)|(with_reducible refine sub_app ?_ ?_)|(with_reducible refine sub_append ?_ ?_)|(intro q9 hq9;first|k_mem|(replace hq9:=hs _ hq9;k_mem))|k_mem));first|done|fail "left"))) hus ?_ (Int.le_refl _) ?_ ?_
    · have:=hI1.length;omega
    · exact fun e=>Nat.lt_irrefl l1 (by have:=hh0 _ (.tail _ (.head _));rw [← e] at this;exact this)
    · exact fun p hp=>⟨ll p hp,hh0 p (.tail _ (.tail _ hp))⟩
end
section
noncomputable abbrev desOk (es:List DictEntry):Prop:=(∃ t,getL (Str.ofString "nesting") es=some (some (.int 0 t)))∧es.length≤100
theorem isStr_ne {v:Value} {x y:Str} (h:v.isStr x=true) (hn:y≠x):v.isStr y=false:=by
  cases v with
  | str s t =>
    have e:s=x:=eq_of_beq h
    show (s == y)=false
    rw [e]
    exact beq_eq_false_iff_ne.mpr (Ne.symm hn)
  | _=>cases h
theorem putL_any {name:Str} {hs:Int} {key v:Value}:∀ {es:List DictEntry},es.any (·.key.isStr name)=true→(putL name hs key v es).length=es.length∧(putL name hs key v es).any (·.refKey)=es.any (·.refKey)∧(putL name hs key v es).find? (·.key.isStr name)=(es.find? (·.key.isStr name)).map (fun e=>⟨e.hash,e.key,v⟩)∧∀ y,y≠name→(putL name hs key v es).find? (·.key.isStr y)=es.find? (·.key.isStr y)
  | [],h=>by cases h
  | e::r,h=>by
    unfold putL
    by_cases he:e.key.isStr name=true
    · rw [if_pos he]
      refine ⟨rfl,rfl,?_,fun y hy=>?_⟩
      · simp [he]
      · simp [isStr_ne he hy]
    · rw [if_neg he]
      rw [Bool.not_eq_true] at he
      rw [List.any_cons,he,Bool.false_or] at h
      obtain ⟨a,b,c,d⟩:=putL_any (hs:=hs) (key:=key) (v:=v) h
      refine ⟨by simp [a],by simp [b],?_,fun y hy=>?_⟩
      · simp [he,c]
      · rw [List.find?_cons,List.find?_cons,d y hy]
theorem getL_any {name:Str} {es:List DictEntry} {v:Value} (h:getL name es=some (some v)):es.any (·.key.isStr name)=true:=by
  unfold getL at h
  cases hf:es.find? (·.key.isStr name) with
  | some e=>exact List.any_eq_true.mpr ⟨e,List.mem_of_find?_eq_some hf,(by simpa using List.find?_some hf)⟩
  | none=>rw [hf] at h;dsimp only at h;split at h <;> cases h
theorem putL_get {name:Str} {hs:Int} {key v v0:Value} {es:List DictEntry} (h:getL name es=some (some v0)):getL name (putL name hs key v es)=some (some v)∧(∀ y,y≠name→getL y (putL name hs key v es)=getL y es)∧(putL name hs key v es).length=es.length∧∀ n,putN name es n=n:=by
  have ha:=getL_any h
  obtain ⟨a,b,c,d⟩:=putL_any (hs:=hs) (key:=key) (v:=v) ha
  refine ⟨?_,fun y hy=>?_,a,fun n=>if_pos ha⟩
  · unfold getL
    rw [c]
    cases hf:es.find? (·.key.isStr name) with
    | some e=>rfl
    | none=>exact absurd ha (by simpa using hf)
  · unfold getL
    rw [d y hy,b]
section
variable {prog:Program} {w:World} {A:Around} {E:Value→Shared→Prop} {s:Shared} {x C dx L:Addr} {K:Frag} {h₀:Heap} {m:Str→Option Value} {news:Led} {news':List DictEntry→Led} {ox:Obj} {es:List DictEntry} {n:Nat} {name:Str} {v v0:Value}
theorem set_put {Q:Unit→Shared→Prop} (F:Fr h₀ L s.heap m) (X₀:K.In h₀) (N:News h₀ L s.heap news) (I:InstAt s.heap x ox C (some (dictOf es n))) (hd:ox.dict=some dx)
    (hs:findIn K (.ref C) "__setattr__"=some (some (.builtin "object.__setattr__"))) (hp:plainOver K C=true) (ht:takerIn K C name=some none) (hh:hasDictIn K C=true) (hl:getL name es=some (some v0)) (hz:es.length≤100)
    (U:∀ es',Upd dx (dictOf es n) (dictOf es' n) news (news' es'))
    (h:∀ h' es',getL name es'=some (some v)→(∀ y,y≠name→getL y es'=getL y es)→es'.length≤100→Fr h₀ L h' m→News h₀ L h' (news' es')→Q () { s with heap:=h',toks:=s.toks+2 }) :
    wpAny (model prog w) A (setAttr (.ref x) name v) Q E s:=by
  obtain ⟨a,b,c,d⟩:=putL_get (hs:=PyData.keyHash w.params name) (key:=.str name (s.toks+1)) (v:=v) hl
  exact set_dict F X₀ N I hd hs hp ht hh (by rw [hl];rfl) (n':=n) (by rw [d n]) (U _) (by omega) fun h' F' N'=>h h' _ a b (by omega) F' N'
end
noncomputable abbrev TSpec (prog:Program) (w:World) (f:Addr) (vs:List Value) (dp un:Nat) (data:Led) (d:Dat):Prop:=Spec prog w f vs dp un data (fun r news'=>∃ tl,news'=tl++data∧DatIn tl r d∧Tups tl)
noncomputable abbrev vecD (t:Int):Dat:=.tuple [.int 32,.int t,.int 0]
noncomputable abbrev conD (t:Int):Dat:=.tuple [.str (Str.ofString "const"),.int 32,.int t,.int 0]
noncomputable abbrev smallT (t:Int):Prop:=t=0∨t=7∨t=31
noncomputable def NumAt (data:Led) (a b:Addr) (t:Int):Prop:=∃ nv nb t1 t2 t3 t4 t5,(a,tupO #[.str (Str.ofString "num") t1,.int 3 t2,.ref b,.bool true,.bool false] nv)∈data∧(b,tupO #[.int 32 t3,.int t t4,.int 0 t5] nb)∈data
theorem TSpec.use {prog:Program} {w:World} {f:Addr} {vs:List Value} {dp un:Nat} {data:Led} {d:Dat} {A A₀:Around} {env:Env} {outer:List Env} {base h₀:Heap} {L:Addr} {p:Program} {loose:List Str} {mean:ExcName→Option Value} {mg mb:Str→Option Value} {m:Str→Option Value} {s:Shared} {Q E:Value→Shared→Prop}
    (F:Fr h₀ L s.heap m) (N:News h₀ L s.heap data) (C:Env0 w A A₀ env outer base h₀ L dp un p loose mean mg mb) (h:TSpec prog w f vs dp un data d)
    (hQ:∀ r h' tk' tl,Fr h₀ L h' m→News h₀ L h' (tl++data)→Tups tl→DatIn tl r d→Q r { s with heap:=h',toks:=tk' }):wpAny (model prog w) A (call (.ref f) vs) Q E s :=
  h A A₀ env outer base h₀ L p loose mean mg mb m s Q E C F N fun r h' tk' _ F' N' ⟨tl,e,hd,ht⟩=>hQ r h' tk' tl F' (e ▸ N') ht hd
/-- a tuple that a call hands back,laid open -/
theorem TSpec.lay {prog:Program} {w:World} {f:Addr} {vs:List Value} {dp un:Nat} {data:Led} {A A₀:Around} {env:Env} {outer:List Env} {base h₀:Heap} {L:Addr} {p:Program} {loose:List Str} {mean:ExcName→Option Value} {mg mb:Str→Option Value} {m:Str→Option Value} {s:Shared} {Q E:Value→Shared→Prop} (ps:List (Bool × Dat))
    (F:Fr h₀ L s.heap m) (N:News h₀ L s.heap data) (C:Env0 w A A₀ env outer base h₀ L dp un p loose mean mg mb) (h:TSpec prog w f vs dp un data (.tuple (ps.map (·.2))))
    (hQ:∀ a n h' tk' tl,Fr h₀ L h' m→News h₀ L h' (tl++data)→Tups tl→Lay tl ps fun vs=>(a,tupO vs.toArray n)∈tl→Q (.ref a) { s with heap:=h',toks:=tk' }):wpAny (model prog w) A (call (.ref f) vs) Q E s :=
  TSpec.use F N C h fun r h' tk' tl F' N' ht hd=>tup_lay ps hd fun a n e=>e ▸ hQ a n h' tk' tl F' N' ht
/-- a def that hands back a datum: its end -/
theorem TSpec.end_ {h₀ h:Heap} {L:Addr} {news data:Led} {r:Value} {d:Dat} {m:Str→Option Value} {Q:Value→Shared→Prop} {s:Shared} {tk:Nat}
    (hQ:∀ r h' tk' news',Fr h₀ L h' m→News h₀ L h' news'→(fun r news'=>∃ tl,news'=tl++data∧DatIn tl r d∧Tups tl) r news'→Q r { s with heap:=h',toks:=tk' })
    (F:Fr h₀ L h m) (N:News h₀ L h news) (hdat:DatIn news r d) (nl:noList d=true) (hs:∀ p∈data,p∈news):Q r { s with heap:=h,toks:=tk }:=by
  obtain ⟨tl,a,b,c⟩:=end_dat (M:=[]) N (List.forall_mem_nil _) hdat nl hs
  exact hQ _ _ _ _ F c ⟨tl,rfl,b,a⟩
theorem num_at {data:Led} {v:Value} {t:Int} (hv:DatIn data v (numD t)):∃ a b,v=.ref a∧NumAt data a b t :=
  tup_lay [(false,.str (Str.ofString "num")),(false,.int 3),(true,.tuple [.int 32,.int t,.int 0]),(false,.bool true),(false,.bool false)] hv fun a n e t1 t2 _ hb hm =>
    tup_lay [(false,.int 32),(false,.int t),(false,.int 0)] hb fun b nb e2 t3 t4 t5 hmb=>⟨a,b,e,n,nb,t1,t2,t3,t4,t5,e2 ▸ hm,hmb⟩
theorem num_mono {l l':Led} {a b:Addr} {t:Int} (h:NumAt l a b t) (hs:∀ p∈l,p∈l'):NumAt l' a b t:=by
  obtain ⟨nv,nb,t1,t2,t3,t4,t5,hm,hmb⟩:=h
  exact ⟨nv,nb,t1,t2,t3,t4,t5,hs _ hm,hs _ hmb⟩
theorem mask_ok {prog:Program} {w:World} {t1:Tok} {data:Led}:Spec prog w (nat_lit 143) [.int 32 t1] 1 40 data (fun r news'=>∃ t,r=.int 4294967295 t∧news'=data):=by
  intro A A₀ env outer base h₀ L p loose mean mg mb m s Q E C F N hQ
  obtain ⟨B,X,T,hA,hf,hk,hh,hd',hu⟩:=C
  refine wpAny_call ?_
  (refine' code_def (binds:=[(Str.ofString "w",.int 32 t1)]) B F X N T hA hf hk (by k_is) (by k_is) (by exact room0 hd') (by exact BindsTo.of_eq rfl) (by exact locs rfl) ?_ (by exact rfl) (by exact rfl) (by exact rfl) (by decide);k_whole;intro g' L' h' FG' F' N' B' X' T';clear F N B X T;(conv=>pattern (fBody _);whnf);(conv=>pattern (occs:=*) (fScope _);all_goals whnf);dsimp only [List.reverse,List.reverseAux,List.length] at F' ⊢;k_fold)
  repeat' (first|(k_unfold;(try dsimp only))|(k_end;kc_close)|fail|walk1|(dsimp only;walk1)|(leave1;(try dsimp only))|fail "no step")
  (show LeaveK _ _ _ _ _ _ _;refine leaveK_ (by k_asm) (by k_asm) ?_;intro kF kN)
  exact hQ _ _ _ _ kF kN ⟨_,rfl,rfl⟩
theorem vec_ok {prog:Program} {w:World} {t:Int} {t1 t2 t3:Tok} {data:Led} (ht:smallT t):TSpec prog w (nat_lit 151) [.int 32 t1,.int t t2,.int 0 t3] 3 60 data (vecD t):=by
  intro A A₀ env outer base h₀ L p loose mean mg mb m s Q E C F N hQ
  obtain ⟨B,X,T,hA,hf,hk,hh,hd',hu⟩:=C
  refine wpAny_call ?_
  (refine' code_def (binds:=[(Str.ofString "w",.int 32 t1),(Str.ofString "a",.int t t2),(Str.ofString "b",.int 0 t3)]) B F X N T hA hf hk (by k_is) (by k_is) (by exact room0 hd') (by exact binds_K (by k_in) rfl (by k_is) rfl rfl rfl) (by exact locs rfl) ?_ (by exact rfl) (by exact rfl) (by exact rfl) (by decide);k_whole;intro g' L' h' FG' F' N' B' X' T';clear F N B X T;(conv=>pattern (fBody _);whnf);(conv=>pattern (occs:=*) (fScope _);all_goals whnf);dsimp only [List.reverse,List.reverseAux,List.length] at F' ⊢;k_fold)
  repeat' (first|(k_unfold;(try dsimp only))|(k_end;kc_close)|((with_reducible show wpAny _ _ (call (Value.ref (nat_lit 143)) _) _ _ _);refine mask_ok _ _ _ _ _ _ _ _ _ _ _ _ _ _ _ _ (Env0.deeper (by assumption) (by assumption) (by assumption) (by assumption) (by exact rfl) (by exact rfl) (by assumption) (by first|exact room hd' rfl|omega) (by first|exact room hu rfl|omega)) (by k_asm) (by k_asm) ?_;rintro r9 h9 tk9 news9 F' N' ⟨t9,rfl,rfl⟩;(try k_sweep);(try dsimp only))|walk1|(dsimp only;walk1)|(leave1;(try dsimp only))|fail "no step")
  have e1:Builtin.bitAnd t 4294967295=t:=by rcases ht with rfl|rfl|rfl <;> rfl
  have e2:Builtin.bitAnd 0 4294967295=0:=rfl
  (show LeaveK _ _ _ _ _ _ _;refine leaveK_ (by k_asm) (by k_asm) ?_;intro kF kN)
  rw [e1,e2] at kN
  exact TSpec.end_ hQ kF kN (by ((repeat' (first|assumption|exact DatIn.int _ _|exact DatIn.str _ _|exact DatIn.bool _|exact DatIn.none|exact DatAll.nil|refine DatAll.cons ?_ ?_|(refine DatIn.mono ?_ (by assumption);((repeat' (first|with_reducible exact fun _ h=>h|with_reducible exact List.forall_mem_nil _|(with_reducible refine sub_cons ?_ ?_)|(with_reducible refine sub_app ?_ ?_)|(with_reducible refine sub_append ?_ ?_)|(intro q9 hq9;first|k_mem|(replace hq9:=hs _ hq9;k_mem))|k_mem));first|done|fail "left"))|refine DatIn.tuple (by k_mem) ?_));first|done|fail "left")) rfl (by ((repeat' (first|with_reducible exact fun _ h=>h|with_reducible exact List.forall_mem_nil _|(with_reducible refine sub_cons ?_ ?_)|(with_reducible refine sub_app ?_ ?_)|(with_reducible refine sub_append ?_ ?_)|(intro q9 hq9;first|k_mem|(replace hq9:=hs _ hq9;k_mem))|k_mem));first|done|fail "left"))
theorem extend_ok {prog:Program} {w:World} {t:Int} {b:Addr} {nb:Nat} {t1 t2 t3 t4:Tok} {data:Led} (ht:smallT t) (hm:(b,tupO #[.int 32 t1,.int t t2,.int 0 t3] nb)∈data):TSpec prog w (nat_lit 228) [.ref b,.int 32 t4,.bool true] 4 80 data (vecD t):=by
  intro A A₀ env outer base h₀ L p loose mean mg mb m s Q E C F N hQ
  obtain ⟨B,X,T,hA,hf,hk,hh,hd',hu⟩:=C
  refine wpAny_call ?_
  (refine' code_def (binds:=[(Str.ofString "v",.ref b),(Str.ofString "w",.int 32 t4),(Str.ofString "signed",.bool true)]) B F X N T hA hf hk (by k_is) (by k_is) (by exact room0 hd') (by exact BindsTo.of_eq rfl) (by exact locs rfl) ?_ (by exact rfl) (by exact rfl) (by exact rfl) (by decide);k_whole;intro g' L' h' FG' F' N' B' X' T';clear F N B X T;(conv=>pattern (fBody _);whnf);(conv=>pattern (occs:=*) (fScope _);all_goals whnf);dsimp only [List.reverse,List.reverseAux,List.length] at F' ⊢;k_fold)
  repeat' (first|(k_unfold;(try dsimp only))|(k_end;kc_close)|((with_reducible show wpAny _ _ (call (Value.ref (nat_lit 151)) _) _ _ _);refine TSpec.lay [(false,.int 32),(false,.int _),(false,.int 0)] (by k_asm) (by k_asm) (Env0.deeper (by assumption) (by assumption) (by assumption) (by assumption) (by exact rfl) (by exact rfl) (by assumption) (by first|exact room hd' rfl|omega) (by first|exact room hu rfl|omega)) (vec_ok ht) ?_;intro b9 nb9 h9 tk9 tl9 F' N' ht9 t19 t29 t39 hm9;(try k_sweep);(try dsimp only))|((with_reducible show wpAny _ _ (subscriptTail _ _ (Value.ref _) (Value.int _ _)) _ _ _);first|(refine item_litK (News.isList (by k_asm) (by k_mem)) (by decide) (by decide) (by exact rfl) ?_ (by with_unfolding_all rfl))|(refine item_tupleT (News.isTup (by k_asm) (by k_mem)) (by decide) (by decide) (by exact rfl) (by exact rfl) ?_ (by with_unfolding_all rfl)))|walk1|(dsimp only;walk1)|(leave1;(try dsimp only))|fail "no step")
  (show LeaveK _ _ _ _ _ _ _;refine leaveK_ (by k_asm) (by k_asm) ?_;intro kF kN)
  exact TSpec.end_ hQ kF kN (by ((repeat' (first|assumption|exact DatIn.int _ _|exact DatIn.str _ _|exact DatIn.bool _|exact DatIn.none|exact DatAll.nil|refine DatAll.cons ?_ ?_|(refine DatIn.mono ?_ (by assumption);((repeat' (first|with_reducible exact fun _ h=>h|with_reducible exact List.forall_mem_nil _|(with_reducible refine sub_cons ?_ ?_)|(with_reducible refine sub_app ?_ ?_)|(with_reducible refine sub_append ?_ ?_)|(intro q9 hq9;first|k_mem|(replace hq9:=hs _ hq9;k_mem))|k_mem));first|done|fail "left"))|refine DatIn.tuple (by k_mem) ?_));first|done|fail "left")) rfl (by ((repeat' (first|with_reducible exact fun _ h=>h|with_reducible exact List.forall_mem_nil _|(with_reducible refine sub_cons ?_ ?_)|(with_reducible refine sub_app ?_ ?_)|(with_reducible refine sub_append ?_ ?_)|(intro q9 hq9;first|k_mem|(replace hq9:=hs _ hq9;k_mem))|k_mem));first|done|fail "left"))
theorem expr_type_ok {prog:Program} {w:World} {t:Int} {sc a b:Addr} {data:Led} (hn:NumAt data a b t):TSpec prog w (nat_lit 1123) [.ref sc,.ref a] 2 80 data (.tuple [.int 32,.bool true]):=by
  obtain ⟨nv,nb,t1,t2,t3,t4,t5,hm,hmb⟩:=hn
  intro A A₀ env outer base h₀ L p loose mean mg mb m s Q E C F N hQ
  obtain ⟨B,X,T,hA,hf,hk,hh,hd',hu⟩:=C
  refine wpAny_call ?_
  (refine' code_def (binds:=[(Str.ofString "scope",.ref sc),(Str.ofString "e",.ref a)]) B F X N T hA hf hk (by k_is) (by k_is) (by exact room0 hd') (by exact BindsTo.of_eq rfl) (by exact locs rfl) ?_ (by exact rfl) (by exact rfl) (by exact rfl) (by decide);k_whole;intro g' L' h' FG' F' N' B' X' T';clear F N B X T;(conv=>pattern (fBody _);whnf);(conv=>pattern (occs:=*) (fScope _);all_goals whnf);dsimp only [List.reverse,List.reverseAux,List.length] at F' ⊢;k_fold)
  repeat' (first|(k_unfold;(try dsimp only))|(k_end;kc_close)|((with_reducible show wpAny _ _ (subscriptTail _ _ (Value.ref _) (Value.int _ _)) _ _ _);first|(refine item_litK (News.isList (by k_asm) (by k_mem)) (by decide) (by decide) (by exact rfl) ?_ (by with_unfolding_all rfl))|(refine item_tupleT (News.isTup (by k_asm) (by k_mem)) (by decide) (by decide) (by exact rfl) (by exact rfl) ?_ (by with_unfolding_all rfl)))|walk1|(dsimp only;walk1)|(leave1;(try dsimp only))|fail "no step")
  (show LeaveK _ _ _ _ _ _ _;refine leaveK_ (by k_asm) (by k_asm) ?_;intro kF kN)
  exact TSpec.end_ hQ kF kN (by ((repeat' (first|assumption|exact DatIn.int _ _|exact DatIn.str _ _|exact DatIn.bool _|exact DatIn.none|exact DatAll.nil|refine DatAll.cons ?_ ?_|(refine DatIn.mono ?_ (by assumption);((repeat' (first|with_reducible exact fun _ h=>h|with_reducible exact List.forall_mem_nil _|(with_reducible refine sub_cons ?_ ?_)|(with_reducible refine sub_app ?_ ?_)|(with_reducible refine sub_append ?_ ?_)|(intro q9 hq9;first|k_mem|(replace hq9:=hs _ hq9;k_mem))|k_mem));first|done|fail "left"))|refine DatIn.tuple (by k_mem) ?_));first|done|fail "left")) rfl (by ((repeat' (first|with_reducible exact fun _ h=>h|with_reducible exact List.forall_mem_nil _|(with_reducible refine sub_cons ?_ ?_)|(with_reducible refine sub_app ?_ ?_)|(with_reducible refine sub_append ?_ ?_)|(intro q9 hq9;first|k_mem|(replace hq9:=hs _ hq9;k_mem))|k_mem));first|done|fail "left"))
theorem number_ok {prog:Program} {w:World} {t:Int} {a b:Addr} {t0:Tok} {data:Led} (ht:smallT t) (hn:NumAt data a b t):TSpec prog w (nat_lit 983) [.ref a,.int 32 t0,.bool true] 5 100 data (conD t):=by
  obtain ⟨nv,nb,t1,t2,t3,t4,t5,hm,hmb⟩:=hn
  intro A A₀ env outer base h₀ L p loose mean mg mb m s Q E C F N hQ
  obtain ⟨B,X,T,hA,hf,hk,hh,hd',hu⟩:=C
  refine wpAny_call ?_
  (refine' code_def (binds:=[(Str.ofString "e",.ref a),(Str.ofString "w",.int 32 t0),(Str.ofString "signed",.bool true)]) B F X N T hA hf hk (by k_is) (by k_is) (by exact room0 hd') (by exact BindsTo.of_eq rfl) (by exact locs rfl) ?_ (by exact rfl) (by exact rfl) (by exact rfl) (by decide);k_whole;intro g' L' h' FG' F' N' B' X' T';clear F N B X T;(conv=>pattern (fBody _);whnf);(conv=>pattern (occs:=*) (fScope _);all_goals whnf);dsimp only [List.reverse,List.reverseAux,List.length] at F' ⊢;k_fold)
  repeat' (first|(k_unfold;(try dsimp only))|(k_end;kc_close)|((with_reducible show wpAny _ _ (call (Value.ref (nat_lit 228)) _) _ _ _);refine TSpec.lay [(false,.int 32),(false,.int _),(false,.int 0)] (by k_asm) (by k_asm) (Env0.deeper (by assumption) (by assumption) (by assumption) (by assumption) (by exact rfl) (by exact rfl) (by assumption) (by first|exact room hd' rfl|omega) (by first|exact room hu rfl|omega)) (extend_ok ht (by k_mem)) ?_;intro b9 nb9 h9 tk9 tl9 F' N' ht9 t19 t29 t39 hm9;(try k_sweep);(try dsimp only))|((with_reducible show wpAny _ _ (binaryOp Operator.Add (Value.ref _) (Value.ref _)) _ _ _);refine' kde_addT ?k1 ?k2 ?k3 ?k4 ?k5 ?k6 ?k7 ?k8 ?_;(case k1=>k_asm);(case k2=>k_asm);(case k3=>kun_tup);(case k4=>kun_tup);(case k5=>exact List.cons_ne_nil _ _);(case k6=>exact List.cons_ne_nil _ _);(case k7=>exact Nat.le_of_ble_eq_true rfl);(case k8=>kun_lit);intro D' h' F' N' l1;(try k_sweep))|((with_reducible show wpAny _ _ (subscriptTail _ _ (Value.ref _) (Value.int _ _)) _ _ _);first|(refine item_litK (News.isList (by k_asm) (by k_mem)) (by decide) (by decide) (by exact rfl) ?_ (by with_unfolding_all rfl))|(refine item_tupleT (News.isTup (by k_asm) (by k_mem)) (by decide) (by decide) (by exact rfl) (by exact rfl) ?_ (by with_unfolding_all rfl)))|walk1|(dsimp only;walk1)|(leave1;(try dsimp only))|fail "no step")
  (show LeaveK _ _ _ _ _ _ _;refine leaveK_ (by k_asm) (by k_asm) ?_;intro kF kN)
  exact TSpec.end_ hQ kF kN (by ((repeat' (first|assumption|exact DatIn.int _ _|exact DatIn.str _ _|exact DatIn.bool _|exact DatIn.none|exact DatAll.nil|refine DatAll.cons ?_ ?_|(refine DatIn.mono ?_ (by assumption);((repeat' (first|with_reducible exact fun _ h=>h|with_reducible exact List.forall_mem_nil _|(with_reducible refine sub_cons ?_ ?_)|(with_reducible refine sub_app ?_ ?_)|(with_reducible refine sub_append ?_ ?_)|(intro q9 hq9;first|k_mem|(replace hq9:=hs _ hq9;k_mem))|k_mem));first|done|fail "left"))|refine DatIn.tuple (by k_mem) ?_));first|done|fail "left")) rfl (by ((repeat' (first|with_reducible exact fun _ h=>h|with_reducible exact List.forall_mem_nil _|(with_reducible refine sub_cons ?_ ?_)|(with_reducible refine sub_app ?_ ?_)|(with_reducible refine sub_append ?_ ?_)|(intro q9 hq9;first|k_mem|(replace hq9:=hs _ hq9;k_mem))|k_mem));first|done|fail "left"))
theorem build_ok {prog:Program} {w:World} {t:Int} {sc a b:Addr} {t0:Tok} {data:Led} (ht:smallT t) (hn:NumAt data a b t):TSpec prog w (nat_lit 1144) [.ref sc,.ref a,.int 32 t0,.bool true] 6 120 data (conD t):=by
  obtain ⟨nv,nb,t1,t2,t3,t4,t5,hm,hmb⟩:=id hn
  intro A A₀ env outer base h₀ L p loose mean mg mb m s Q E C F N hQ
  obtain ⟨B,X,T,hA,hf,hk,hh,hd',hu⟩:=C
  refine wpAny_call ?_
  (refine' code_def (binds:=[(Str.ofString "scope",.ref sc),(Str.ofString "e",.ref a),(Str.ofString "w",.int 32 t0),(Str.ofString "signed",.bool true)]) B F X N T hA hf hk (by k_is) (by k_is) (by exact room0 hd') (by exact BindsTo.of_eq rfl) (by exact locs rfl) ?_ (by exact rfl) (by exact rfl) (by exact rfl) (by decide);k_whole;intro g' L' h' FG' F' N' B' X' T';clear F N B X T;(conv=>pattern (fBody _);whnf);(conv=>pattern (occs:=*) (fScope _);all_goals whnf);dsimp only [List.reverse,List.reverseAux,List.length] at F' ⊢;k_fold)
  repeat' (first|(k_unfold;(try dsimp only))|(k_end;kc_close)|((with_reducible show wpAny _ _ (call (Value.ref (nat_lit 983)) _) _ _ _);refine TSpec.lay [(false,.str (Str.ofString "const")),(false,.int 32),(false,.int _),(false,.int 0)] (by k_asm) (by k_asm) (Env0.deeper (by assumption) (by assumption) (by assumption) (by assumption) (by exact rfl) (by exact rfl) (by assumption) (by first|exact room hd' rfl|omega) (by first|exact room hu rfl|omega)) (number_ok ht (by (first|assumption|(refine num_mono (by assumption) ?_;((repeat' (first|with_reducible exact fun _ h=>h|with_reducible exact List.forall_mem_nil _|(with_reducible refine sub_cons ?_ ?_)|(with_reducible refine sub_app ?_ ?_)|(with_reducible refine sub_append ?_ ?_)|(intro q9 hq9;first|k_mem|(replace hq9:=hs _ hq9;k_mem))|k_mem));first|done|fail "left"))))) ?_;intro b9 nb9 h9 tk9 tl9 F' N' ht9 t09 t19 t29 t39 hm9;(try k_sweep);(try dsimp only))|((with_reducible show wpAny _ _ (subscriptTail _ _ (Value.ref _) (Value.int _ _)) _ _ _);first|(refine item_litK (News.isList (by k_asm) (by k_mem)) (by decide) (by decide) (by exact rfl) ?_ (by with_unfolding_all rfl))|(refine item_tupleT (News.isTup (by k_asm) (by k_mem)) (by decide) (by decide) (by exact rfl) (by exact rfl) ?_ (by with_unfolding_all rfl)))|walk1|(dsimp only;walk1)|(leave1;(try dsimp only))|fail "no step")
  (show LeaveK _ _ _ _ _ _ _;refine leaveK_ (by k_asm) (by k_asm) ?_;intro kF kN)
  exact TSpec.end_ hQ kF kN (by ((repeat' (first|assumption|exact DatIn.int _ _|exact DatIn.str _ _|exact DatIn.bool _|exact DatIn.none|exact DatAll.nil|refine DatAll.cons ?_ ?_|(refine DatIn.mono ?_ (by assumption);((repeat' (first|with_reducible exact fun _ h=>h|with_reducible exact List.forall_mem_nil _|(with_reducible refine sub_cons ?_ ?_)|(with_reducible refine sub_app ?_ ?_)|(with_reducible refine sub_append ?_ ?_)|(intro q9 hq9;first|k_mem|(replace hq9:=hs _ hq9;k_mem))|k_mem));first|done|fail "left"))|refine DatIn.tuple (by k_mem) ?_));first|done|fail "left")) rfl (by ((repeat' (first|with_reducible exact fun _ h=>h|with_reducible exact List.forall_mem_nil _|(with_reducible refine sub_cons ?_ ?_)|(with_reducible refine sub_app ?_ ?_)|(with_reducible refine sub_append ?_ ?_)|(intro q9 hq9;first|k_mem|(replace hq9:=hs _ hq9;k_mem))|k_mem));first|done|fail "left"))
theorem selfd_ok {prog:Program} {w:World} {t:Int} {sc a b:Addr} {data:Led} (ht:smallT t) (hn:NumAt data a b t):TSpec prog w (nat_lit 1151) [.ref sc,.ref a] 7 140 data (.tuple [conD t,.bool true]):=by
  obtain ⟨nv,nb,t1,t2,t3,t4,t5,hm,hmb⟩:=id hn
  intro A A₀ env outer base h₀ L p loose mean mg mb m s Q E C F N hQ
  obtain ⟨B,X,T,hA,hf,hk,hh,hd',hu⟩:=C
  refine wpAny_call ?_
  (refine' code_def (binds:=[(Str.ofString "scope",.ref sc),(Str.ofString "e",.ref a)]) B F X N T hA hf hk (by k_is) (by k_is) (by exact room0 hd') (by exact BindsTo.of_eq rfl) (by exact locs rfl) ?_ (by exact rfl) (by exact rfl) (by exact rfl) (by decide);k_whole;intro g' L' h' FG' F' N' B' X' T';clear F N B X T;(conv=>pattern (fBody _);whnf);(conv=>pattern (occs:=*) (fScope _);all_goals whnf);dsimp only [List.reverse,List.reverseAux,List.length] at F' ⊢;k_fold)
  repeat' (first|(k_unfold;(try dsimp only))|(k_end;kc_close)|((with_reducible show wpAny _ _ (call (Value.ref (nat_lit 1123)) _) _ _ _);refine TSpec.lay [(false,.int 32),(false,.bool true)] (by k_asm) (by k_asm) (Env0.deeper (by assumption) (by assumption) (by assumption) (by assumption) (by exact rfl) (by exact rfl) (by assumption) (by first|exact room hd' rfl|omega) (by first|exact room hu rfl|omega)) (expr_type_ok (by (first|assumption|(refine num_mono (by assumption) ?_;((repeat' (first|with_reducible exact fun _ h=>h|with_reducible exact List.forall_mem_nil _|(with_reducible refine sub_cons ?_ ?_)|(with_reducible refine sub_app ?_ ?_)|(with_reducible refine sub_append ?_ ?_)|(intro q9 hq9;first|k_mem|(replace hq9:=hs _ hq9;k_mem))|k_mem));first|done|fail "left"))))) ?_;intro b9 nb9 h9 tk9 tl9 F' N' ht9 t19 hm9;(try k_sweep);(try dsimp only))|((with_reducible show wpAny _ _ (call (Value.ref (nat_lit 1144)) _) _ _ _);refine TSpec.lay [(false,.str (Str.ofString "const")),(false,.int 32),(false,.int _),(false,.int 0)] (by k_asm) (by k_asm) (Env0.deeper (by assumption) (by assumption) (by assumption) (by assumption) (by exact rfl) (by exact rfl) (by assumption) (by first|exact room hd' rfl|omega) (by first|exact room hu rfl|omega)) (build_ok ht (by (first|assumption|(refine num_mono (by assumption) ?_;((repeat' (first|with_reducible exact fun _ h=>h|with_reducible exact List.forall_mem_nil _|(with_reducible refine sub_cons ?_ ?_)|(with_reducible refine sub_app ?_ ?_)|(with_reducible refine sub_append ?_ ?_)|(intro q9 hq9;first|k_mem|(replace hq9:=hs _ hq9;k_mem))|k_mem));first|done|fail "left"))))) ?_;intro b9 nb9 h9 tk9 tl9 F' N' ht9 t09 t19 t29 t39 hm9;(try k_sweep);(try dsimp only))|((with_reducible show wpAny _ _ (assign (PySem.Expr.Tuple _ _ _) _ _) _ _ _);refine' unpackN_ ?k1 ?k2 ?k3 ?k4 ?k5 ?k6 ?_;(case k1=>k_asm);(case k2=>k_asm);(case k3=>kun_tup);(case k4=>assumption);(case k5=>exact rfl);(case k6=>exact rfl);intro h' F' N';(try k_sweep))|((with_reducible show wpAny _ _ (subscriptTail _ _ (Value.ref _) (Value.int _ _)) _ _ _);first|(refine item_litK (News.isList (by k_asm) (by k_mem)) (by decide) (by decide) (by exact rfl) ?_ (by with_unfolding_all rfl))|(refine item_tupleT (News.isTup (by k_asm) (by k_mem)) (by decide) (by decide) (by exact rfl) (by exact rfl) ?_ (by with_unfolding_all rfl)))|walk1|(dsimp only;walk1)|(leave1;(try dsimp only))|fail "no step")
  (show LeaveK _ _ _ _ _ _ _;refine leaveK_ (by k_asm) (by k_asm) ?_;intro kF kN)
  exact TSpec.end_ hQ kF kN (by ((repeat' (first|assumption|exact DatIn.int _ _|exact DatIn.str _ _|exact DatIn.bool _|exact DatIn.none|exact DatAll.nil|refine DatAll.cons ?_ ?_|(refine DatIn.mono ?_ (by assumption);((repeat' (first|with_reducible exact fun _ h=>h|with_reducible exact List.forall_mem_nil _|(with_reducible refine sub_cons ?_ ?_)|(with_reducible refine sub_app ?_ ?_)|(with_reducible refine sub_append ?_ ?_)|(intro q9 hq9;first|k_mem|(replace hq9:=hs _ hq9;k_mem))|k_mem));first|done|fail "left"))|refine DatIn.tuple (by k_mem) ?_));first|done|fail "left")) rfl (by ((repeat' (first|with_reducible exact fun _ h=>h|with_reducible exact List.forall_mem_nil _|(with_reducible refine sub_cons ?_ ?_)|(with_reducible refine sub_app ?_ ?_)|(with_reducible refine sub_append ?_ ?_)|(intro q9 hq9;first|k_mem|(replace hq9:=hs _ hq9;k_mem))|k_mem));first|done|fail "left"))
theorem cvec_ok {prog:Program} {w:World} {t:Int} {sc b:Addr} {nb:Nat} {t0 t1 t2 t3 t4:Tok} {data:Led} (hm:(b,tupO #[.str (Str.ofString "const") t0,.int 32 t1,.int t t2,.int 0 t3] nb)∈data):TSpec prog w (nat_lit 1165) [.ref sc,.ref b,.int 3 t4] 2 140 data (vecD t):=by
  intro A A₀ env outer base h₀ L p loose mean mg mb m s Q E C F N hQ
  obtain ⟨B,X,T,hA,hf,hk,hh,hd',hu⟩:=C
  refine wpAny_call ?_
  (refine' code_def (binds:=[(Str.ofString "scope",.ref sc),(Str.ofString "value",.ref b),(Str.ofString "at",.int 3 t4)]) B F X N T hA hf hk (by k_is) (by k_is) (by exact room0 hd') (by exact BindsTo.of_eq rfl) (by exact locs rfl) ?_ (by exact rfl) (by exact rfl) (by exact rfl) (by decide);k_whole;intro g' L' h' FG' F' N' B' X' T';clear F N B X T;(conv=>pattern (fBody _);whnf);(conv=>pattern (occs:=*) (fScope _);all_goals whnf);dsimp only [List.reverse,List.reverseAux,List.length] at F' ⊢;k_fold)
  repeat' (first|(k_unfold;(try dsimp only))|(k_end;kc_close)|((with_reducible show wpAny _ _ (subscriptTail _ _ (Value.ref _) (Value.ref _)) _ _ _);refine' slice_tuple_from (a:=1) ?k1 ?k2 ?k3 ?k4 ?k5 ?_ ?k6 ?k7 ?k8;(case k1=>k_asm);(case k2=>k_asm);(case k3=>kun_tup);(case k4=>decide);(case k5=>exact Nat.le_of_ble_eq_true rfl);(case k6=>with_unfolding_all rfl);(case k7=>intro _;with_unfolding_all rfl);(case k8=>exact Nat.le_of_ble_eq_true rfl);intro h' F' N';(try simp only [List.drop_succ_cons,List.drop_zero] at N');(try k_sweep))|((with_reducible show wpAny _ _ (subscriptTail _ _ (Value.ref _) (Value.int _ _)) _ _ _);first|(refine item_litK (News.isList (by k_asm) (by k_mem)) (by decide) (by decide) (by exact rfl) ?_ (by with_unfolding_all rfl))|(refine item_tupleT (News.isTup (by k_asm) (by k_mem)) (by decide) (by decide) (by exact rfl) (by exact rfl) ?_ (by with_unfolding_all rfl)))|walk1|(dsimp only;walk1)|(leave1;(try dsimp only))|fail "no step")
  (show LeaveK _ _ _ _ _ _ _;refine leaveK_ (by k_asm) (by k_asm) ?_;intro kF kN)
  exact TSpec.end_ hQ kF kN (by ((repeat' (first|assumption|exact DatIn.int _ _|exact DatIn.str _ _|exact DatIn.bool _|exact DatIn.none|exact DatAll.nil|refine DatAll.cons ?_ ?_|(refine DatIn.mono ?_ (by assumption);((repeat' (first|with_reducible exact fun _ h=>h|with_reducible exact List.forall_mem_nil _|(with_reducible refine sub_cons ?_ ?_)|(with_reducible refine sub_app ?_ ?_)|(with_reducible refine sub_append ?_ ?_)|(intro q9 hq9;first|k_mem|(replace hq9:=hs _ hq9;k_mem))|k_mem));first|done|fail "left"))|refine DatIn.tuple (by k_mem) ?_));first|done|fail "left")) rfl (by ((repeat' (first|with_reducible exact fun _ h=>h|with_reducible exact List.forall_mem_nil _|(with_reducible refine sub_cons ?_ ?_)|(with_reducible refine sub_app ?_ ?_)|(with_reducible refine sub_append ?_ ?_)|(intro q9 hq9;first|k_mem|(replace hq9:=hs _ hq9;k_mem))|k_mem));first|done|fail "left"))
theorem constant_ok {prog:Program} {w:World} {t:Int} {sc a b:Addr} {data:Led} (ht:smallT t) (hn:NumAt data a b t):TSpec prog w (nat_lit 1172) [.ref sc,.ref a] 8 160 data (.tuple [vecD t,.bool true]):=by
  obtain ⟨nv,nb,t1,t2,t3,t4,t5,hm,hmb⟩:=id hn
  intro A A₀ env outer base h₀ L p loose mean mg mb m s Q E C F N hQ
  obtain ⟨B,X,T,hA,hf,hk,hh,hd',hu⟩:=C
  refine wpAny_call ?_
  (refine' code_def (binds:=[(Str.ofString "scope",.ref sc),(Str.ofString "e",.ref a)]) B F X N T hA hf hk (by k_is) (by k_is) (by exact room0 hd') (by exact BindsTo.of_eq rfl) (by exact locs rfl) ?_ (by exact rfl) (by exact rfl) (by exact rfl) (by decide);k_whole;intro g' L' h' FG' F' N' B' X' T';clear F N B X T;(conv=>pattern (fBody _);whnf);(conv=>pattern (occs:=*) (fScope _);all_goals whnf);dsimp only [List.reverse,List.reverseAux,List.length] at F' ⊢;k_fold)
  repeat' (first|(k_unfold;(try dsimp only))|(k_end;kc_close)|((with_reducible show wpAny _ _ (call (Value.ref (nat_lit 1151)) _) _ _ _);refine TSpec.lay [(true,conD _),(false,.bool true)] (by k_asm) (by k_asm) (Env0.deeper (by assumption) (by assumption) (by assumption) (by assumption) (by exact rfl) (by exact rfl) (by assumption) (by first|exact room hd' rfl|omega) (by first|exact room hu rfl|omega)) (selfd_ok ht (by (first|assumption|(refine num_mono (by assumption) ?_;((repeat' (first|with_reducible exact fun _ h=>h|with_reducible exact List.forall_mem_nil _|(with_reducible refine sub_cons ?_ ?_)|(with_reducible refine sub_app ?_ ?_)|(with_reducible refine sub_append ?_ ?_)|(intro q9 hq9;first|k_mem|(replace hq9:=hs _ hq9;k_mem))|k_mem));first|done|fail "left"))))) ?_;intro c9 nc9 h9 tk9 tl9 F' N' ht9 v9 hv9 hm9;revert hm9;refine tup_lay [(false,.str (Str.ofString "const")),(false,.int 32),(false,.int _),(false,.int 0)] hv9 ?_;intro b9 nb9 e9 t09 t19 t29 t39 hq9 hm9;subst e9;(try k_sweep);(try dsimp only))|((with_reducible show wpAny _ _ (call (Value.ref (nat_lit 1165)) _) _ _ _);refine TSpec.lay [(false,.int 32),(false,.int _),(false,.int 0)] (by k_asm) (by k_asm) (Env0.deeper (by assumption) (by assumption) (by assumption) (by assumption) (by exact rfl) (by exact rfl) (by assumption) (by first|exact room hd' rfl|omega) (by first|exact room hu rfl|omega)) (cvec_ok (by k_mem)) ?_;intro b9 nb9 h9 tk9 tl9 F' N' ht9 t19 t29 t39 hm9;(try k_sweep);(try dsimp only))|((with_reducible show wpAny _ _ (assign (PySem.Expr.Tuple _ _ _) _ _) _ _ _);refine' unpackN_ ?k1 ?k2 ?k3 ?k4 ?k5 ?k6 ?_;(case k1=>k_asm);(case k2=>k_asm);(case k3=>kun_tup);(case k4=>assumption);(case k5=>exact rfl);(case k6=>exact rfl);intro h' F' N';(try k_sweep))|((with_reducible show wpAny _ _ (subscriptTail _ _ (Value.ref _) (Value.int _ _)) _ _ _);first|(refine item_litK (News.isList (by k_asm) (by k_mem)) (by decide) (by decide) (by exact rfl) ?_ (by with_unfolding_all rfl))|(refine item_tupleT (News.isTup (by k_asm) (by k_mem)) (by decide) (by decide) (by exact rfl) (by exact rfl) ?_ (by with_unfolding_all rfl)))|walk1|(dsimp only;walk1)|(leave1;(try dsimp only))|fail "no step")
  (show LeaveK _ _ _ _ _ _ _;refine leaveK_ (by k_asm) (by k_asm) ?_;intro kF kN)
  exact TSpec.end_ hQ kF kN (by ((repeat' (first|assumption|exact DatIn.int _ _|exact DatIn.str _ _|exact DatIn.bool _|exact DatIn.none|exact DatAll.nil|refine DatAll.cons ?_ ?_|(refine DatIn.mono ?_ (by assumption);((repeat' (first|with_reducible exact fun _ h=>h|with_reducible exact List.forall_mem_nil _|(with_reducible refine sub_cons ?_ ?_)|(with_reducible refine sub_app ?_ ?_)|(with_reducible refine sub_append ?_ ?_)|(intro q9 hq9;first|k_mem|(replace hq9:=hs _ hq9;k_mem))|k_mem));first|done|fail "left"))|refine DatIn.tuple (by k_mem) ?_));first|done|fail "left")) rfl (by ((repeat' (first|with_reducible exact fun _ h=>h|with_reducible exact List.forall_mem_nil _|(with_reducible refine sub_cons ?_ ?_)|(with_reducible refine sub_app ?_ ?_)|(with_reducible refine sub_append ?_ ?_)|(intro q9 hq9;first|k_mem|(replace hq9:=hs _ hq9;k_mem))|k_mem));first|done|fail "left"))
theorem toint_ok {prog:Program} {w:World} {t:Int} {b:Addr} {nb:Nat} {t1 t2 t3:Tok} {data:Led} (ht:smallT t) (hm:(b,tupO #[.int 32 t1,.int t t2,.int 0 t3] nb)∈data):Spec prog w (nat_lit 193) [.ref b,.bool true] 2 60 data (fun r news'=>∃ tk,r=.int t tk∧news'=data):=by
  rcases ht with rfl|rfl|rfl
  all_goals
    intro A A₀ env outer base h₀ L p loose mean mg mb m s Q E C F N hQ
    obtain ⟨B,X,T,hA,hf,hk,hh,hd',hu⟩:=C
    refine wpAny_call ?_
    (refine' code_def (binds:=[(Str.ofString "v",.ref b),(Str.ofString "signed",.bool true)]) B F X N T hA hf hk (by k_is) (by k_is) (by exact room0 hd') (by exact BindsTo.of_eq rfl) (by exact locs rfl) ?_ (by exact rfl) (by exact rfl) (by exact rfl) (by decide);k_whole;intro g' L' h' FG' F' N' B' X' T';clear F N B X T;(conv=>pattern (fBody _);whnf);(conv=>pattern (occs:=*) (fScope _);all_goals whnf);dsimp only [List.reverse,List.reverseAux,List.length] at F' ⊢;k_fold)
    repeat' (first|(k_unfold;(try dsimp only))|(k_end;kc_close)|((with_reducible show wpAny _ _ (assign (PySem.Expr.Tuple _ _ _) _ _) _ _ _);refine' unpackN_ ?k1 ?k2 ?k3 ?k4 ?k5 ?k6 ?_;(case k1=>k_asm);(case k2=>k_asm);(case k3=>kun_tup);(case k4=>assumption);(case k5=>exact rfl);(case k6=>exact rfl);intro h' F' N';(try k_sweep))|((with_reducible show wpAny _ _ (subscriptTail _ _ (Value.ref _) (Value.int _ _)) _ _ _);first|(refine item_litK (News.isList (by k_asm) (by k_mem)) (by decide) (by decide) (by exact rfl) ?_ (by with_unfolding_all rfl))|(refine item_tupleT (News.isTup (by k_asm) (by k_mem)) (by decide) (by decide) (by exact rfl) (by exact rfl) ?_ (by with_unfolding_all rfl)))|walk1|(dsimp only;walk1)|(leave1;(try dsimp only))|fail "no step")
    (show LeaveK _ _ _ _ _ _ _;refine leaveK_ (by k_asm) (by k_asm) ?_;intro kF kN)
    exact hQ _ _ _ _ kF kN ⟨_,rfl,rfl⟩
end
section
theorem whole_ok {prog:Program} {w:World} {t:Int} {sc dsc x dx a b:Addr} {es1 es2:List DictEntry} {n1 n2:Nat} {data:Led} (ht:smallT t)
    (hsc:(sc,instObj 1327 dsc)∈data) (hdsc:(dsc,dictOf es1 n1)∈data) (hx:(x,instObj 87 dx)∈data) (g1:getL (Str.ofString "design") es1=some (some (.ref x))) (g2:desOk es2) (hof:∀ p∈data,p.1≠dx) (hn:NumAt data a b t) :
    Spec prog w (nat_lit 1179) [.ref sc,.ref a] 9 200 ((dx,dictOf es2 n2)::data) (fun r news'=>∃ tk es2',r=.int t tk∧desOk es2'∧news'=(dx,dictOf es2' n2)::data):=by
  obtain ⟨⟨t0,g3⟩,g4⟩:=g2
  intro A A₀ env outer base h₀ L p loose mean mg mb m s Q E C F N hQ
  obtain ⟨B,X,T,hA,hf,hk,hh,hd',hu⟩:=C
  refine wpAny_call ?_
  (refine' code_def (binds:=[(Str.ofString "scope",.ref sc),(Str.ofString "e",.ref a)]) B F X N T hA hf hk (by k_is) (by k_is) (by exact room0 hd') (by exact BindsTo.of_eq rfl) (by exact locs rfl) ?_ (by exact rfl) (by exact rfl) (by exact rfl) (by decide);k_whole;intro g' L' h' FG' F' N' B' X' T';clear F N B X T;(conv=>pattern (fBody _);whnf);(conv=>pattern (occs:=*) (fScope _);all_goals whnf);dsimp only [List.reverse,List.reverseAux,List.length] at F' ⊢;k_fold)
  repeat' (first|(k_unfold;(try dsimp only))|(k_end;kc_close)|((with_reducible show wpAny _ _ (call (Value.ref (nat_lit 1172)) _) _ _ _);refine TSpec.lay [(true,vecD _),(false,.bool true)] (by k_asm) (by k_asm) (Env0.deeper (by assumption) (by assumption) (by assumption) (by assumption) (by exact rfl) (by exact rfl) (by assumption) (by first|exact room hd' rfl|omega) (by first|exact room hu rfl|omega)) (constant_ok ht (by (first|assumption|(refine num_mono (by assumption) ?_;((repeat' (first|with_reducible exact fun _ h=>h|with_reducible exact List.forall_mem_nil _|(with_reducible refine sub_cons ?_ ?_)|(with_reducible refine sub_app ?_ ?_)|(with_reducible refine sub_append ?_ ?_)|(intro q9 hq9;first|k_mem|(replace hq9:=hs _ hq9;k_mem))|k_mem));first|done|fail "left"))))) ?_;intro c9 nc9 h9 tk9 tl9 F' N' ht9 v9 hv9 hm9;revert hm9;refine tup_lay [(false,.int 32),(false,.int _),(false,.int 0)] hv9 ?_;intro b9 nb9 e9 t19 t29 t39 hq9 hm9;subst e9;(try k_sweep);(try dsimp only))|((with_reducible show wpAny _ _ (call (Value.ref (nat_lit 193)) _) _ _ _);refine Spec.go (by k_asm) (by k_asm) (Env0.deeper (by assumption) (by assumption) (by assumption) (by assumption) (by exact rfl) (by exact rfl) (by assumption) (by first|exact room hd' rfl|omega) (by first|exact room hu rfl|omega)) (toint_ok ht (by k_mem)) ?_;rintro r9 h9 tk9 news9 F' N' ⟨t9,rfl,rfl⟩;(try k_sweep);(try dsimp only))|((with_reducible show wpAny _ _ (assign (PySem.Expr.Tuple _ _ _) _ _) _ _ _);refine' unpackN_ ?k1 ?k2 ?k3 ?k4 ?k5 ?k6 ?_;(case k1=>k_asm);(case k2=>k_asm);(case k3=>kun_tup);(case k4=>assumption);(case k5=>exact rfl);(case k6=>exact rfl);intro h' F' N';(try k_sweep))|((with_reducible show wpAny _ _ (setAttr (Value.ref _) _ _) _ _ _);refine' set_put ?k1 ?k2 ?k3 ?k4 ?k5 ?k6 ?k7 ?k8 ?k9 ?k10 ?k13 ?k12 ?_;(case k1=>k_asm);(case k2=>k_asm);(case k3=>k_asm);(case k4=>k_inst);(case k5=>exact rfl);(case k6=>k_is);(case k7=>k_is);(case k8=>k_is);(case k9=>k_is);(case k10=>assumption);(case k13=>assumption);(case k12=>intro es9;k_upd);intro h' es9 hg9 ho9 hz9 F' N';(try k_sweep))|((with_reducible show wpAny _ _ (getAttr (Value.ref _) _ _) _ _ _);refine' get_own ?k1 ?k2 ?k3 ?k4 ?k5 ?k6 ?k7 ?k8 ?k9 ?_;(case k1=>k_asm);(case k2=>k_asm);(case k3=>k_inst);(case k4=>k_is);(case k5=>k_is);(case k6=>k_is);(case k7=>k_is);(case k8=>assumption);(case k9=>k_handed);k_whole)|((with_reducible show wpAny _ _ (subscriptTail _ _ (Value.ref _) (Value.int _ _)) _ _ _);first|(refine item_litK (News.isList (by k_asm) (by k_mem)) (by decide) (by decide) (by exact rfl) ?_ (by with_unfolding_all rfl))|(refine item_tupleT (News.isTup (by k_asm) (by k_mem)) (by decide) (by decide) (by exact rfl) (by exact rfl) ?_ (by with_unfolding_all rfl)))|walk1|(dsimp only;walk1)|(leave1;(try dsimp only))|fail "no step")
  (show LeaveK _ _ _ _ _ _ _;refine leaveK_ (by k_asm) (by k_asm) ?_;intro kF kN)
  refine hQ _ _ _ _ kF (news_sub kN ?_) ⟨_,_,rfl,⟨⟨_,by assumption⟩,by assumption⟩,rfl⟩
  refine List.forall_mem_cons.mpr ⟨?m1,?m2⟩
  case m1=>k_mem
  case m2=>((repeat' (first|with_reducible exact fun _ h=>h|with_reducible exact List.forall_mem_nil _|(with_reducible refine sub_cons ?_ ?_)|(with_reducible refine sub_app ?_ ?_)|(with_reducible refine sub_append ?_ ?_)|(intro q9 hq9;first|k_mem|(replace hq9:=hs _ hq9;k_mem))|k_mem));first|done|fail "left")
theorem whole_use {prog:Program} {w:World} {t:Int} {sc dsc x dx a b:Addr} {es1 es2:List DictEntry} {n1 n2:Nat} {data:Led} {news2:Obj→Led} (ht:smallT t)
    (hsc:(sc,instObj 1327 dsc)∈data) (hdsc:(dsc,dictOf es1 n1)∈data) (hx:(x,instObj 87 dx)∈data) (g1:getL (Str.ofString "design") es1=some (some (.ref x))) (g2:desOk es2) (hn:NumAt data a b t)
    (nx:x≠dx) (ns:sc≠dx) (nd:dsc≠dx) (na:a≠dx) (nb:b≠dx) (U:∀ o',Upd dx (dictOf es2 n2) o' data (news2 o')) :
    Spec prog w (nat_lit 1179) [.ref sc,.ref a] 9 200 data (fun r news'=>∃ tk es2',r=.int t tk∧desOk es2'∧news'=news2 (dictOf es2' n2)):=by
  refine (Spec.use1 (R:=fun r o' tl=>tl=[]∧∃ tk es2',r=.int t tk∧desOk es2'∧o'=dictOf es2' n2) U fun rest h1 h2=>?_).mono ?_
  · obtain ⟨nv,nb',t1,t2,t3,t4,t5,hm,hmb⟩:=hn
    refine (whole_ok ht (h2 _ hsc ns) (h2 _ hdsc nd) (h2 _ hx nx) g1 g2 (fun p hp=>(h1 p hp).2) ⟨nv,nb',t1,t2,t3,t4,t5,h2 _ hm na,h2 _ hmb nb⟩).mono ?_
    rintro r l ⟨tk,es2',e1,e2,e3⟩
    exact ⟨_,[],⟨rfl,tk,es2',e1,e2,rfl⟩,e3⟩
  · rintro r l ⟨o',tl,⟨rfl,tk,es2',e1,e2,rfl⟩,e3⟩
    exact ⟨tk,es2',e1,e2,e3⟩
theorem whole_cps {prog:Program} {w:World} {t:Int} {sc dsc x dx a b:Addr} {es1 es2:List DictEntry} {n1 n2:Nat} {data:Led} {news2:Obj→Led} {A A₀:Around} {env:Env} {outer:List Env} {base h₀:Heap} {L:Addr} {p:Program} {loose:List Str} {mean:ExcName→Option Value} {mg mb:Str→Option Value} {m:Str→Option Value} {s:Shared} {Q E:Value→Shared→Prop}
    (F:Fr h₀ L s.heap m) (N:News h₀ L s.heap data) (C:Env0 w A A₀ env outer base h₀ L 9 200 p loose mean mg mb) (hsc:(sc,instObj 1327 dsc)∈data) (hdsc:(dsc,dictOf es1 n1)∈data) (g1:getL (Str.ofString "design") es1=some (some (.ref x))) (hx:(x,instObj 87 dx)∈data) (U:∀ o',Upd dx (dictOf es2 n2) o' data (news2 o')) (g2:desOk es2) (hn:NumAt data a b t) (ht:smallT t)
    (nx:x≠dx) (ns:sc≠dx) (nd:dsc≠dx) (na:a≠dx) (nb:b≠dx)
    (hQ:∀ h' tk' tk es2',Fr h₀ L h' m→News h₀ L h' (news2 (dictOf es2' n2))→desOk es2'→Q (.int t tk) { s with heap:=h',toks:=tk' }):wpAny (model prog w) A (call (.ref (nat_lit 1179)) [.ref sc,.ref a]) Q E s:=by
  refine whole_use ht hsc hdsc hx g1 g2 hn nx ns nd na nb U A A₀ env outer base h₀ L p loose mean mg mb m s Q E C F N ?_
  rintro r h' tk' news' F' N' ⟨tk,es2',rfl,hd,rfl⟩
  exact hQ _ _ _ _ F' N' hd
theorem cw_ok {prog:Program} {w:World} {k i:Int} {t1 t2:Tok} {data:Led} (h1:1≤k) (h2:k≤32):Spec prog w (nat_lit 934) [.int k t1,.int i t2] 2 60 data (fun r news'=>∃ tk,r=.int k tk∧news'=data):=by
  intro A A₀ env outer base h₀ L p loose mean mg mb m s Q E C F N hQ
  obtain ⟨B,X,T,hA,hf,hk,hh,hd',hu⟩:=C
  refine wpAny_call ?_
  (refine' code_def (binds:=[(Str.ofString "width",.int k t1),(Str.ofString "at",.int i t2)]) B F X N T hA hf hk (by k_is) (by k_is) (by exact room0 hd') (by exact BindsTo.of_eq rfl) (by exact locs rfl) ?_ (by exact rfl) (by exact rfl) (by exact rfl) (by decide);k_whole;intro g' L' h' FG' F' N' B' X' T';clear F N B X T;(conv=>pattern (fBody _);whnf);(conv=>pattern (occs:=*) (fScope _);all_goals whnf);dsimp only [List.reverse,List.reverseAux,List.length] at F' ⊢;k_fold)
  repeat' (first|(k_unfold;(try dsimp only))|(k_end;kc_close)|fail|walk1|(dsimp only;walk1)|(leave1;(try dsimp only))|fail "no step")
  (show LeaveK _ _ _ _ _ _ _;refine leaveK_ (by k_asm) (by k_asm) ?_;intro kF kN)
  exact hQ _ _ _ _ kF kN ⟨_,rfl,rfl⟩
theorem small_w {t:Int} (h:smallT t):1≤(if t - 0<0 then -(t - 0) else t - 0)+1∧(if t - 0<0 then -(t - 0) else t - 0)+1≤32:=by rcases h with rfl|rfl|rfl <;> decide
theorem range_ok {prog:Program} {w:World} {t:Int} {sc dsc x dx c a b a0 b0:Addr} {es1 es2:List DictEntry} {n1 n2 nc:Nat} {data:Led} (ht:smallT t)
    (hsc:(sc,instObj 1327 dsc)∈data) (hdsc:(dsc,dictOf es1 n1)∈data) (hx:(x,instObj 87 dx)∈data) (g1:getL (Str.ofString "design") es1=some (some (.ref x))) (g2:desOk es2) (hof:∀ p∈data,p.1≠dx)
    (hc:(c,tupO #[.ref a,.ref a0] nc)∈data) (hn:NumAt data a b t) (hn0:NumAt data a0 b0 0) :
    Spec prog w (nat_lit 1193) [.ref sc,.ref c] 10 240 ((dx,dictOf es2 n2)::data) (fun r news'=>∃ es2' tl,desOk es2'∧Tups tl∧DatIn tl r (.tuple [.int t,.int 0])∧news'=(dx,dictOf es2' n2)::(tl++data)):=by
  have nx:=hof _ hx
  have ns:=hof _ hsc
  have nd:=hof _ hdsc
  obtain ⟨nv,nb,t1,t2,t3,t4,t5,hm,hmb⟩:=id hn
  obtain ⟨nv0,nb0,t10,t20,t30,t40,t50,hm0,hmb0⟩:=id hn0
  have na:=hof _ hm
  have nb:=hof _ hmb
  have na0:=hof _ hm0
  have nb0:=hof _ hmb0
  intro A A₀ env outer base h₀ L p loose mean mg mb m s Q E C F N hQ
  obtain ⟨B,X,T,hA,hf,hk,hh,hd',hu⟩:=C
  refine wpAny_call ?_
  (refine' code_def (binds:=[(Str.ofString "scope",.ref sc),(Str.ofString "bounds",.ref c)]) B F X N T hA hf hk (by k_is) (by k_is) (by exact room0 hd') (by exact BindsTo.of_eq rfl) (by exact locs rfl) ?_ (by exact rfl) (by exact rfl) (by exact rfl) (by decide);k_whole;intro g' L' h' FG' F' N' B' X' T';clear F N B X T;(conv=>pattern (fBody _);whnf);(conv=>pattern (occs:=*) (fScope _);all_goals whnf);dsimp only [List.reverse,List.reverseAux,List.length] at F' ⊢;k_fold)
  repeat' (first|(k_unfold;(try dsimp only))|(k_end;kc_close)|((with_reducible show wpAny _ _ (call (Value.ref (nat_lit 934)) _) _ _ _);refine Spec.go (by k_asm) (by k_asm) (Env0.deeper (by assumption) (by assumption) (by assumption) (by assumption) (by exact rfl) (by exact rfl) (by assumption) (by first|exact room hd' rfl|omega) (by first|exact room hu rfl|omega)) (cw_ok (small_w ht).1 (small_w ht).2) ?_;rintro r9 h9 tk9 news9 F' N' ⟨t9,rfl,rfl⟩;(try k_sweep);(try dsimp only))|((with_reducible show wpAny _ _ (call (Value.ref (nat_lit 1179)) _) _ _ _);refine whole_cps (by k_asm) (by k_asm) (Env0.deeper (by assumption) (by assumption) (by assumption) (by assumption) (by exact rfl) (by exact rfl) (by assumption) (by first|exact room hd' rfl|omega) (by first|exact room hu rfl|omega)) (by k_mem) (by k_mem) (by assumption) (by k_mem) (fun o9=>by first|k_upd|fail) (by assumption) (by (first|assumption|(refine num_mono (by assumption) ?_;((repeat' (first|with_reducible exact fun _ h=>h|with_reducible exact List.forall_mem_nil _|(with_reducible refine sub_cons ?_ ?_)|(with_reducible refine sub_app ?_ ?_)|(with_reducible refine sub_append ?_ ?_)|(intro q9 hq9;first|k_mem|(replace hq9:=hs _ hq9;k_mem))|k_mem));first|done|fail "left")))) (by first|assumption|exact Or.inl rfl) (by assumption) (by assumption) (by assumption) (by assumption) (by assumption) ?_;intro h9 tk9 t9 es9 F' N' hd9;(try k_sweep);(try dsimp only))|((with_reducible show wpAny _ _ (assign (PySem.Expr.Tuple _ _ _) _ _) _ _ _);refine' unpackN_ ?k1 ?k2 ?k3 ?k4 ?k5 ?k6 ?_;(case k1=>k_asm);(case k2=>k_asm);(case k3=>kun_tup);(case k4=>assumption);(case k5=>exact rfl);(case k6=>exact rfl);intro h' F' N';(try k_sweep))|((with_reducible show wpAny _ _ (subscriptTail _ _ (Value.ref _) (Value.int _ _)) _ _ _);first|(refine item_litK (News.isList (by k_asm) (by k_mem)) (by decide) (by decide) (by exact rfl) ?_ (by with_unfolding_all rfl))|(refine item_tupleT (News.isTup (by k_asm) (by k_mem)) (by decide) (by decide) (by exact rfl) (by exact rfl) ?_ (by with_unfolding_all rfl)))|walk1|(dsimp only;walk1)|(leave1;(try dsimp only))|fail "no step")
  (show LeaveK _ _ _ _ _ _ _;refine leaveK_ (by k_asm) (by k_asm) ?_;intro kF kN)
  refine end_cps [(dx,dictOf _ n2)] data (.tuple [.int t,.int 0]) kN (List.forall_mem_singleton.mpr (by k_mem)) (by ((repeat' (first|assumption|exact DatIn.int _ _|exact DatIn.str _ _|exact DatIn.bool _|exact DatIn.none|exact DatAll.nil|refine DatAll.cons ?_ ?_|(refine DatIn.mono ?_ (by assumption);((repeat' (first|with_reducible exact fun _ h=>h|with_reducible exact List.forall_mem_nil _|(with_reducible refine sub_cons ?_ ?_)|(with_reducible refine sub_app ?_ ?_)|(with_reducible refine sub_append ?_ ?_)|(intro q9 hq9;first|k_mem|(replace hq9:=hs _ hq9;k_mem))|k_mem));first|done|fail "left"))|refine DatIn.tuple (by k_mem) ?_));first|done|fail "left")) rfl (by ((repeat' (first|with_reducible exact fun _ h=>h|with_reducible exact List.forall_mem_nil _|(with_reducible refine sub_cons ?_ ?_)|(with_reducible refine sub_app ?_ ?_)|(with_reducible refine sub_append ?_ ?_)|(intro q9 hq9;first|k_mem|(replace hq9:=hs _ hq9;k_mem))|k_mem));first|done|fail "left")) fun tl ht9 hd9 hN=>?_
  exact hQ _ _ _ _ kF hN ⟨_,tl,by assumption,ht9,hd9,rfl⟩
end
section
theorem wider {α:Type} {M:Model} {A:Around} {t:Sem α} {Q:α→Shared→Prop} {E:Value→Shared→Prop} {s:Shared} {D U:Nat} (hh:A.handled=none) (hd:A.depth≤D) (hu:A.units≤U)
    (h:wpAny M { handled:=none,depth:=D,frames:=none,guards:=none,units:=U } t Q E s):wpAny M A t Q E s:=fun Γ p i =>
  h Γ p ⟨i.1.trans hh,Nat.le_trans i.2.1 hd,fun _ e=>(nomatch e),fun _ e=>(nomatch e),Nat.le_trans i.2.2.2.2 hu⟩
theorem nw_at {h0 h:Heap} {chg news:Led} {a:Addr} {o:Obj} (D:PySem.W.X.Mem h0 h chg news) (hm:(a,o)∈news):h.get? a=some o∧h0.get? a=none:=D.nw _ hm
theorem fn_at {h:Heap} {a gl bn:Addr} {c de kd dc pm co ct:Value} {dd an:Option Addr} {cl:List (Str × Addr)} {b b':List Stmt} {sl:Array (Option Value)} {n n' q:Str} {pr pr':Arguments} {sc sc':Scope} (e:h.get? a=some ⟨c,dd,.func ⟨n,q,pr,.stmts b,sc,gl,cl,de,kd,dc,pm,an,co,ct,bn⟩,sl⟩) (hn:n=n') (hp:pr=pr') (hb:b=b') (hs:sc=sc'):h.get? a=some ⟨c,dd,.func ⟨n',q,pr',.stmts b',sc',gl,cl,de,kd,dc,pm,an,co,ct,bn⟩,sl⟩:=by subst hn hp hb hs;exact e
/-- the exception that was made: its class,its dict -/
structure ExcIs (h:Heap) (e dx T:Addr) (k nm:Str) (i:Int):Prop where
  obj:∃ sl,h.get? e=some ⟨.ref 122,some dx,.fields #[.ref T,.none,.none,.none,.bool false,.none],sl⟩
  dict:∃ h1 h2 h3 u1 u2 u3 t1 t2 t3 n,h.get? dx=some (dictOf [⟨h1,.str (Str.ofString "kind") u1,.str k t1⟩,⟨h2,.str (Str.ofString "at") u2,.int i t2⟩,⟨h3,.str (Str.ofString "detail") u3,.str nm t3⟩] n)
set_option hygiene false in
local macro_rules |`(tactic| x_close)=>`(tactic| (
  with_reducible rename PySem.W.X.Mem _ _ _ _=>D9
  refine' hQ _ ?dx ?T _ _ (fun b o e=>D9.keep b o e (by simp [PySem.W.X.away])) ⟨⟨_,(nw_at (o:=⟨.ref 122,some ?dx,.fields #[.ref ?T,.none,.none,.none,.bool false,.none],_⟩) D9 ?m1).1⟩,⟨_,_,_,_,_,_,_,_,_,?n,(nw_at (a:=?dx) (o:=dictOf [⟨_,.str (Str.ofString "kind") _,.str k _⟩,⟨_,.str (Str.ofString "at") _,.int i _⟩,⟨_,.str (Str.ofString "detail") _,.str nm _⟩] ?n) D9 ?m2).1⟩⟩ (nw_at D9 ?m1).2 (nw_at D9 ?m2).2
  case m1=>k_mem
  case m2=>k_mem))
theorem exc_made {prog:Program} {w:World} {A:Around} {k nm:Str} {i:Int} {t1 t2 t3:Tok} {Q E:Value→Shared→Prop} {h:Heap} {g:Array GenState} {d:Drawn} {t:Nat} {os:OsState}
    (X:(K0 w.params).In h) (hh:A.handled=none) (hd:A.depth+20<recursionLimit) (hu:A.units+400<cLine)
    (hQ:∀ e dx T h' tk',(∀ b o,h.get? b=some o→h'.get? b=some o)→ExcIs h' e dx T k nm i→h.get? e=none→h.get? dx=none→Q (.ref e) ⟨h',g,d,tk',os⟩) :
    wpAny (model prog w) A (call (.ref (nat_lit 122)) [.str k t1,.int i t2,.str nm t3]) Q E ⟨h,g,d,t,os⟩:=by
  refine wider (D:=980) (U:=9500) hh (by have:recursionLimit=1000:=rfl;omega) (by have:cLine=9900:=rfl;omega) ?_
  have e2:=X (nat_lit 2) ⟨_,_,_,_⟩ rfl
  have e99:=X (nat_lit 99) ⟨_,_,_,_⟩ rfl
  have e105:=X (nat_lit 105) ⟨_,_,_,_⟩ rfl
  have e106:=fn_at (X (nat_lit 106) ⟨_,_,_,_⟩ rfl) (by kernel_rfl:fName (mAt 5 0)=Str.ofString "__init__") (by conv=>(lhs;whnf)) (by conv=>(lhs;whnf)) (by conv=>(lhs;whnf))
  have e108:=X (nat_lit 108) ⟨_,_,_,_⟩ rfl
  have e109:=X (nat_lit 109) ⟨_,_,_,_⟩ rfl
  have e121:=X (nat_lit 121) ⟨_,_,_,_⟩ rfl
  have e122:=X (nat_lit 122) ⟨_,_,_,_⟩ rfl
  x_run
end
section
/-- an exception that bears a traceback: its class,its own dict and the traceback's head are known -/
noncomputable def TrD (h base:Heap) (e:Addr) (cls:Value) (dd:Option Addr) (fl:Value):Prop :=
  ∃ oe vs T oT ts,h.get? e=some oe∧(oe.cls=cls∧oe.dict=dd)∧oe.data=.fields vs∧vs[1]?=some (.ref T)∧base.get? T=none∧T≠e∧h.get? T=some oT∧oT.data=.fields ts∧ts[3]?=some fl
noncomputable def FrD (h:Heap) (e:Addr) (cls:Value) (dd:Option Addr):Prop :=
  ∃ oe vs,h.get? e=some oe∧(oe.cls=cls∧oe.dict=dd)∧oe.data=.fields vs∧vs[1]?=some .none
theorem dict_mapFields (f:Array Value→Array Value) (o:Obj):(Obj.mapFields f o).dict=o.dict:=by
  obtain ⟨c,d,dt,sl⟩:=o
  cases dt <;> rfl
section
variable {M:Model} {A:Around} {E:Value→Shared→Prop} {s:Shared} {base:Heap} {env:Env} {outer:List Env} {L e:Addr} {cls:Value} {dd:Option Addr}
theorem entry_D {oe:Obj} {vs:Array Value} {head:Value} {hadNext:Bool} {Q:Unit→Shared→Prop}
    (hfr:A.frames=some (env::outer)) (hl:s.heap.FunFrames base (env::outer)) (hf:env.frame=some L)
    (he:s.heap.get? e=some oe) (hc:oe.cls=cls∧oe.dict=dd) (hkb:base.StaysIn s.heap) (hen:base.get? e=none) (hd:oe.data=.fields vs) (hsz:1<vs.size)
    (h:∀ h',base.StaysIn h'→h'.FunFrames base (env::outer)→TrD h' base e cls dd (rawInt L)→s.heap.UpToSlots h'→Q () { s with heap:=h' }) :
    wpAny M A (do let a ← frameOf env;let pl ← entryPlaceOf L hadNext;let b ← EntryCells.newEntry head a .none (rawInt L) .none pl;setField (.ref e) 1 b) Q E s:=by
  have hne:∀ b o,s.heap.get? b=some o→(∀ ws,o.data≠.fields ws)→b≠e:=fun b o hb hn q=>by
    rw [q,he] at hb;injection hb with hb;subst hb;exact hn vs hd
  have hout:e ∉ (env::outer).filterMap (·.frame):=fun hm=>by
    obtain ⟨_,o,ho,hn⟩:=hl.mem hm
    exact hne e o ho hn rfl
  refine wpAny_bind (wpAny_frameOf_fun hfr hl hf fun h₁ hs₁=>?_)
  refine wpAny_bind (wpAny_entryPlaceOf fun pl hpl=>?_)
  unfold EntryCells.newEntry newFields
  refine wpAny_bind (wpAny_newObj_type ?_ (hpl.sizeOk5 _ _ _ _ _))
  have he₁:h₁.get? e=some oe:=(hs₁.2.1 e hout).trans he
  have hT:h₁.objs.size≠e:=Nat.ne_of_gt (Heap.lt_size he₁)
  refine wpAny_setField (Heap.get?_push_of_some _ he₁) hd hsz (h _ ?_ ?_ ?_ ?_)
  · intro b o hb
    have hbe:b≠e:=fun q=>by rw [q,hen] at hb;cases hb
    have h1:h₁.get? b=some o:=(hs₁.2.1 b fun hm=>by rw [(hl.mem hm).1] at hb;cases hb).trans (hkb b o hb)
    rw [Heap.get?_update_other _ _ (Ne.symm hbe)]
    exact Heap.get?_push_of_some _ h1
  · refine hl.of_keeps fun b o hb hn=>?_
    obtain ⟨sl,h2⟩:=hs₁.2.2 b o hb
    refine ⟨{ o with slots:=sl },?_,rfl⟩
    rw [Heap.get?_update_other _ _ (Ne.symm (hne b o hb hn))]
    exact Heap.get?_push_of_some _ h2
  · have hd₃:=Obj.data_mapFields hd (·.setIfInBounds 1 (Value.ref h₁.objs.size))
    have kb₁:base.StaysIn h₁:=fun b o hb=>(hs₁.2.1 b fun hm=>by rw [(hl.mem hm).1] at hb;cases hb).trans (hkb b o hb)
    have hT₃:=(Heap.get?_update_other (h₁.push { cls:=.type "traceback",dict:=none,data:=.fields ([head,.ref L,.none,rawInt L,.none]++(if pl.isEmpty then List.replicate 6 Value.none else pl)).toArray })
      (Obj.mapFields (·.setIfInBounds 1 (Value.ref h₁.objs.size))) (Ne.symm hT)).trans (Heap.get?_push_size h₁ rfl)
    have h3:([head,.ref L,.none,rawInt L,.none]++(if pl.isEmpty then List.replicate 6 Value.none else pl)).toArray[3]?=some (rawInt L):=by simp
    exact ⟨_,_,h₁.objs.size,_,_,Heap.get?_update_self _ (Heap.get?_push_of_some _ he₁) (Obj.isFreed_of_fields hd₃),⟨(Obj.cls_mapFields _ _).trans hc.1,(dict_mapFields _ _).trans hc.2⟩,hd₃,by simp [hsz],kb₁.fresh,hT,hT₃,rfl,h3⟩
  · intro b o hb hn
    obtain ⟨sl,h2⟩:=hs₁.2.2 b o hb
    refine ⟨sl,?_⟩
    rw [Heap.get?_update_other _ _ (Ne.symm (hne b o hb hn))]
    exact Heap.get?_push_of_some _ h2
theorem flight_D {l:List Env} {fl:Value} {Q:Unit→Shared→Prop} (hkb:base.StaysIn s.heap) (hl:s.heap.FunFrames base l) (ht:TrD s.heap base e cls dd fl)
    (h:∀ h',base.StaysIn h'→h'.FunFrames base l→TrD h' base e cls dd .none→s.heap.UpToSlots h'→Q () { s with heap:=h' }):wpAny M A (setFlight (.ref e) none) Q E s:=by
  obtain ⟨oe,vs,T,oT,ts,he,hc,hd,h1,hnT,hTe,hT,hdT,h3⟩:=ht
  have h3s:3<ts.size:=(Array.getElem?_eq_some_iff.mp h3).1
  have other:∀ b,b≠T→(s.heap.update T (Obj.mapFields (·.setIfInBounds 3 ((none:Option Addr).elim Value.none fun f=>rawInt f)))).get? b=s.heap.get? b:=fun b hb=>Heap.get?_update_other _ _ (Ne.symm hb)
  have hne:∀ b o,s.heap.get? b=some o→(∀ ws,o.data≠.fields ws)→b≠T:=fun b o hb hn q=>by
    rw [q,hT] at hb;injection hb with hb;subst hb;exact hn ts hdT
  unfold setFlight
  refine wpAny_bind (wpAny_field he hd h1 ?_)
  rw [if_pos (show (Value.ref T != Value.none)=true from by simp)]
  refine wpAny_setField hT hdT h3s (h _ (fun b o hb=>(other b fun q=>by rw [q,hnT] at hb;cases hb).trans (hkb b o hb)) (hl.of_keeps fun b o hb hn=>⟨o,(other b (hne b o hb hn)).trans hb,rfl⟩) ?_ fun b o hb hn=>⟨o.slots,(other b (hne b o hb hn)).trans hb⟩)
  exact ⟨oe,vs,T,_,_,(other e (Ne.symm hTe)).trans he,hc,hd,h1,hnT,hTe,Heap.get?_update_self _ hT (Obj.isFreed_of_fields (Obj.data_mapFields hdT _)),Obj.data_mapFields hdT _,by simp [h3s]⟩
theorem note_D {Q:Unit→Shared→Prop} (hfr:A.frames=some (env::outer)) (hl:s.heap.FunFrames base (env::outer)) (hf:env.frame=some L) (hkb:base.StaysIn s.heap) (hen:base.get? e=none)
    (ht:FrD s.heap e cls dd∨TrD s.heap base e cls dd .none)
    (h:∀ h',base.StaysIn h'→h'.FunFrames base (env::outer)→TrD h' base e cls dd (rawInt L)→s.heap.UpToSlots h'→Q () { s with heap:=h' }):wpAny M A (noteFrame (.ref e) env) Q E s:=by
  unfold noteFrame
  simp only [hf]
  rcases ht with ⟨oe,vs,he,hc,hd,h1⟩|⟨oe,vs,T,oT,ts,he,hc,hd,h1,hnT,hTe,hT,hdT,h3⟩
  · refine wpAny_bind (wpAny_field he hd h1 ?_)
    rw [if_neg (by decide)]
    exact entry_D hfr hl hf he hc hkb hen hd (Array.getElem?_eq_some_iff.mp h1).1 h
  · refine wpAny_bind (wpAny_field he hd h1 ?_)
    rw [if_pos (show (Value.ref T != Value.none)=true from by simp)]
    refine wpAny_bind (wpAny_field hT hdT h3 ?_)
    rw [if_neg (show ¬ ((Value.none == rawInt L)=true) from by simp [rawInt])]
    refine wpAny_bind (wpAny_setField hT hdT (Array.getElem?_eq_some_iff.mp h3).1 ?_)
    have other:∀ b,b≠T→(s.heap.update T (Obj.mapFields (·.setIfInBounds 3 Value.none))).get? b=s.heap.get? b:=fun b hb=>Heap.get?_update_other _ _ (Ne.symm hb)
    have hne:∀ b o,s.heap.get? b=some o→(∀ ws,o.data≠.fields ws)→b≠T:=fun b o hb hn q=>by
      rw [q,hT] at hb;injection hb with hb;subst hb;exact hn ts hdT
    refine entry_D hfr (hl.of_keeps fun b o hb hn=>⟨o,(other b (hne b o hb hn)).trans hb,rfl⟩) hf ((other e (Ne.symm hTe)).trans he) hc (fun b o hb=>(other b fun q=>by rw [q,hnT] at hb;cases hb).trans (hkb b o hb)) hen hd (Array.getElem?_eq_some_iff.mp h1).1 fun h' x1 x2 x3 x4=>h h' x1 x2 x3 ?_
    intro b o hb hn
    exact x4 b o ((other b (hne b o hb hn)).trans hb) hn
theorem leaving_D {Q:Unit→Shared→Prop} (hfr:A.frames=some (env::outer)) (hl:s.heap.FunFrames base (env::outer)) (hf:env.frame=some L) (hkb:base.StaysIn s.heap) (hen:base.get? e=none)
    (ht:FrD s.heap e cls dd∨TrD s.heap base e cls dd .none)
    (h:∀ h',base.StaysIn h'→h'.FunFrames base (env::outer)→TrD h' base e cls dd .none→s.heap.UpToSlots h'→Q () { s with heap:=h' }):wpAny M A («leaving» env (.ref e)) Q E s:=by
  unfold «leaving»
  refine wpAny_bind (note_D hfr hl hf hkb hen ht fun h₁ x1 x2 x3 x4=>?_)
  exact flight_D (s:={ s with heap:=h₁ }) x1 x2 x3 fun h₂ y1 y2 y3 y4=>h h₂ y1 y2 y3 (x4.trans y4)
end
end
section
/-- DesignError in flight: its dict od lies at dx;what G holds,but the frames of l,is there still -/
noncomputable def RaisedD (base G:Heap) (l:List Env) (e dx:Addr) (od:Obj) (news:Led) (h:Heap):Prop :=
  (∃ B,base.StaysIn B∧(∀ b o,G.get? b=some o→b ∉ l.filterMap (·.frame)→B.get? b=some o)∧(∀ q∈news,B.get? q.1=some q.2)∧B.StaysIn h∧B.get? e=none∧B.get? dx=none∧h.FunFrames B l∧TrD h B e (.ref 122) (some dx) .none)∧(∃ sl,h.get? dx=some { od with slots:=sl })∧(∀ ws,od.data≠.fields ws)∧∀ v∈l,v.frame≠some dx
section
variable {M:Model} {A:Around} {E:Value→Shared→Prop} {s':Shared} {base g g₂ h:Heap} {outer:List Env} {L a e dx:Addr} {od:Obj} {m:Str→Option Value} {name:Str} {scope:Scope} {cd:Value} {Q:Unit→Shared→Prop} {news:Led}
theorem leave_raiseD (K:Below A base outer g) (F:Fr g L h m) (N:News g L h news) (kk:∀ b o,h.get? b=some o→s'.heap.get? b=some o) (hx:FrD s'.heap e (.ref 122) (some dx)) (hd:s'.heap.get? dx=some od) (hnf:∀ ws,od.data≠.fields ws) (ne:h.get? e=none) (nd:h.get? dx=none)
    (hQ:∀ h',RaisedD base g outer e dx od news h'→g.UpToSlots h'→Q () { s' with heap:=h' }) (hk:scope.kind=.function:=by rfl) :
    wpAny M (A.deeper (envOf name scope L a cd)) («leaving» (envOf name scope L a cd) (.ref e)) Q E s':=by
  have K':=K.push (name:=name) (a:=a) (cd:=cd) F hk
  have hin:∀ env∈(envOf name scope L a cd::outer),∀ b,env.frame=some b→b∈(envOf name scope L a cd::outer).filterMap (·.frame):=fun env he b hb=>List.mem_filterMap.mpr ⟨env,he,hb⟩
  have st:base.StaysIn (hideAll h ((envOf name scope L a cd::outer).filterMap (·.frame))):=fun b o q=>hideAll_get _ (K'.stays b o q) fun hm=>by
    rw [(K'.frames.mem hm).1] at q;cases q
  have hl:∀ q∈news,(hideAll h ((envOf name scope L a cd::outer).filterMap (·.frame))).get? q.1=some q.2:=fun q hq=>by
    refine hideAll_get _ (N q hq).1 fun hm=>?_
    obtain ⟨env,he,hf⟩:=List.mem_filterMap.mp hm
    rcases List.mem_cons.mp he with rfl|he
    · exact (N q hq).2.1 (Option.some.inj hf).symm
    · obtain ⟨o,ho,_⟩:=(K.frames.mem (List.mem_filterMap.mpr ⟨env,he,hf⟩)).2
      rw [(N q hq).2.2] at ho;cases ho
  have none_of:∀ b,h.get? b=none→(hideAll h ((envOf name scope L a cd::outer).filterMap (·.frame))).get? b=none:=fun b hb=>by
    cases q:(hideAll h ((envOf name scope L a cd::outer).filterMap (·.frame))).get? b with
    | none=>rfl
    | some o=>have:=of_hideAll _ q;rw [hb] at this;cases this
  have hfr:∀ v∈(envOf name scope L a cd::outer),v.frame≠some dx:=fun v hv q=>by
    obtain ⟨_,o,ho,_⟩:=K'.frames.mem (List.mem_filterMap.mpr ⟨v,hv,q⟩)
    rw [nd] at ho;cases ho
  refine leaving_D K'.stack ((funFrames_hide K'.frames hin).of_keeps fun b o hb _=>⟨o,kk b o hb,rfl⟩) rfl (fun b o q=>kk b o (of_hideAll _ q)) (none_of e ne) (.inl hx) fun h' x1 x2 x3 x4=>?_
  obtain ⟨_,_,x2'⟩:=x2
  obtain ⟨sl,hs⟩:=x4 dx od hd hnf
  have hBG:∀ b o,g.get? b=some o→b ∉ outer.filterMap (·.frame)→(hideAll h ((envOf name scope L a cd::outer).filterMap (·.frame))).get? b=some o:=fun b o q nm=>hideAll_get _ (F.keep b o q) fun hm=>by
    rcases kts_mem hm with z|z
    · rw [z,kts_self F] at q;cases q
    · exact nm z
  exact hQ h' ⟨⟨_,st,hBG,hl,x1,none_of e ne,none_of dx nd,x2',x3⟩,⟨sl,hs⟩,hnf,fun v hv=>hfr v (.tail _ hv)⟩ (((Heap.UpToSlots.of_keeps F.keep).trans (Heap.UpToSlots.of_keeps kk)).trans x4)
theorem leave_onD (K:Below A base outer g) (F:Fr g L g₂ m) (R:RaisedD base g₂ (envOf name scope L a cd::outer) e dx od news s'.heap) (hsm:g₂.UpToSlots s'.heap)
    (hQ:∀ h',RaisedD base g outer e dx od news h'→g.UpToSlots h'→Q () { s' with heap:=h' }) :
    wpAny M (A.deeper (envOf name scope L a cd)) («leaving» (envOf name scope L a cd) (.ref e)) Q E s':=by
  obtain ⟨⟨B,hB,hBG,hl,b1,b2,b2',b3,b4⟩,⟨sl,hs⟩,hnf,hfr⟩:=R
  refine leaving_D (Around.frames_deeper K.stack) b3 rfl b1 b2 (.inr b4) fun h' x1 x2 x3 x4=>?_
  obtain ⟨_,_,x2'⟩:=x2
  obtain ⟨sl',hs'⟩:=x4 dx _ hs hnf
  have hBG':∀ b o,g.get? b=some o→b ∉ outer.filterMap (·.frame)→B.get? b=some o:=fun b o q nm=>hBG b o (F.keep b o q) fun hm=>by
    rcases kts_mem hm with z|z
    · rw [z,kts_self F] at q;cases q
    · exact nm z
  exact hQ h' ⟨⟨B,hB,hBG',hl,x1,b2,b2',x2',x3⟩,⟨sl',hs'⟩,hnf,fun v hv=>hfr v (.tail _ hv)⟩ ((Heap.UpToSlots.of_keeps F.keep).trans (hsm.trans x4))
end
/-- the caught exception,as the handler finds it -/
structure Caught (h:Heap) (e dx:Addr) (od:Obj):Prop where
  obj:∃ oe vs,h.get? e=some oe∧oe.cls=.ref 122∧oe.dict=some dx∧oe.data=.fields vs
  dict:∃ sl,h.get? dx=some { od with slots:=sl }
section
variable {prog:Program} {w:World} {A₀:Around} {E:Value→Shared→Prop} {s':Shared} {base g G:Heap} {outer:List Env} {L a e dx:Addr} {od:Obj} {m:Str→Option Value} {name:Str} {scope:Scope} {cd:Value}
  {n:Str} {b₀:Stmt} {suite:List Stmt} {pos np:Pos} {rest:List ExceptHandler} {Q:Flow→Shared→Prop} {news:Led}
  {p:Program} {loose:List Str} {mean:ExcName→Option Value} {mg mb:Str→Option Value}
theorem caught_D (K:Below A₀ base outer g) (F:Fr g L G m) (hsm:G.UpToSlots s'.heap) (R:RaisedD base G (envOf name scope L a cd::outer) e dx od news s'.heap)
    (hn:∀ q∈news,g.get? q.1=none) (hnL:∀ q∈news,q.1≠L) (X:(K0 w.params).In base) (T:Top p loose mean mg mb base)
    (k:∀ g' h' tk,KtsTurn (outer.filterMap (·.frame)) g g'→Below A₀ base outer g'→(K0 w.params).In g'→Top p loose mean mg mb g'→Fr g' L h' (fun y=>if y=n then some (.ref e) else m y)→News g' L h' news→Caught h' e dx od →
      wpAny (model prog w) ((A₀.deeper (envOf name scope L a cd)).mark (some (.ref e))) (execs (b₀::suite) (envOf name scope L a cd))
        (fun f s₄=>wpAny (model prog w) (A₀.deeper (envOf name scope L a cd)) (do bindName (envOf name scope L a cd) n .none;unbindBehindTheSuite (envOf name scope L a cd) n pos) (fun _ s₅=>Q f s₅) E s₄)
        (AsSuiteRaised (model prog w) ((A₀.deeper (envOf name scope L a cd)).mark (some (.ref e))) (envOf name scope L a cd) n pos (notedBy (model prog w) ((A₀.deeper (envOf name scope L a cd)).mark (some (.ref e))) (envOf name scope L a cd) (cameBackBy (model prog w) (A₀.deeper (envOf name scope L a cd)) (envOf name scope L a cd) E)))
        { s' with heap:=h',toks:=tk })
    (hk:scope.kind=.function:=by rfl) (hlo:(envOf name scope L a cd).kindOf n=some .local:=by rfl) (hx:(envOf name scope L a cd).kindOf (Str.ofString "DesignError")=some .globalImplicit:=by rfl) :
    wpAny (model prog w) (A₀.deeper (envOf name scope L a cd)) (noteFrame (.ref e) (envOf name scope L a cd))
      (fun _ s₂=>wpAny (model prog w) (A₀.deeper (envOf name scope L a cd)) (setFlight (.ref e) none) (fun _ s₃ =>
        wpAny (model prog w) (A₀.deeper (envOf name scope L a cd)) (handleBy (.ref e) (envOf name scope L a cd) (.ExceptHandler (some (.Name (Str.ofString "DesignError") np)) (some n) (b₀::suite) pos::rest)) Q E s₃) E s₂) E s':=by
  obtain ⟨⟨B,hB,hBG,hl,b1,b2,b2',b3,b4⟩,⟨sl,hs⟩,hnf,hfr⟩:=R
  refine note_D (Around.frames_deeper K.stack) b3 rfl b1 b2 (.inr b4) fun h₄ x1 x2 x3 x4=>?_
  refine flight_D (s:={ s' with heap:=h₄ }) x1 x2 x3 fun h₅ y1 y2 y3 y4=>?_
  obtain ⟨g',Tu,F₅,K'⟩:=kts_ground K F hBG y1 (hsm.trans (x4.trans y4))
  have X':(K0 w.params).In g':=fun b o q=>K'.stays b o (X b o q)
  have T':Top p loose mean mg mb g':=T.keeps K'.stays
  obtain ⟨ob,_,_,_,_,hob,hobc,_⟩:=id y3
  refine wpAny_handleBy_cons (codeAny_handlers_test (name_K F₅ X' (topRead_of T') (v:=.ref 122) (by kernel_rfl) ?_ hk hx (by decide))) (by intro q;cases q)
  refine wpAny_excMatches_sub_self (F₅.keep _ _ (X' (nat_lit 122) (excClassObj _ _ (nat_lit 122) _ _ _ _ _ _ _ _ _ _ _ _ _ _ _) rfl)) hob hobc.1 (by decide) (codeAny_handlers_suite_as ?_)
  refine flight_D (s:={ s' with heap:=h₅ }) y1 y2 y3 fun h₆ z1 z2 z3 z4=>?_
  obtain ⟨g₂,Tu₂,F₆,K₂⟩:=kts_ground K F hBG z1 (hsm.trans (x4.trans (y4.trans z4)))
  have X₂:(K0 w.params).In g₂:=fun b o q=>K₂.stays b o (X b o q)
  have T₂:Top p loose mean mg mb g₂:=T.keeps K₂.stays
  have N₆:News g₂ L h₆ news:=fun q hq=>⟨z1 _ _ (hl q hq),hnL q hq,Tu₂.none_ _ (hn q hq)⟩
  have hdn:dx≠L:=fun q=>hfr _ (.head _) (by rw [q];rfl)
  obtain ⟨sl1,hs1⟩:=(x4.trans (y4.trans z4)) dx _ hs hnf
  obtain ⟨oe,vs,_,_,_,hoe,hoc,hod,_⟩:=id z3
  have nfr:∀ b∈(envOf name scope L a cd::outer).filterMap (·.frame),b≠e:=fun b hb q=>by
    obtain ⟨_,o,ho,hno⟩:=z2.mem hb
    rw [q] at ho
    rw [ho] at hoe
    cases hoe
    exact hno vs hod
  have ne:e≠L:=fun q=>nfr L (List.mem_filterMap.mpr ⟨_,.head _,rfl⟩) q.symm
  have ge:g.get? e=none:=kts_fresh F hBG b2 fun o _ hm=>nfr e (List.mem_filterMap.mpr (by
    obtain ⟨v,hv,hf⟩:=List.mem_filterMap.mp hm
    exact ⟨v,.tail _ hv,hf⟩)) rfl
  have gd:g.get? dx=none:=kts_fresh F hBG b2' fun o _ hm=>by
    obtain ⟨v,hv,hf⟩:=List.mem_filterMap.mp hm
    exact hfr v (.tail _ hv) hf
  have N₇:News g₂ L h₆ ((e,oe)::(dx,{ od with slots:=sl1 })::news) :=
    List.forall_mem_cons.mpr ⟨⟨hoe,ne,Tu₂.none_ _ ge⟩,List.forall_mem_cons.mpr ⟨⟨hs1,hdn,Tu₂.none_ _ gd⟩,N₆⟩⟩
  refine stN F₆ N₇ (fun h₇ F₇ N₈=>?_) hk hlo
  exact k g₂ h₇ _ Tu₂ K₂ X₂ T₂ F₇ (fun q hq=>N₈ q (.tail _ (.tail _ hq))) ⟨⟨oe,vs,(N₈ _ (.head _)).1,hoc.1,hoc.2,hod⟩,⟨sl1,(N₈ _ (.tail _ (.head _))).1⟩⟩
end
end
section
theorem wider' {α:Type} {M:Model} {A:Around} {t:Sem α} {Q:α→Shared→Prop} {E:Value→Shared→Prop} {s:Shared} {D U:Nat} (hd:A.depth≤D) (hu:A.units≤U)
    (h:wpAny M { handled:=A.handled,depth:=D,frames:=none,guards:=none,units:=U } t Q E s):wpAny M A t Q E s:=fun Γ p i =>
  h Γ p ⟨i.1,Nat.le_trans i.2.1 hd,fun _ e=>(nomatch e),fun _ e=>(nomatch e),Nat.le_trans i.2.2.2.2 hu⟩
noncomputable abbrev excD (k nm:Str) (i:Int) (h1 h2 h3:Int) (u1 u2 u3 t1 t2 t3:Tok) (n:Nat):Obj:=dictOf [⟨h1,.str (Str.ofString "kind") u1,.str k t1⟩,⟨h2,.str (Str.ofString "at") u2,.int i t2⟩,⟨h3,.str (Str.ofString "detail") u3,.str nm t3⟩] n
theorem bg_bind (self:Value):bindSpecial (.builtin "BaseException.__getattribute__") self=pure (.builtin "BaseException.__getattribute__",[self]):=by
  have hop:withoutEnding? "BaseException.__getattribute__" "#opaque"=none:=by decide +kernel
  have hdat:withoutEnding? "BaseException.__getattribute__" "#data"=none:=by decide +kernel
  have hk:builtinKind "BaseException.__getattribute__"=some .slot:=by decide +kernel
  simp only [bindSpecial,typeOf,builtinType,hop,hdat,hk];rfl
section
variable {prog:Program} {w:World} {A:Around} {E:Value→Shared→Prop} {h:Heap} {g:Array GenState} {d:Drawn} {t:Nat} {os:OsState} {Q:Value→Shared→Prop} {e dx:Addr} {oe:Obj} {vs:Array Value} {k nm:Str} {i h1 h2 h3:Int} {u1 u2 u3 t1 t2 t3 tn:Tok} {n:Nat} {sl:Array (Option Value)}
theorem get_open_exc {name:Str} {expr:Bool} (X:(K0 w.params).In h) (he:h.get? e=some oe) (hc:oe.cls=.ref 122)
    (hq:wpAny (model prog w) A (call (.builtin "BaseException.__getattribute__") [.ref e,.str name t]) (fun v s'=>wpAny (model prog w) A (handedOut v) Q E s') (fun x s'=>wpAny (model prog w) A (getattributeRaised (.ref e) (.str name t) (.ref 122) x none true expr) Q E s') ⟨h,g,d,t+1,os⟩) :
    wpAny (model prog w) A (getAttr (.ref e) name expr) Q E ⟨h,g,d,t,os⟩:=by
  have L0:Looks (model prog w) h (typeOf (.ref e)) (.ref 122):=hc ▸ (Looks.ld he).andThen .now
  have L1:Looks (model prog w) h (typeLookup (.ref (nat_lit 122)) "__getattribute__") (some (.builtin "BaseException.__getattribute__")):=looks_findIn X (by kernel_rfl)
  have L2:Looks (model prog w) h (typeLookup (.ref (nat_lit 122)) "__getattr__") none:=looks_findIn X (by kernel_rfl)
  unfold getAttr getAttrBy
  refine wpAny_bind (wpAny_mkText (wpAny_holding (wpAny_bind (L0.at (wpAny_bind (L1.at ?_))))))
  show wpAny _ _ (getAttrByItsOwn _ _ _ _ _ _) _ _ _
  unfold getAttrByItsOwn
  refine wpAny_bind (L2.at ?_)
  refine wpAny_bind (wpAny_attempt (wpAny_holding ?_))
  have ec:callGetattribute (.ref e) (.str name t) (.builtin "BaseException.__getattribute__") expr=call (.builtin "BaseException.__getattribute__") [.ref e,.str name t]:=by
    unfold callGetattribute boundAndCalled
    rw [bg_bind]
    cases expr <;> rfl
  rw [ec]
  exact hq
set_option hygiene false in
local macro_rules |`(tactic| x_close)=>`(tactic| (rw [handedOut_of rfl];exact wpAny_pure (hQ _)))
theorem get_kind {expr:Bool} (X:(K0 w.params).In h) (hd:A.depth+20<recursionLimit) (hu:A.units+400<cLine) (he:h.get? e=some oe) (hc:oe.cls=.ref 122) (hx:oe.dict=some dx) (hv:oe.data=.fields vs) (hdx:h.get? dx=some { excD k nm i h1 h2 h3 u1 u2 u3 t1 t2 t3 n with slots:=sl })
    (hQ:∀ tk,Q (.str k t1) ⟨h,g,d,tk,os⟩):wpAny (model prog w) A (getAttr (.ref e) (Str.ofString "kind") expr) Q E ⟨h,g,d,t,os⟩:=by
  refine get_open_exc X he hc ?_
  obtain ⟨c,dd,dt,sl'⟩:=oe
  dsimp only at hc hx hv
  subst hc hx hv
  have e2:=X (nat_lit 2) ⟨_,_,_,_⟩ rfl
  have e108:=X (nat_lit 108) ⟨_,_,_,_⟩ rfl
  have e109:=X (nat_lit 109) ⟨_,_,_,_⟩ rfl
  have e121:=X (nat_lit 121) ⟨_,_,_,_⟩ rfl
  have e122:=X (nat_lit 122) ⟨_,_,_,_⟩ rfl
  refine wider' (D:=980) (U:=9500) (by have:recursionLimit=1000:=rfl;omega) (by have:cLine=9900:=rfl;omega) ?_
  x_run
set_option hygiene false in
local macro_rules |`(tactic| x_close)=>`(tactic| (rw [handedOut_of rfl];exact wpAny_pure (hQ _)))
theorem get_at {expr:Bool} (X:(K0 w.params).In h) (hd:A.depth+20<recursionLimit) (hu:A.units+400<cLine) (he:h.get? e=some oe) (hc:oe.cls=.ref 122) (hx:oe.dict=some dx) (hv:oe.data=.fields vs) (hdx:h.get? dx=some { excD k nm i h1 h2 h3 u1 u2 u3 t1 t2 t3 n with slots:=sl })
    (hQ:∀ tk,Q (.int i t2) ⟨h,g,d,tk,os⟩):wpAny (model prog w) A (getAttr (.ref e) (Str.ofString "at") expr) Q E ⟨h,g,d,t,os⟩:=by
  refine get_open_exc X he hc ?_
  obtain ⟨c,dd,dt,sl'⟩:=oe
  dsimp only at hc hx hv
  subst hc hx hv
  have e2:=X (nat_lit 2) ⟨_,_,_,_⟩ rfl
  have e108:=X (nat_lit 108) ⟨_,_,_,_⟩ rfl
  have e109:=X (nat_lit 109) ⟨_,_,_,_⟩ rfl
  have e121:=X (nat_lit 121) ⟨_,_,_,_⟩ rfl
  have e122:=X (nat_lit 122) ⟨_,_,_,_⟩ rfl
  refine wider' (D:=980) (U:=9500) (by have:recursionLimit=1000:=rfl;omega) (by have:cLine=9900:=rfl;omega) ?_
  x_run
set_option hygiene false in
local macro_rules |`(tactic| x_close)=>`(tactic| (rw [handedOut_of rfl];exact wpAny_pure (hQ _)))
theorem get_detail {expr:Bool} (X:(K0 w.params).In h) (hd:A.depth+20<recursionLimit) (hu:A.units+400<cLine) (he:h.get? e=some oe) (hc:oe.cls=.ref 122) (hx:oe.dict=some dx) (hv:oe.data=.fields vs) (hdx:h.get? dx=some { excD k nm i h1 h2 h3 u1 u2 u3 t1 t2 t3 n with slots:=sl })
    (hQ:∀ tk,Q (.str nm t3) ⟨h,g,d,tk,os⟩):wpAny (model prog w) A (getAttr (.ref e) (Str.ofString "detail") expr) Q E ⟨h,g,d,t,os⟩:=by
  refine get_open_exc X he hc ?_
  obtain ⟨c,dd,dt,sl'⟩:=oe
  dsimp only at hc hx hv
  subst hc hx hv
  have e2:=X (nat_lit 2) ⟨_,_,_,_⟩ rfl
  have e108:=X (nat_lit 108) ⟨_,_,_,_⟩ rfl
  have e109:=X (nat_lit 109) ⟨_,_,_,_⟩ rfl
  have e121:=X (nat_lit 121) ⟨_,_,_,_⟩ rfl
  have e122:=X (nat_lit 122) ⟨_,_,_,_⟩ rfl
  refine wider' (D:=980) (U:=9500) (by have:recursionLimit=1000:=rfl;omega) (by have:cLine=9900:=rfl;omega) ?_
  x_run
end
end
section
section
variable {prog:Program} {w:World} {A:Around} {E:Value→Shared→Prop} {s:Shared} {env:Env}
theorem raise_D {x:PySem.Expr} {pos:Pos} {Q:Flow→Shared→Prop} (hh:A.handled=none)
    (h:wpAny (model prog w) A (eval x env) (fun v s₁=>∃ e dx T,v=.ref e∧(K0 w.params).In s₁.heap∧(∃ sl,s₁.heap.get? e=some ⟨.ref 122,some dx,.fields #[.ref T,.none,.none,.none,.bool false,.none],sl⟩)∧E (.ref e) s₁) E s) :
    wpAny (model prog w) A (exec (.Raise (some x) none pos) env) Q E s:=by
  rw [arm_exec_Raise]
  refine wpAny_bind (wpAny_standAt ?_)
  show wpAny _ _ (raiseStmt env (some (do let v ← eval x env;standAt pos;pure v)) none) _ _ _
  unfold raiseStmt
  refine wpAny_bind (wpAny_bind (wpAny_mono h (fun v s₁ h₁=>?_) fun _ _ y=>y))
  obtain ⟨e,dx,T,rfl,X,⟨sl,he⟩,hE⟩:=h₁
  refine wpAny_bind (wpAny_standAt (wpAny_pure ?_))
  have hC:=X (nat_lit 122) (excClassObj _ _ (nat_lit 122) _ _ _ _ _ _ _ _ _ _ _ _ _ _ _) rfl
  obtain ⟨hp,g,d,tk,os⟩:=s₁
  have hcB:(Value.ref (nat_lit 122)::[Value.ref (nat_lit 109),Value.type "Exception",Value.type "BaseException",Value.type "object"]).contains (.type "BaseException")=true:=by decide
  repeat (first|with_reducible refine wpAny_loadPart_at he ?_|with_reducible refine wpAny_loadPart_at hC ?_|(with_reducible refine wpAny_isSubtype_exc hC ?_;rw [hcB])|wp_step)
  exact wpAny_raiseNew_none hh hE
end
theorem exc_raise {prog:Program} {w:World} {A:Around} {k nm:Str} {i:Int} {t1 t2 t3:Tok} {E1 E:Value→Shared→Prop} {h:Heap} {g:Array GenState} {d:Drawn} {t:Nat} {os:OsState}
    (X:(K0 w.params).In h) (hh:A.handled=none) (hd:A.depth+20<recursionLimit) (hu:A.units+400<cLine)
    (hQ:∀ e dx T h' tk',(∀ b o,h.get? b=some o→h'.get? b=some o)→ExcIs h' e dx T k nm i→h.get? e=none→h.get? dx=none→E1 (.ref e) ⟨h',g,d,tk',os⟩) :
    wpAny (model prog w) A (call (.ref (nat_lit 122)) [.str k t1,.int i t2,.str nm t3]) (fun v s₁=>∃ e dx T,v=.ref e∧(K0 w.params).In s₁.heap∧(∃ sl,s₁.heap.get? e=some ⟨.ref 122,some dx,.fields #[.ref T,.none,.none,.none,.bool false,.none],sl⟩)∧E1 (.ref e) s₁) E ⟨h,g,d,t,os⟩ :=
  exc_made X hh hd hu fun e dx T h' tk' kk ex ne nd=>⟨e,dx,T,rfl,X.keeps kk,ex.obj,hQ e dx T h' tk' kk ex ne nd⟩
end
section
theorem port_at {data:Led} {v:Value} {i:Int} {dir nm:Str} {sg:Bool} {b:Option Int} (hv:DatIn data v (itemD (.port i dir sg b nm))) :
    ∃ a n t0 t1 t2 t3 vb,v=.ref a∧(a,tupO #[.str (Str.ofString "port") t0,.int i t1,.str dir t2,.bool sg,vb,.str nm t3] n)∈data∧DatIn data vb (bdD b) :=
  tup_lay [(false,.str (Str.ofString "port")),(false,.int i),(false,.str dir),(false,.bool sg),(true,bdD b),(false,.str nm)] hv fun a n e t0 t1 t2 vb hb t3 hm=>⟨a,n,t0,t1,t2,t3,vb,e,hm,hb⟩
theorem net_at {data:Led} {v:Value} {kd nm:Str} {sg arr:Bool} {b:Option Int} (hv:DatIn data v (itemD (.net kd sg b nm arr))) :
    ∃ a n t0 t1 t2 t3 vb va,v=.ref a∧(a,tupO #[.str (Str.ofString "net") t0,.int 4 t1,.str kd t2,.bool sg,vb,.none,.str nm t3,va,.none,.none] n)∈data∧DatIn data vb (bdD b)∧DatIn data va (arrD arr) :=
  tup_lay [(false,.str (Str.ofString "net")),(false,.int 4),(false,.str kd),(false,.bool sg),(true,bdD b),(false,.none),(false,.str nm),(true,arrD arr),(false,.none),(false,.none)] hv fun a n e t0 t1 t2 vb hb t3 va ha hm=>⟨a,n,t0,t1,t2,t3,vb,va,e,hm,hb,ha⟩
theorem var_at {data:Led} {v:Value} {kd nm:Str} {sg arr:Bool} {b:Option Int} (hv:DatIn data v (itemD (.var kd sg b nm arr))) :
    ∃ a n t0 t1 t2 t3 vb va,v=.ref a∧(a,tupO #[.str (Str.ofString "var") t0,.int 4 t1,.str kd t2,.bool sg,vb,.str nm t3,va,.none] n)∈data∧DatIn data vb (bdD b)∧DatIn data va (arrD arr) :=
  tup_lay [(false,.str (Str.ofString "var")),(false,.int 4),(false,.str kd),(false,.bool sg),(true,bdD b),(false,.str nm),(true,arrD arr),(false,.none)] hv fun a n e t0 t1 t2 vb hb t3 va ha hm=>⟨a,n,t0,t1,t2,t3,vb,va,e,hm,hb,ha⟩
/-- a pair of constants: its objects -/
noncomputable def SpanAt (data:Led) (c:Addr) (t:Int):Prop:=∃ nc a b a0 b0,(c,tupO #[.ref a,.ref a0] nc)∈data∧NumAt data a b t∧NumAt data a0 b0 0
theorem span_at {data:Led} {v:Value} {t:Int} (hv:DatIn data v (spanD t)):∃ c,v=.ref c∧SpanAt data c t :=
  tup_lay [(true,numD t),(true,numD 0)] hv fun c n e v1 h1 v2 h2 hm =>
    let ⟨a,b,e1,k1⟩:=num_at h1
    let ⟨a0,b0,e2,k2⟩:=num_at h2
    ⟨c,e,n,a,b,a0,b0,e1 ▸ e2 ▸ hm,k1,k2⟩
theorem span_mono {l l':Led} {c:Addr} {t:Int} (h:SpanAt l c t) (hs:∀ p∈l,p∈l'):SpanAt l' c t:=by
  obtain ⟨nc,a,b,a0,b0,hm,h1,h2⟩:=h
  exact ⟨nc,a,b,a0,b0,hs _ hm,num_mono h1 hs,num_mono h2 hs⟩
/-- what a scope and its design look like on the ledger (the design's own dict apart) -/
structure Sco (data:Led) (sc dsc x dx:Addr) (es1:List DictEntry) (n1:Nat) (nt:Str):Prop where
  hsc:(sc,instObj 1327 dsc)∈data
  hdsc:(dsc,dictOf es1 n1)∈data
  hx:(x,instObj 87 dx)∈data
  g1:getL (Str.ofString "design") es1=some (some (.ref x))
  g2:∃ tn,getL (Str.ofString "nettype") es1=some (some (.str nt tn))
  off:∀ p∈data,p.1≠dx
theorem range_use {prog:Program} {w:World} {t:Int} {sc dsc x dx c:Addr} {es1 es2:List DictEntry} {n1 n2:Nat} {nt:Str} {data news:Led} {news2:Obj→Led} (ht:smallT t) (S:Sco data sc dsc x dx es1 n1 nt) (g2:desOk es2) (hc:SpanAt data c t)
    (hs:∀ p∈data,p∈news) (U:∀ o',Upd dx (dictOf es2 n2) o' news (news2 o')) :
    Spec prog w (nat_lit 1193) [.ref sc,.ref c] 10 240 news (fun r news'=>∃ es2' tl,desOk es2'∧Tups tl∧DatIn tl r (.tuple [.int t,.int 0])∧news'=tl++news2 (dictOf es2' n2)):=by
  refine (Spec.use1 (R:=fun r o' tl=>Tups tl∧DatIn tl r (.tuple [.int t,.int 0])∧∃ es2',desOk es2'∧o'=dictOf es2' n2) U fun rest h1 h2=>?_).mono ?_
  · have hr:∀ p∈data,p∈rest:=fun p hp=>h2 p (hs p hp) (S.off p hp)
    obtain ⟨nc,a,b,a0,b0,hm,k1,k2⟩:=span_mono hc hr
    refine (range_ok ht (hr _ S.hsc) (hr _ S.hdsc) (hr _ S.hx) S.g1 g2 (fun p hp=>(h1 p hp).2) hm k1 k2).mono ?_
    rintro r l ⟨es2',tl,e1,e2,e3,e4⟩
    exact ⟨_,tl,⟨e2,e3,es2',e1,rfl⟩,e4⟩
  · rintro r l ⟨o',tl,⟨e2,e3,es2',e1,rfl⟩,e4⟩
    exact ⟨es2',tl,e1,e2,e3,e4⟩
noncomputable def fitB (t:Int):Option Int→Bool
  | none=>true
  | some u=>u == t
noncomputable def fits (t:Int):It→Bool
  | .net _ _ b _ _=>fitB t b
  | .var kd _ b _ _=>if kd == Str.ofString "integer" then t == 31 else fitB t b
  | _=>false
noncomputable def isNV:It→Bool
  | .net ..=>true
  | .var ..=>true
  | _=>false
theorem range_cps {prog:Program} {w:World} {t:Int} {sc dsc x dx c:Addr} {es1 es2:List DictEntry} {n1 n2:Nat} {nt:Str} {data news:Led} {news2:Obj→Led} {A A₀:Around} {env:Env} {outer:List Env} {base h₀:Heap} {L:Addr} {p:Program} {loose:List Str} {mean:ExcName→Option Value} {mg mb:Str→Option Value} {m:Str→Option Value} {s:Shared} {Q E:Value→Shared→Prop}
    (F:Fr h₀ L s.heap m) (N:News h₀ L s.heap news) (C:Env0 w A A₀ env outer base h₀ L 10 240 p loose mean mg mb) (S:Sco data sc dsc x dx es1 n1 nt) (U:∀ o',Upd dx (dictOf es2 n2) o' news (news2 o')) (g2:desOk es2) (ht:smallT t) (hc:SpanAt data c t) (hs:∀ p∈data,p∈news)
    (hQ:∀ b nb t1 t2 h' tk' es2' tl,Fr h₀ L h' m→News h₀ L h' (tl++news2 (dictOf es2' n2))→desOk es2'→Tups tl→(b,tupO #[.int t t1,.int 0 t2] nb)∈tl→Q (.ref b) { s with heap:=h',toks:=tk' }):wpAny (model prog w) A (call (.ref (nat_lit 1193)) [.ref sc,.ref c]) Q E s :=
  Spec.go F N C (range_use ht S g2 hc hs U) fun r h' tk' _ F' N' ⟨es2',tl,hd,htl,hr,e⟩ =>
    tup_lay [(false,.int t),(false,.int 0)] hr fun b nb er t1 t2 hm=>er ▸ hQ b nb t1 t2 h' tk' es2' tl F' (e ▸ N') hd htl hm
section
variable {prog:Program} {w:World} {A:Around} {E:Value→Shared→Prop} {h₀:Heap} {L a:Addr} {cn:Str} {cs:Scope} {ccd:Value} {cl:List (Str × Addr)} {m:Str→Option Value} {news:Led} {s:Shared} {e:PySem.Expr}
/-- a plain test,a plain value -/
theorem ev_tst (b:Bool) (ρ:List (Str × Dat)) {whole:Sem Value} {Q:Bool→Shared→Prop} (hk:cs.kind=.function) (hu:A.units+64<cLine) (h:evD (fun _ _=>none) ρ 20 true e=some (.bool b)) (F:Fr h₀ L s.heap m) (N:News h₀ L s.heap news) (R:Rho cs m news ρ)
    (hQ:∀ h' tk' tl,Fr h₀ L h' m→News h₀ L h' (tl++news)→Tups tl→Q b { s with heap:=h',toks:=tk' }):wpAny (model prog w) A (isTrue e (envX cn cs L a ccd cl) whole) Q E s :=
  (ev_ok hk hu calls_none 20).2 e _ m news s whole Q h F N R fun b' h' tk' n' eb F' N' ⟨tl,ht,en⟩=>by
    cases eb
    exact hQ h' tk' tl F' (en ▸ N') ht
theorem ev_dat (d:Dat) (ρ:List (Str × Dat)) {Q:Value→Shared→Prop} (hk:cs.kind=.function) (hu:A.units+64<cLine) (h:evD (fun _ _=>none) ρ 20 false e=some d) (F:Fr h₀ L s.heap m) (N:News h₀ L s.heap news) (R:Rho cs m news ρ)
    (hQ:∀ v h' tk' tl,Fr h₀ L h' m→News h₀ L h' (tl++news)→Tups tl→DatIn (tl++news) v d→Q v { s with heap:=h',toks:=tk' }):wpAny (model prog w) A (eval e (envX cn cs L a ccd cl)) Q E s :=
  (ev_ok hk hu calls_none 20).1 e d m news s Q h F N R fun v h' tk' n' F' N' ⟨tl,ht,en⟩ D=>hQ v h' tk' tl F' (en ▸ N') ht (en ▸ D)
theorem ev_str (x:Str) (ρ:List (Str × Dat)) {Q:Value→Shared→Prop} (hk:cs.kind=.function) (hu:A.units+64<cLine) (h:evD (fun _ _=>none) ρ 20 false e=some (.str x)) (F:Fr h₀ L s.heap m) (N:News h₀ L s.heap news) (R:Rho cs m news ρ)
    (hQ:∀ t h' tk' tl,Fr h₀ L h' m→News h₀ L h' (tl++news)→Tups tl→Q (.str x t) { s with heap:=h',toks:=tk' }):wpAny (model prog w) A (eval e (envX cn cs L a ccd cl)) Q E s :=
  ev_dat _ ρ hk hu h F N R fun v h' tk' tl F' N' ht D=>by cases D;exact hQ _ h' tk' tl F' N' ht
end
end
section
theorem cmp_pair_t {prog:Program} {w:World} {A:Around} {E:Value→Shared→Prop} {s:Shared} {h₀:Heap} {L a b:Addr} {news:Led} {x y:Int} {t1 t2 t3 t4:Tok} {na nb:Nat} {Q:Value→Shared→Prop} (N:News h₀ L s.heap news) (ma:(a,tupO #[.int x t1,.int y t2] na)∈news) (mb:(b,tupO #[.int x t3,.int y t4] nb)∈news) (hu:A.units+64<cLine)
    (h:Q (.bool true) s):wpAny (model prog w) A (compareOp .Eq (.ref a) (.ref b)) Q E s:=by
  refine cmp_eq (d:=.tuple [.int x,.int y]) (e:=.tuple [.int x,.int y]) N (.tuple (vs:=[.int x t1,.int y t2]) ma (.cons (.int _ _) (.cons (.int _ _) .nil))) (fun _ q=>q) (.tuple (vs:=[.int x t3,.int y t4]) mb (.cons (.int _ _) (.cons (.int _ _) .nil))) (fun _ q=>q) rfl rfl rfl rfl hu ?_
  have:PyData.eqv (kqdP (.tuple [.int x,.int y])) (kqdP (.tuple [.int x,.int y]))=true:=PySem.SeqAt.eqv_refl _ rfl
  rw [this];exact h
theorem cmp_pair_f {prog:Program} {w:World} {A:Around} {E:Value→Shared→Prop} {s:Shared} {h₀:Heap} {L a b:Addr} {news:Led} {x y x' y':Int} {t1 t2 t3 t4:Tok} {na nb:Nat} {Q:Value→Shared→Prop} (N:News h₀ L s.heap news) (ma:(a,tupO #[.int x t1,.int y t2] na)∈news) (mb:(b,tupO #[.int x' t3,.int y' t4] nb)∈news) (hu:A.units+64<cLine) (hne:x≠x')
    (h:Q (.bool false) s):wpAny (model prog w) A (compareOp .Eq (.ref a) (.ref b)) Q E s:=by
  refine cmp_eq (d:=.tuple [.int x,.int y]) (e:=.tuple [.int x',.int y']) N (.tuple (vs:=[.int x t1,.int y t2]) ma (.cons (.int _ _) (.cons (.int _ _) .nil))) (fun _ q=>q) (.tuple (vs:=[.int x' t3,.int y' t4]) mb (.cons (.int _ _) (.cons (.int _ _) .nil))) (fun _ q=>q) rfl rfl rfl rfl hu ?_
  have:PyData.eqv (kqdP (.tuple [.int x,.int y])) (kqdP (.tuple [.int x',.int y']))=false:=by simp [kqdP,kqdPs,PyData.eqv,PyData.eqvAll,hne]
  rw [this];exact h
theorem shape_ok {prog:Program} {w:World} {sc:Addr} {i:Int} {t1 t2:Tok} {data:Led}:TSpec prog w (nat_lit 1207) [.ref sc,.str (Str.ofString "integer") t1,.bool false,.none,.int i t2] 2 60 data (.tuple [.int 32,.bool true,.int 31,.int 0]):=by
  intro A A₀ env outer base h₀ L p loose mean mg mb m s Q E C F N hQ
  obtain ⟨B,X,T,hA,hf,hk,hh,hd',hu⟩:=C
  refine wpAny_call ?_
  (refine' code_def (binds:=[(Str.ofString "scope",.ref sc),(Str.ofString "kind",.str (Str.ofString "integer") t1),(Str.ofString "signed",.bool false),(Str.ofString "bounds",.none),(Str.ofString "at",.int i t2)]) B F X N T hA hf hk (by k_is) (by k_is) (by exact room0 hd') (by exact BindsTo.of_eq rfl) (by exact locs rfl) ?_ (by exact rfl) (by exact rfl) (by exact rfl) (by decide);k_whole;intro g' L' h' FG' F' N' B' X' T';clear F N B X T;(conv=>pattern (fBody _);whnf);(conv=>pattern (occs:=*) (fScope _);all_goals whnf);dsimp only [List.reverse,List.reverseAux,List.length] at F' ⊢;k_fold)
  repeat' (first|(k_unfold;(try dsimp only))|(k_end;kc_close)|((with_reducible show wpAny _ _ (subscriptTail _ _ (Value.ref _) (Value.int _ _)) _ _ _);first|(refine item_litK (News.isList (by k_asm) (by k_mem)) (by decide) (by decide) (by exact rfl) ?_ (by with_unfolding_all rfl))|(refine item_tupleT (News.isTup (by k_asm) (by k_mem)) (by decide) (by decide) (by exact rfl) (by exact rfl) ?_ (by with_unfolding_all rfl)))|walk1|(dsimp only;walk1)|(leave1;(try dsimp only))|fail "no step")
  (show LeaveK _ _ _ _ _ _ _;refine leaveK_ (by k_asm) (by k_asm) ?_;intro kF kN)
  exact TSpec.end_ hQ kF kN (by ((repeat' (first|assumption|exact DatIn.int _ _|exact DatIn.str _ _|exact DatIn.bool _|exact DatIn.none|exact DatAll.nil|refine DatAll.cons ?_ ?_|(refine DatIn.mono ?_ (by assumption);((repeat' (first|with_reducible exact fun _ h=>h|with_reducible exact List.forall_mem_nil _|(with_reducible refine sub_cons ?_ ?_)|(with_reducible refine sub_app ?_ ?_)|(with_reducible refine sub_append ?_ ?_)|(intro q9 hq9;first|k_mem|(replace hq9:=hs _ hq9;k_mem))|k_mem));first|done|fail "left"))|refine DatIn.tuple (by k_mem) ?_));first|done|fail "left")) rfl (by ((repeat' (first|with_reducible exact fun _ h=>h|with_reducible exact List.forall_mem_nil _|(with_reducible refine sub_cons ?_ ?_)|(with_reducible refine sub_app ?_ ?_)|(with_reducible refine sub_append ?_ ?_)|(intro q9 hq9;first|k_mem|(replace hq9:=hs _ hq9;k_mem))|k_mem));first|done|fail "left"))
theorem RaisedD.sub {base G h:Heap} {l:List Env} {e dx:Addr} {od:Obj} {news news':Led} (R:RaisedD base G l e dx od news h) (hs:∀ p∈news',p∈news):RaisedD base G l e dx od news' h:=by
  obtain ⟨⟨B,a1,a2,a3,a4⟩,a5⟩:=R
  exact ⟨⟨B,a1,a2,fun q hq=>a3 q (hs q hq),a4⟩,a5⟩
theorem frd_of {h:Heap} {e dx T:Addr} {k nm:Str} {i:Int} (x:ExcIs h e dx T k nm i):FrD h e (.ref 122) (some dx):=by
  obtain ⟨⟨sl,h1⟩,_⟩:=x
  exact ⟨_,_,h1,⟨rfl,rfl⟩,rfl,rfl⟩
noncomputable abbrev crE (L:Addr):Env:=envOf (Str.ofString "check_port_range") (fScope (stAt 171)) L 1254 (.ref 1253)
noncomputable def crS (k:Nat):Stmt:=(fBody (stAt 171))[k]?.getD (.Pass ⟨0,0,0,0⟩)
theorem cr_body:fBody (stAt 171)=[crS 0,crS 1,crS 2,crS 3]:=by kernel_rfl
noncomputable abbrev OwnP (E:Value→Shared→Prop) (h₀:Heap) (L:Addr) (dx:Addr) (es2:List DictEntry) (n2:Nat) (data:Led) (s:Shared) (k nm:Str) (i:Int):Prop :=
  ∀ (h:Heap) m' e dxe T h' tk',Fr h₀ L h m'→News h₀ L h ((dx,dictOf es2 n2)::data)→(∀ b o,h.get? b=some o→h'.get? b=some o)→ExcIs h' e dxe T k nm i→h.get? e=none→h.get? dxe=none→E (.ref e) { s with heap:=h',toks:=tk' }
noncomputable def ifT:Stmt→PySem.Expr
  | .If t _ _ _=>t
  | _=>.Constant .none 0 ⟨0,0,0,0⟩
noncomputable def ifP:Stmt→Pos
  | .If _ _ _ p=>p
  | _=>⟨0,0,0,0⟩
noncomputable def ifB:Stmt→List Stmt
  | .If _ b _ _=>b
  | _=>[]
noncomputable def ifE:Stmt→List Stmt
  | .If _ _ e _=>e
  | _=>[]
noncomputable def crI:Stmt:=((ifE (crS 2))[0]?).getD (.Pass ⟨0,0,0,0⟩)
theorem cr2_if:crS 2=.If (ifT (crS 2)) (ifB (crS 2)) [crI] (ifP (crS 2)):=by kernel_rfl
theorem crI_if:crI=.If (ifT crI) (ifB crI) (ifE crI) (ifP crI):=by kernel_rfl
theorem keep_of (l:List (Str × Dat)) {ρ:List (Str × Dat)} {m m':Str→Option Value} (k:∃ new,l++ρ=new++ρ∧∀ x,new.lookup x=none→m' x=m x) (x:Str) (h:l.lookup x=none):m' x=m x:=by
  obtain ⟨new,e,k⟩:=k
  rw [← List.append_cancel_right e] at k
  exact k x h
section
variable {prog:Program} {w:World} {A A₀:Around} {outer:List Env} {base h₀:Heap} {L:Addr} {p:Program} {loose:List Str} {mean:ExcName→Option Value} {mg mb:Str→Option Value} {m:Str→Option Value} {s:Shared} {Q:Flow→Shared→Prop} {E:Value→Shared→Prop}
  {sc dsc x dx ap aq:Addr} {es1 es2:List DictEntry} {n1 n2 np nq:Nat} {nt dir nm:Str} {i t:Int} {sg:Bool} {vp vq vb:Value} {data:Led} {tp0 tp1 tp2 tp3 ta tb:Tok}
/-- the end: fits or not -/
theorem cr_tail (f:Bool) (C:Env0 w A A₀ (crE L) outer base h₀ L 30 800 p loose mean mg mb) (F:Fr h₀ L s.heap m) (N:News h₀ L s.heap ((dx,dictOf es2 n2)::data)) (hmp:(ap,tupO #[.str (Str.ofString "port") tp0,.int i tp1,.str dir tp2,.bool sg,vb,.str nm tp3] np)∈data)
    (h1:m (Str.ofString "fits")=some (.bool f)) (h2:m (Str.ofString "port")=some (.ref ap)) (hQ:f=true→∀ m' h' tk',Fr h₀ L h' m'→News h₀ L h' ((dx,dictOf es2 n2)::data)→Q .next { s with heap:=h',toks:=tk' }) (hE:f=false→OwnP E h₀ L dx es2 n2 data s (Str.ofString "port_range") nm i) :
    wpAny (model prog w) A (execs [crS 3] (crE L)) Q E s:=by
  have F2:=fr_name (x:=Str.ofString "fits") (fr_name (x:=Str.ofString "port") F h2) ((if_neg (by decide)).trans h1)
  clear F
  obtain ⟨B,X,T,hA,hf,hk,hh,hd',hu⟩:=C
  unfold crE crS
  conv=>pattern (Option.getD _ _);whnf
  conv=>pattern (occs:=*) (fScope _);all_goals whnf
  cases f with
  | true =>
    repeat' (first|(k_unfold;(try dsimp only))|(k_end;kc_close)|((with_reducible show wpAny _ _ (exec (Stmt.Raise (some _) none _) _) _ _ _);refine raise_D hh ?_)|((with_reducible show wpAny _ _ (call (Value.ref (nat_lit 122)) _) _ _ _);refine exc_raise (by k_in) (by assumption) (by first|omega|(simp only [Around.deeper];omega)) (by first|omega|(simp only [Around.deeper];omega)) ?_;intro e9 dx9 T9 h9 tk9 kk9 ex9 ne9 nd9)|((with_reducible show wpAny _ _ (subscriptTail _ _ (Value.ref _) (Value.int _ _)) _ _ _);first|(refine item_litK (News.isList (by k_asm) (by k_mem)) (by decide) (by decide) (by exact rfl) ?_ (by with_unfolding_all rfl))|(refine item_tupleT (News.isTup (by k_asm) (by k_mem)) (by decide) (by decide) (by exact rfl) (by exact rfl) ?_ (by with_unfolding_all rfl)))|walk1|(dsimp only;walk1)|(leave1;(try dsimp only))|fail "no step")
    exact hQ rfl _ _ _ F2 N
  | false =>
    repeat' (first|(k_unfold;(try dsimp only))|(k_end;kc_close)|((with_reducible show wpAny _ _ (exec (Stmt.Raise (some _) none _) _) _ _ _);refine raise_D hh ?_)|((with_reducible show wpAny _ _ (call (Value.ref (nat_lit 122)) _) _ _ _);refine exc_raise (by k_in) (by assumption) (by first|omega|(simp only [Around.deeper];omega)) (by first|omega|(simp only [Around.deeper];omega)) ?_;intro e9 dx9 T9 h9 tk9 kk9 ex9 ne9 nd9)|((with_reducible show wpAny _ _ (subscriptTail _ _ (Value.ref _) (Value.int _ _)) _ _ _);first|(refine item_litK (News.isList (by k_asm) (by k_mem)) (by decide) (by decide) (by exact rfl) ?_ (by with_unfolding_all rfl))|(refine item_tupleT (News.isTup (by k_asm) (by k_mem)) (by decide) (by decide) (by exact rfl) (by exact rfl) ?_ (by with_unfolding_all rfl)))|walk1|(dsimp only;walk1)|(leave1;(try dsimp only))|fail "no step")
    exact hE rfl _ _ _ _ _ _ _ F2 N kk9 ex9 ne9 nd9
/-- a partner of the kind integer -/
theorem cr_int {nm2:Str} {sg2 arr:Bool} {b2:Option Int} (ht:t=7∨t=31) (C:Env0 w A A₀ (crE L) outer base h₀ L 30 800 p loose mean mg mb) (F:Fr h₀ L s.heap m) (N:News h₀ L s.heap ((dx,dictOf es2 n2)::data)) (hmp:(ap,tupO #[.str (Str.ofString "port") tp0,.int i tp1,.str dir tp2,.bool sg,vb,.str nm tp3] np)∈data)
    (hq:DatIn data vq (itemD (.var (Str.ofString "integer") sg2 b2 nm2 arr))) (h1:m (Str.ofString "fits")=some (.bool true)) (h2:m (Str.ofString "port")=some (.ref ap)) (h3:m (Str.ofString "partner")=some vq) (h4:m (Str.ofString "msb")=some (.int t ta)) (h5:m (Str.ofString "lsb")=some (.int 0 tb)) (h6:m (Str.ofString "scope")=some (.ref sc))
    (hQ:t=31→∀ m' h' tk',Fr h₀ L h' m'→News h₀ L h' ((dx,dictOf es2 n2)::data)→Q .next { s with heap:=h',toks:=tk' }) (hE:t≠31→OwnP E h₀ L dx es2 n2 data s (Str.ofString "port_range") nm i) :
    wpAny (model prog w) A (execs [crS 2,crS 3] (crE L)) Q E s:=by
  obtain ⟨aq,nq,tq0,tq1,tq2,tq3,vb2,va,rfl,hmq,hb2,ha⟩:=var_at hq
  have F2:=fr_name (x:=Str.ofString "scope") (fr_name (x:=Str.ofString "lsb") (fr_name (x:=Str.ofString "msb") (fr_name (x:=Str.ofString "partner") (fr_name (x:=Str.ofString "port") F h2) ((if_neg (by decide)).trans h3)) ((if_neg (by decide)).trans ((if_neg (by decide)).trans h4))) ((if_neg (by decide)).trans ((if_neg (by decide)).trans ((if_neg (by decide)).trans h5)))) ((if_neg (by decide)).trans ((if_neg (by decide)).trans ((if_neg (by decide)).trans ((if_neg (by decide)).trans h6))))
  clear F
  have C0:=C
  obtain ⟨B,X,T,hA,hf,hk,hh,hd',hu⟩:=C
  conv=>pattern (crS 2);whnf
  unfold crE
  conv=>pattern (occs:=*) (fScope _);all_goals whnf
  have e32:(if t - 0<0 then -(t - 0) else t - 0)+1=t+1:=by rcases ht with rfl|rfl <;> rfl
  repeat' ((fail_if_success (with_reducible show wpAny _ _ (execs [crS 3] _) _ _ _));first|(k_unfold;(try dsimp only))|(k_end;wrow_close)|((with_reducible show wpAny _ _ (call (Value.ref (nat_lit 1207)) _) _ _ _);refine TSpec.lay [(false,.int 32),(false,.bool true),(false,.int 31),(false,.int 0)] (by k_asm) (by k_asm) (C0.less rfl rfl) shape_ok ?_;intro b9 nb9 h9 tk9 tl9 F' N' ht9 t19 t29 t39 hm9;(try k_sweep);(try dsimp only))|((with_reducible show wpAny _ _ (subscriptTail _ _ (Value.ref _) (Value.int _ _)) _ _ _);first|(refine item_litK (News.isList (by k_asm) (by k_mem)) (by decide) (by decide) (by exact rfl) ?_ (by with_unfolding_all rfl))|(refine item_tupleT (News.isTup (by k_asm) (by k_mem)) (by decide) (by decide) (by exact rfl) (by exact rfl) ?_ (by with_unfolding_all rfl)))|walk1|(dsimp only;walk1)|(leave1;(try dsimp only))|fail "no step")
  (with_reducible rename Fr _ _ _ _=>F9)
  (with_reducible rename News _ _ _ _=>N9)
  show wpAny _ _ (execs [crS 3] (crE L)) _ _ _
  refine cr_tail (t == 31) C0 F9 (news_sub N9 (by ((repeat' (first|with_reducible exact fun _ h=>h|with_reducible exact List.forall_mem_nil _|(with_reducible refine sub_cons ?_ ?_)|(with_reducible refine sub_app ?_ ?_)|(with_reducible refine sub_append ?_ ?_)|(intro q9 hq9;first|k_mem|(replace hq9:=hs _ hq9;k_mem))|k_mem));first|done|fail "left"))) hmp ?_ rfl (fun e=>hQ (eq_of_beq e)) (fun e=>hE (fun q=>by rw [q] at e;cases e))
  rcases ht with rfl|rfl <;> rfl
theorem cr_none {it:It} (hit:(∃ kd sg2 nm2 arr,it=.net kd sg2 none nm2 arr∧(kd=Str.ofString "wire"∨kd=Str.ofString "wand"))∨∃ sg2 nm2 arr,it=.var (Str.ofString "reg") sg2 none nm2 arr) (C:Env0 w A A₀ (crE L) outer base h₀ L 30 800 p loose mean mg mb) (F:Fr h₀ L s.heap m) (N:News h₀ L s.heap ((dx,dictOf es2 n2)::data)) (hmp:(ap,tupO #[.str (Str.ofString "port") tp0,.int i tp1,.str dir tp2,.bool sg,vb,.str nm tp3] np)∈data)
    (hq:DatIn data vq (itemD it)) (h1:m (Str.ofString "fits")=some (.bool true)) (h2:m (Str.ofString "port")=some (.ref ap)) (h3:m (Str.ofString "partner")=some vq)
    (hQ:∀ m' h' tk',Fr h₀ L h' m'→News h₀ L h' ((dx,dictOf es2 n2)::data)→Q .next { s with heap:=h',toks:=tk' }) :
    wpAny (model prog w) A (execs [crS 2,crS 3] (crE L)) Q E s:=by
  have hu:=C.hu
  have e:runD (fScope (stAt 171)) (fun _ _=>none) 20 [(Str.ofString "partner",itemD it)] [crS 2]=some (none,[(Str.ofString "partner",itemD it)]):=by
    rcases hit with ⟨kd,sg2,nm2,arr,rfl,rfl|rfl⟩|⟨sg2,nm2,arr,rfl⟩ <;> kernel_rfl
  refine pre_ok (cl:=[]) (n:=20) (by kernel_rfl) (by omega) calls_none [crS 2] _ _ m _ s e F N (rho_cons (DatIn.mono (fun _ h=>.tail _ h) hq) h3 (by kernel_rfl) rho_nil) fun m' h' tk' n' F' N' X' R' K'=>?_
  obtain ⟨tl,ht,rfl⟩:=X'
  have K:=keep_of [] K'
  exact cr_tail true C F' (news_sub N' (by ((repeat' (first|with_reducible exact fun _ h=>h|with_reducible exact List.forall_mem_nil _|(with_reducible refine sub_cons ?_ ?_)|(with_reducible refine sub_app ?_ ?_)|(with_reducible refine sub_append ?_ ?_)|(intro q9 hq9;first|k_mem|(replace hq9:=hs _ hq9;k_mem))|k_mem));first|done|fail "left"))) hmp ((K _ rfl).trans h1) ((K _ rfl).trans h2) (fun _=>hQ) (fun e=>nomatch e)
theorem cr_some {it:It} {u:Int} (hit:(∃ kd sg2 nm2 arr,it=.net kd sg2 (some u) nm2 arr∧(kd=Str.ofString "wire"∨kd=Str.ofString "wand"))∨∃ sg2 nm2 arr,it=.var (Str.ofString "reg") sg2 (some u) nm2 arr) (hu9:smallT u) (C:Env0 w A A₀ (crE L) outer base h₀ L 30 800 p loose mean mg mb) (F:Fr h₀ L s.heap m) (N:News h₀ L s.heap ((dx,dictOf es2 n2)::data)) (S:Sco data sc dsc x dx es1 n1 nt) (g2:desOk es2) (hmp:(ap,tupO #[.str (Str.ofString "port") tp0,.int i tp1,.str dir tp2,.bool sg,vb,.str nm tp3] np)∈data)
    (hq:DatIn data vq (itemD it)) (h1:m (Str.ofString "fits")=some (.bool true)) (h2:m (Str.ofString "port")=some (.ref ap)) (h3:m (Str.ofString "partner")=some vq) (h4:m (Str.ofString "msb")=some (.int t ta)) (h5:m (Str.ofString "lsb")=some (.int 0 tb)) (h6:m (Str.ofString "scope")=some (.ref sc))
    (hQ:u=t→∀ m' h' tk' es2',Fr h₀ L h' m'→News h₀ L h' ((dx,dictOf es2' n2)::data)→desOk es2'→Q .next { s with heap:=h',toks:=tk' }) (hE:u≠t→∀ es2',desOk es2'→OwnP E h₀ L dx es2' n2 data s (Str.ofString "port_range") nm i) :
    wpAny (model prog w) A (execs [crS 2,crS 3] (crE L)) Q E s:=by
  have nx:=S.off
  have hex:∃ a n v3 vb2 l0 l1 l2 l3,vq=.ref a∧(a,tupO (l0::l1::l2::l3::vb2::v3).toArray n)∈data∧DatIn data vb2 (spanD u):=by
    rcases hit with ⟨kd,sg2,nm2,arr,rfl,_⟩|⟨sg2,nm2,arr,rfl⟩
    · obtain ⟨aq,nq,tq0,tq1,tq2,tq3,vb2,va,rfl,hmq,hb2,ha⟩:=net_at hq
      exact ⟨_,_,_,_,_,_,_,_,rfl,hmq,hb2⟩
    · obtain ⟨aq,nq,tq0,tq1,tq2,tq3,vb2,va,rfl,hmq,hb2,ha⟩:=var_at hq
      exact ⟨_,_,_,_,_,_,_,_,rfl,hmq,hb2⟩
  obtain ⟨aq,nq,v3,vb2,l0,l1,l2,l3,rfl,hmq,hb2⟩:=hex
  obtain ⟨c2,rfl,hsp⟩:=span_at hb2
  have R:Rho (fScope (stAt 171)) m ((dx,dictOf es2 n2)::data) [(Str.ofString "partner",itemD it)]:=rho_cons (DatIn.mono (fun _ h=>.tail _ h) hq) h3 (by kernel_rfl) rho_nil
  have C0:=C
  obtain ⟨B,X,T,hA,hf,hk,hh,hd',hu⟩:=C
  have e1:evD (fun _ _=>none) [(Str.ofString "partner",itemD it)] 20 true (ifT (crS 2))=some (.bool false):=by
    rcases hit with ⟨kd,sg2,nm2,arr,rfl,rfl|rfl⟩|⟨sg2,nm2,arr,rfl⟩ <;> kernel_rfl
  have e2:evD (fun _ _=>none) [(Str.ofString "partner",itemD it)] 20 true (ifT crI)=some (.bool true):=by
    rcases hit with ⟨kd,sg2,nm2,arr,rfl,rfl|rfl⟩|⟨sg2,nm2,arr,rfl⟩ <;> kernel_rfl
  refine wpAny_execs_cons ?_
  rw [cr2_if]
  refine wpAny_If (ev_tst (cl:=[]) false _ (by kernel_rfl) (by omega) e1 F N R fun ha ta' tla Fa Na hta=>?_)
  rw [if_neg (by decide)]
  refine wpAny_execs_cons ?_
  rw [crI_if]
  refine wpAny_If (ev_tst (cl:=[]) true _ (by kernel_rfl) (by omega) e2 Fa Na (rho_mono R (fun _ h=>List.mem_append_right _ h)) fun hb' tb' tlb Fb Nb htb=>?_)
  rw [if_pos rfl]
  have F2:=fr_name (x:=Str.ofString "scope") (fr_name (x:=Str.ofString "lsb") (fr_name (x:=Str.ofString "msb") (fr_name (x:=Str.ofString "partner") (fr_name (x:=Str.ofString "port") Fb h2) ((if_neg (by decide)).trans h3)) ((if_neg (by decide)).trans ((if_neg (by decide)).trans h4))) ((if_neg (by decide)).trans ((if_neg (by decide)).trans ((if_neg (by decide)).trans h5)))) ((if_neg (by decide)).trans ((if_neg (by decide)).trans ((if_neg (by decide)).trans ((if_neg (by decide)).trans h6))))
  have N2:News h₀ L hb' ((dx,dictOf es2 n2)::data):=news_sub Nb (by ((repeat' (first|with_reducible exact fun _ h=>h|with_reducible exact List.forall_mem_nil _|(with_reducible refine sub_cons ?_ ?_)|(with_reducible refine sub_app ?_ ?_)|(with_reducible refine sub_append ?_ ?_)|(intro q9 hq9;first|k_mem|(replace hq9:=hs _ hq9;k_mem))|k_mem));first|done|fail "left"))
  clear F Fa Fb N Na Nb R
  conv=>pattern (ifB crI);whnf
  show wpAny _ _ (execs _ (crE L)) _ _ _
  unfold crE
  conv=>pattern (occs:=*) (fScope _);all_goals whnf
  by_cases hut:u=t
  · subst hut
    repeat' ((fail_if_success (with_reducible show wpAny _ _ (execs [crS 3] _) _ _ _));first|(k_unfold;(try dsimp only))|(k_end;wrow_close)|((with_reducible show wpAny _ _ (subscriptTail _ _ (Value.ref aq) (Value.int _ _)) _ _ _);refine item_tupleT (N2.isTup (.tail _ hmq)) (by decide) (by decide) (j:=4) (seq_at (by decide) (by simp only [List.length_cons];omega)) rfl ?_ (by with_unfolding_all rfl))|((with_reducible show wpAny _ _ (call (Value.ref (nat_lit 1193)) _) _ _ _);refine range_cps (by k_asm) (by k_asm) (C0.less rfl rfl) (by assumption) (fun o9=>by first|k_upd|fail) (by assumption) (by assumption) (by assumption) (by ((repeat' (first|with_reducible exact fun _ h=>h|with_reducible exact List.forall_mem_nil _|(with_reducible refine sub_cons ?_ ?_)|(with_reducible refine sub_app ?_ ?_)|(with_reducible refine sub_append ?_ ?_)|(intro q9 hq9;first|k_mem|(replace hq9:=hs _ hq9;k_mem))|k_mem));first|done|fail "left")) ?_;intro b9 nb9 t19 t29 h9 tk9 es9 tl9 F' N' hd9 ht9 hm9;(try k_sweep);(try dsimp only))|((with_reducible show wpAny _ _ (compareOp CmpOp.Eq (Value.ref _) (Value.ref _)) _ _ _);first|refine cmp_pair_t (by k_asm) (by k_mem) (by k_mem) (by first|omega|(simp only [Around.deeper];omega)) ?_|refine cmp_pair_f (by k_asm) (by k_mem) (by k_mem) (by first|omega|(simp only [Around.deeper];omega)) (by assumption) ?_)|((with_reducible show wpAny _ _ (subscriptTail _ _ (Value.ref _) (Value.int _ _)) _ _ _);first|(refine item_litK (News.isList (by k_asm) (by k_mem)) (by decide) (by decide) (by exact rfl) ?_ (by with_unfolding_all rfl))|(refine item_tupleT (News.isTup (by k_asm) (by k_mem)) (by decide) (by decide) (by exact rfl) (by exact rfl) ?_ (by with_unfolding_all rfl)))|walk1|(dsimp only;walk1)|(leave1;(try dsimp only))|fail "no step")
    (with_reducible rename Fr _ _ _ _=>F9)
    (with_reducible rename News _ _ _ _=>N9)
    show wpAny _ _ (execs [crS 3] (crE L)) _ _ _
    exact cr_tail true C0 F9 (news_sub N9 (by ((repeat' (first|with_reducible exact fun _ h=>h|with_reducible exact List.forall_mem_nil _|(with_reducible refine sub_cons ?_ ?_)|(with_reducible refine sub_app ?_ ?_)|(with_reducible refine sub_append ?_ ?_)|(intro q9 hq9;first|k_mem|(replace hq9:=hs _ hq9;k_mem))|k_mem));first|done|fail "left"))) hmp rfl rfl (fun _ m' h' tk' F' N'=>hQ rfl m' h' tk' _ F' N' hd9) (fun e=>nomatch e)
  · repeat' ((fail_if_success (with_reducible show wpAny _ _ (execs [crS 3] _) _ _ _));first|(k_unfold;(try dsimp only))|(k_end;wrow_close)|((with_reducible show wpAny _ _ (subscriptTail _ _ (Value.ref aq) (Value.int _ _)) _ _ _);refine item_tupleT (N2.isTup (.tail _ hmq)) (by decide) (by decide) (j:=4) (seq_at (by decide) (by simp only [List.length_cons];omega)) rfl ?_ (by with_unfolding_all rfl))|((with_reducible show wpAny _ _ (call (Value.ref (nat_lit 1193)) _) _ _ _);refine range_cps (by k_asm) (by k_asm) (C0.less rfl rfl) (by assumption) (fun o9=>by first|k_upd|fail) (by assumption) (by assumption) (by assumption) (by ((repeat' (first|with_reducible exact fun _ h=>h|with_reducible exact List.forall_mem_nil _|(with_reducible refine sub_cons ?_ ?_)|(with_reducible refine sub_app ?_ ?_)|(with_reducible refine sub_append ?_ ?_)|(intro q9 hq9;first|k_mem|(replace hq9:=hs _ hq9;k_mem))|k_mem));first|done|fail "left")) ?_;intro b9 nb9 t19 t29 h9 tk9 es9 tl9 F' N' hd9 ht9 hm9;(try k_sweep);(try dsimp only))|((with_reducible show wpAny _ _ (compareOp CmpOp.Eq (Value.ref _) (Value.ref _)) _ _ _);first|refine cmp_pair_t (by k_asm) (by k_mem) (by k_mem) (by first|omega|(simp only [Around.deeper];omega)) ?_|refine cmp_pair_f (by k_asm) (by k_mem) (by k_mem) (by first|omega|(simp only [Around.deeper];omega)) (by assumption) ?_)|((with_reducible show wpAny _ _ (subscriptTail _ _ (Value.ref _) (Value.int _ _)) _ _ _);first|(refine item_litK (News.isList (by k_asm) (by k_mem)) (by decide) (by decide) (by exact rfl) ?_ (by with_unfolding_all rfl))|(refine item_tupleT (News.isTup (by k_asm) (by k_mem)) (by decide) (by decide) (by exact rfl) (by exact rfl) ?_ (by with_unfolding_all rfl)))|walk1|(dsimp only;walk1)|(leave1;(try dsimp only))|fail "no step")
    (with_reducible rename Fr _ _ _ _=>F9)
    (with_reducible rename News _ _ _ _=>N9)
    show wpAny _ _ (execs [crS 3] (crE L)) _ _ _
    exact cr_tail false C0 F9 (news_sub N9 (by ((repeat' (first|with_reducible exact fun _ h=>h|with_reducible exact List.forall_mem_nil _|(with_reducible refine sub_cons ?_ ?_)|(with_reducible refine sub_app ?_ ?_)|(with_reducible refine sub_append ?_ ?_)|(intro q9 hq9;first|k_mem|(replace hq9:=hs _ hq9;k_mem))|k_mem));first|done|fail "left"))) hmp rfl rfl (fun e=>nomatch e) (fun _=>hE hut _ hd9)
end
theorem fits_reg (t u:Int) (sg2:Bool) (nm2:Str) (arr:Bool):fits t (.var (Str.ofString "reg") sg2 (some u) nm2 arr)=(u == t):=by kernel_rfl
theorem cpr_ok {prog:Program} {w:World} {A A₀:Around} {env:Env} {outer:List Env} {base h₀:Heap} {L:Addr} {p:Program} {loose:List Str} {mean:ExcName→Option Value} {mg mb:Str→Option Value} {m:Str→Option Value} {s:Shared} {Q E:Value→Shared→Prop}
    {sc dsc x dx:Addr} {es1 es2:List DictEntry} {n1 n2:Nat} {nt dir nm:Str} {i t:Int} {sg:Bool} {vp vq:Value} {data:Led} {it:It}
    (C:Env0 w A A₀ env outer base h₀ L 40 900 p loose mean mg mb) (F:Fr h₀ L s.heap m) (N:News h₀ L s.heap ((dx,dictOf es2 n2)::data)) (S:Sco data sc dsc x dx es1 n1 nt) (g2:desOk es2) (ht:t=7∨t=31)
    (hp:DatIn data vp (itemD (.port i dir sg (some t) nm))) (hq:DatIn data vq (itemD it)) (hi:itOk it) (hnv:isNV it=true)
    (hQ:fits t it=true→∀ h' tk' es2' tl,Fr h₀ L h' m→News h₀ L h' ((dx,dictOf es2' n2)::(tl++data))→Tups tl→desOk es2'→Q .none { s with heap:=h',toks:=tk' })
    (hE:fits t it=false→∀ g' h' tk' es2' e dxe h1 h2 h3 u1 u2 u3 t1 t2 t3 n,Fr h₀ L g' m→g'.UpToSlots h'→RaisedD base g' (env::outer) e dxe (excD (Str.ofString "port_range") nm i h1 h2 h3 u1 u2 u3 t1 t2 t3 n) ((dx,dictOf es2' n2)::data) h'→desOk es2'→E (.ref e) { s with heap:=h',toks:=tk' }) :
    wpAny (model prog w) A (call (.ref (nat_lit 1254)) [.ref sc,vp,vq]) Q E s:=by
  have ht':smallT t:=ht.elim (fun h=>.inr (.inl h)) fun h=>.inr (.inr h)
  have nx:=S.off
  obtain ⟨ap,np,tp0,tp1,tp2,tp3,vb,rfl,hmp,hb⟩:=port_at hp
  obtain ⟨cb,rfl,hsb⟩:=span_at hb
  obtain ⟨B,X,T,hA,hf,hk,hh,hd',hu⟩:=C
  refine wpAny_call ?_
  (refine' code_def (binds:=[(Str.ofString "scope",.ref sc),(Str.ofString "port",.ref ap),(Str.ofString "partner",vq)]) B F X N T hA hf hk (by k_is) (by k_is) (by exact room0 hd') (by exact BindsTo.of_eq rfl) (by exact locs rfl) ?_ (by exact rfl) (by exact rfl) (by exact rfl) (by decide);k_whole;intro g' L' h' FG' F' N' B' X' T';clear F N;dsimp only [List.reverse,List.reverseAux,List.length] at F' ⊢;k_fold)
  have C1:Env0 w (A.deeper (crE L')) A (crE L') (env::outer) base g' L' 30 800 p loose mean mg mb:=Env0.deeper B' X' T' hA rfl (by kernel_rfl) hh (room hd' rfl) (room hu rfl)
  have hown:∀ es',desOk es'→fits t it=false→OwnP ek g' L' dx es' n2 data s (Str.ofString "port_range") nm i:=by
    intro es' hdes hfit h m9 e9 dx9 T9 h9 tk9 F9 N9 kk9 ex9 ne9 nd9
    obtain ⟨h1,h2,h3,u1,u2,u3,t7,t8,t9,n9,hd9⟩:=ex9.dict
    dsimp only [ek]
    exact leave_raiseD B' F9 N9 kk9 (frd_of ex9) hd9 (fun _ q=>nomatch q) ne9 nd9 (fun h' R U=>hE hfit _ _ _ _ _ _ _ _ _ _ _ _ _ _ _ _ FG' U R hdes) (by kernel_rfl)
  have hret:∀ es',desOk es'→fits t it=true→∀ m' h' tk',Fr g' L' h' m'→News g' L' h' ((dx,dictOf es' n2)::data)→qk .next { s with heap:=h',toks:=tk' }:=by
    intro es' hdes hfit m' h' tk' F9 N9
    exact leaveK_ F9 N9 fun kF kN=>hQ hfit _ _ _ [] kF kN tups_nil hdes
  have C0:=C1
  rw [cr_body]
  conv=>pattern (crS 0);whnf
  conv=>pattern (crS 1);whnf
  show wpAny _ _ (execs _ (crE L')) _ _ _
  unfold crE
  conv=>pattern (occs:=*) (fScope _);all_goals whnf
  repeat' ((fail_if_success (with_reducible show wpAny _ _ (execs [crS 2,crS 3] _) _ _ _));first|(k_unfold;(try dsimp only))|(k_end;wrow_close)|((with_reducible show wpAny _ _ (call (Value.ref (nat_lit 1193)) _) _ _ _);refine range_cps (by k_asm) (by k_asm) (C0.less rfl rfl) (by assumption) (fun o9=>by first|k_upd|fail) (by assumption) (by assumption) (by assumption) (by ((repeat' (first|with_reducible exact fun _ h=>h|with_reducible exact List.forall_mem_nil _|(with_reducible refine sub_cons ?_ ?_)|(with_reducible refine sub_app ?_ ?_)|(with_reducible refine sub_append ?_ ?_)|(intro q9 hq9;first|k_mem|(replace hq9:=hs _ hq9;k_mem))|k_mem));first|done|fail "left")) ?_;intro b9 nb9 t19 t29 h9 tk9 es9 tl9 F' N' hd9 ht9 hm9;(try k_sweep);(try dsimp only))|((with_reducible show wpAny _ _ (assign (PySem.Expr.Tuple _ _ _) _ _) _ _ _);refine' unpackN_ ?k1 ?k2 ?k3 ?k4 ?k5 ?k6 ?_;(case k1=>k_asm);(case k2=>k_asm);(case k3=>kun_tup);(case k4=>assumption);(case k5=>exact rfl);(case k6=>exact rfl);intro h' F' N';(try k_sweep))|((with_reducible show wpAny _ _ (subscriptTail _ _ (Value.ref _) (Value.int _ _)) _ _ _);first|(refine item_litK (News.isList (by k_asm) (by k_mem)) (by decide) (by decide) (by exact rfl) ?_ (by with_unfolding_all rfl))|(refine item_tupleT (News.isTup (by k_asm) (by k_mem)) (by decide) (by decide) (by exact rfl) (by exact rfl) ?_ (by with_unfolding_all rfl)))|walk1|(dsimp only;walk1)|(leave1;(try dsimp only))|fail "no step")
  (with_reducible rename Fr _ _ _ _=>F9)
  (with_reducible rename News _ _ _ _=>N9)
  rename desOk _=>hdes
  have N1:News g' L' _ ((dx,dictOf es9 n2)::data):=news_sub N9 (by ((repeat' (first|with_reducible exact fun _ h=>h|with_reducible exact List.forall_mem_nil _|(with_reducible refine sub_cons ?_ ?_)|(with_reducible refine sub_app ?_ ?_)|(with_reducible refine sub_append ?_ ?_)|(intro q9 hq9;first|k_mem|(replace hq9:=hs _ hq9;k_mem))|k_mem));first|done|fail "left"))
  show wpAny _ _ (execs [crS 2,crS 3] (crE L')) _ _ _
  have small:∀ {b:Option Int} {u:Int},bOk b→b=some u→smallT u:=fun hb e=>by
    rcases hb with rfl|rfl|rfl
    · cases e
    · cases e;exact .inr (.inl rfl)
    · cases e;exact .inr (.inr rfl)
  cases it with
  | net kd sg2 b nm2 arr =>
    obtain ⟨hk',hb2,_⟩:=hi
    cases b with
    | none=>exact cr_none (.inl ⟨kd,sg2,nm2,arr,rfl,hk'⟩) C0 F9 N1 hmp hq rfl rfl rfl (hret _ hdes rfl)
    | some u=>exact cr_some (.inl ⟨kd,sg2,nm2,arr,rfl,hk'⟩) (small hb2 rfl) C0 F9 N1 S hdes hmp hq rfl rfl rfl rfl rfl rfl (fun e m' h' tk' es' F' N' hd=>hret es' hd (beq_iff_eq.mpr e) m' h' tk' F' N') (fun ne es' hd=>hown es' hd (beq_false_of_ne ne))
  | var kd sg2 b nm2 arr =>
    obtain ⟨hk',hb2,_⟩:=hi
    rcases hk' with rfl|rfl
    · cases b with
      | none=>exact cr_none (.inr ⟨sg2,nm2,arr,rfl⟩) C0 F9 N1 hmp hq rfl rfl rfl (hret _ hdes (by kernel_rfl))
      | some u=>exact cr_some (.inr ⟨sg2,nm2,arr,rfl⟩) (small hb2 rfl) C0 F9 N1 S hdes hmp hq rfl rfl rfl rfl rfl rfl (fun e m' h' tk' es' F' N' hd=>hret es' hd ((fits_reg t u sg2 nm2 arr).trans (beq_iff_eq.mpr e)) m' h' tk' F' N') (fun ne es' hd=>hown es' hd ((fits_reg t u sg2 nm2 arr).trans (beq_false_of_ne ne)))
    · rcases ht with rfl|rfl
      · exact cr_int (.inl rfl) C0 F9 N1 hmp hq rfl rfl rfl rfl rfl rfl (fun e=>absurd e (by decide)) (fun _=>hown es9 hdes (by kernel_rfl))
      · exact cr_int (.inr rfl) C0 F9 N1 hmp hq rfl rfl rfl rfl rfl rfl (fun _=>hret es9 hdes (by kernel_rfl)) (fun e=>absurd rfl e)
  | port=>cases hnv
  | par=>cases hnv
end
section
noncomputable def usual (nt:Str):Str:=if nt=Str.ofString "none" then Str.ofString "wire" else nt
noncomputable def ntOk (x:Str):Prop:=x=Str.ofString "wire"∨x=Str.ofString "wor"∨x=Str.ofString "none"∨x=Str.ofString "tri"
theorem kinds_ok {prog:Program} {w:World} {data:Led}:Spec prog w (nat_lit 28) [] 2 60 data (fun r news'=>∃ D n t0 t1 t2 t3 t4 t5 t6 t7 t8,r=.ref D∧news'=(D,tupO #[.str (Str.ofString "wire") t0,.str (Str.ofString "tri") t1,.str (Str.ofString "wand") t2,.str (Str.ofString "wor") t3,.str (Str.ofString "tri0") t4,.str (Str.ofString "tri1") t5,.str (Str.ofString "trireg") t6,.str (Str.ofString "supply0") t7,.str (Str.ofString "supply1") t8] n)::data):=by
  intro A A₀ env outer base h₀ L p loose mean mg mb m s Q E C F N hQ
  obtain ⟨B,X,T,hA,hf,hk,hh,hd',hu⟩:=C
  refine wpAny_call ?_
  (refine' code_def (binds:=[]) B F X N T hA hf hk (by k_is) (by k_is) (by exact room0 hd') (by exact BindsTo.of_eq rfl) (by exact locs rfl) ?_ (by exact rfl) (by exact rfl) (by exact rfl) (by decide);k_whole;intro g' L' h' FG' F' N' B' X' T';clear F N B X T;(conv=>pattern (fBody _);whnf);(conv=>pattern (occs:=*) (fScope _);all_goals whnf);dsimp only [List.reverse,List.reverseAux,List.length] at F' ⊢;k_fold)
  repeat' (first|(k_unfold;(try dsimp only))|(k_end;kc_close)|fail|walk1|(dsimp only;walk1)|(leave1;(try dsimp only))|fail "no step")
  (show LeaveK _ _ _ _ _ _ _;refine leaveK_ (by k_asm) (by k_asm) ?_;intro kF kN)
  exact hQ _ _ _ _ kF kN ⟨_,_,_,_,_,_,_,_,_,_,_,rfl,rfl⟩
theorem dnet_ok {prog:Program} {w:World} {sc dsc:Addr} {es1:List DictEntry} {n1:Nat} {nt:Str} {tn:Tok} {data:Led} (hnt:ntOk nt) (hsc:(sc,instObj 1327 dsc)∈data) (hdsc:(dsc,dictOf es1 n1)∈data) (g1:getL (Str.ofString "nettype") es1=some (some (.str nt tn))) :
    Spec prog w (nat_lit 1240) [.ref sc] 4 80 data (fun r news'=>∃ t,r=.str (usual nt) t∧news'=data):=by
  rcases hnt with rfl|rfl|rfl|rfl
  all_goals
    intro A A₀ env outer base h₀ L p loose mean mg mb m s Q E C F N hQ
    obtain ⟨B,X,T,hA,hf,hk,hh,hd',hu⟩:=C
    refine wpAny_call ?_
    (refine' code_def (binds:=[(Str.ofString "scope",.ref sc)]) B F X N T hA hf hk (by k_is) (by k_is) (by exact room0 hd') (by exact BindsTo.of_eq rfl) (by exact locs rfl) ?_ (by exact rfl) (by exact rfl) (by exact rfl) (by decide);k_whole;intro g' L' h' FG' F' N' B' X' T';clear F N B X T;(conv=>pattern (fBody _);whnf);(conv=>pattern (occs:=*) (fScope _);all_goals whnf);dsimp only [List.reverse,List.reverseAux,List.length] at F' ⊢;k_fold)
    repeat' (first|(k_unfold;(try dsimp only))|(k_end;kc_close)|((with_reducible show wpAny _ _ (call (Value.ref (nat_lit 28)) _) _ _ _);refine Spec.go (by k_asm) (by k_asm) (Env0.deeper (by assumption) (by assumption) (by assumption) (by assumption) (by exact rfl) (by exact rfl) (by assumption) (by first|exact room hd' rfl|omega) (by first|exact room hu rfl|omega)) kinds_ok ?_;rintro r9 h9 tk9 news9 F' N' ⟨D9,n9,t09,t19,t29,t39,t49,t59,t69,t79,t89,rfl,rfl⟩;(try k_sweep);(try dsimp only))|((with_reducible show wpAny _ _ (getAttr (Value.ref _) _ _) _ _ _);refine' get_own ?k1 ?k2 ?k3 ?k4 ?k5 ?k6 ?k7 ?k8 ?k9 ?_;(case k1=>k_asm);(case k2=>k_asm);(case k3=>k_inst);(case k4=>k_is);(case k5=>k_is);(case k6=>k_is);(case k7=>k_is);(case k8=>assumption);(case k9=>k_handed);k_whole)|((with_reducible show wpAny _ _ (subscriptTail _ _ (Value.ref _) (Value.int _ _)) _ _ _);first|(refine item_litK (News.isList (by k_asm) (by k_mem)) (by decide) (by decide) (by exact rfl) ?_ (by with_unfolding_all rfl))|(refine item_tupleT (News.isTup (by k_asm) (by k_mem)) (by decide) (by decide) (by exact rfl) (by exact rfl) ?_ (by with_unfolding_all rfl)))|walk1|(dsimp only;walk1)|(leave1;(try dsimp only))|fail "no step")
    (show LeaveK _ _ _ _ _ _ _;refine leaveK_ (by k_asm) (by k_asm) ?_;intro kF kN)
    exact hQ _ _ _ _ kF (news_sub kN (by ((repeat' (first|with_reducible exact fun _ h=>h|with_reducible exact List.forall_mem_nil _|(with_reducible refine sub_cons ?_ ?_)|(with_reducible refine sub_app ?_ ?_)|(with_reducible refine sub_append ?_ ?_)|(intro q9 hq9;first|k_mem|(replace hq9:=hs _ hq9;k_mem))|k_mem));first|done|fail "left"))) ⟨_,rfl,rfl⟩
end
section
noncomputable abbrev psE (L:Addr):Env:=envOf (Str.ofString "port_shape") (fScope (stAt 170)) L 1247 (.ref 1246)
noncomputable abbrev psS (k:Nat):Stmt:=(fBody (stAt 170))[k]?.getD (.Pass ⟨0,0,0,0⟩)
theorem ps_body:fBody (stAt 170)=[psS 0,psS 1,psS 2,psS 3,psS 4,psS 5,psS 6,psS 7]:=by kernel_rfl
noncomputable def restR (sg:Bool) (b:Option Int) (it:It) (kd:Str) (sg2:Bool) (b2:Option Int):Dat ⊕ Str :=
  match b with
  | none=>.inl (.tuple [.str kd,.bool (sg || sg2),bdD b2])
  | some t=>if fits t it=true then .inl (.tuple [.str kd,.bool (sg || sg2),bdD (some t)]) else .inr (Str.ofString "port_range")
noncomputable def toldR (nt dir:Str) (sg:Bool) (b:Option Int):Option It→Dat ⊕ Str
  | none=>.inl (.tuple [.str (usual nt),.bool sg,bdD b])
  | some (.net kd sg2 b2 nm2 arr)=>if arr=true then .inr (Str.ofString "array_port") else restR sg b (.net kd sg2 b2 nm2 arr) kd sg2 b2
  | some (.var kd sg2 b2 nm2 arr)=>if dir=Str.ofString "output" then (if arr=true then .inr (Str.ofString "array_port") else restR sg b (.var kd sg2 b2 nm2 arr) kd sg2 b2) else .inr (Str.ofString "variable_port_input")
  | some _=>.inr (Str.ofString "")
noncomputable def PartIn (data:Led) (v:Value):Option It→Prop
  | none=>v=.none
  | some it=>DatIn data v (itemD it)∧itOk it∧isNV it=true
noncomputable abbrev psR (dir nm:Str) (i:Int) (sg:Bool) (b:Option Int) (dq:Dat):List (Str × Dat):=[(Str.ofString "partner",dq),(Str.ofString "direction",.str dir),(Str.ofString "signed",.bool sg),(Str.ofString "bounds",bdD b),(Str.ofString "name",.str nm),(Str.ofString "at",.int i)]
noncomputable abbrev Ps (n:Nat) (dir nm:Str) (i:Int) (sg:Bool) (b:Option Int) (dq:Dat) (st:List Stmt):Option (Option Dat × List (Str × Dat)):=runD (fScope (stAt 170)) lenF n (psR dir nm i sg b dq) st
/-- the whole,where nothing is raised and the port has no range -/
theorem ps_e0 {nt dir nm:Str} {i:Int} {sg:Bool} {it:It} {d:Dat} (hi:isNV it=true) (hd:dir=Str.ofString "input"∨dir=Str.ofString "output"∨dir=Str.ofString "inout") (h:toldR nt dir sg none (some it)=.inl d) :
    ∃ ρ',Ps 20 dir nm i sg none (itemD it) [psS 1,psS 2,psS 3,psS 4,psS 5,psS 6,psS 7]=some (some d,ρ'):=by
  cases it with
  | net kd sg2 b2 nm2 arr =>
    cases arr with
    | true=>cases h
    | false=>cases h;exact ⟨(Str.ofString "bounds",bdD b2)::(Str.ofString "arrays",arrD false)::(Str.ofString "arrays",.str nm2)::psR dir nm i sg none (itemD (.net kd sg2 b2 nm2 false)),by kernel_rfl⟩
  | var kd sg2 b2 nm2 arr =>
    rcases hd with rfl|rfl|rfl
    · cases h
    · cases arr with
      | true=>cases h
      | false=>cases h;exact ⟨(Str.ofString "bounds",bdD b2)::(Str.ofString "arrays",arrD false)::psR (Str.ofString "output") nm i sg none (itemD (.var kd sg2 b2 nm2 false)),by kernel_rfl⟩
    · cases h
  | port=>cases hi
  | par=>cases hi
theorem rho_keep {cs:Scope} {m m':Str→Option Value} {news:Led} {ρ ρa:List (Str × Dat)} (R:Rho cs m news ρ) (K:∀ x,ρa.lookup x=none→m' x=m x) (h:∀ x d,ρ.lookup x=some d→ρa.lookup x=none):Rho cs m' news ρ:=fun x d hx=>by
  obtain ⟨a,v,b,c⟩:=R x d hx
  exact ⟨a,v,(K x (h x d hx)).trans b,c⟩
theorem fr_back {h₀ h:Heap} {L:Addr} {m:Str→Option Value} {x:Str} {v:Value} (F:Fr h₀ L h (fun y=>if y=x then some v else m y)) (e:m x=some v):Fr h₀ L h m:=by
  have:(fun y=>if y=x then some v else m y)=m:=by
    funext y
    by_cases h:y=x
    · rw [if_pos h,h,e]
    · rw [if_neg h]
  rw [← this];exact F
theorem noList_res (k:Str) (s:Bool) (b:Option Int):noList (.tuple [.str k,.bool s,bdD b])=true:=by cases b <;> rfl
theorem rest_nol {sg sg2:Bool} {b b2:Option Int} {it:It} {kd:Str} {d:Dat} (h:restR sg b it kd sg2 b2=.inl d):noList d=true:=by
  cases b with
  | none=>cases h;exact noList_res _ _ _
  | some t =>
    unfold restR at h
    dsimp only at h
    split at h
    · cases h;exact noList_res _ _ (some t)
    · cases h
theorem told_nol {nt dir:Str} {sg:Bool} {b:Option Int} {q:Option It} {d:Dat} (h:toldR nt dir sg b q=.inl d):noList d=true:=by
  cases q with
  | none=>cases h;exact noList_res _ _ _
  | some it =>
    cases it with
    | net kd sg2 b2 nm2 arr =>
      cases arr with
      | true=>cases h
      | false=>exact rest_nol h
    | var kd sg2 b2 nm2 arr =>
      unfold toldR at h
      dsimp only at h
      split at h
      · cases arr with
        | true=>cases h
        | false=>exact rest_nol h
      · cases h
    | port=>cases h
    | par=>cases h
section
variable {prog:Program} {w:World} {A A₀:Around} {outer:List Env} {base h₀:Heap} {L:Addr} {p:Program} {loose:List Str} {mean:ExcName→Option Value} {mg mb:Str→Option Value} {m:Str→Option Value} {s:Shared} {Q:Flow→Shared→Prop} {E:Value→Shared→Prop}
  {sc dsc x dx:Addr} {es1 es2:List DictEntry} {n1 n2:Nat} {nt dir nm:Str} {i:Int} {sg:Bool} {b:Option Int} {vp vq:Value} {data:Led} {it:It}
noncomputable abbrev RetP (Q:Flow→Shared→Prop) (h₀:Heap) (L:Addr) (dx:Addr) (n2:Nat) (data:Led) (s:Shared) (d:Dat):Prop :=
  ∀ r m' h' tk' es2' tl,Fr h₀ L h' m'→News h₀ L h' ((dx,dictOf es2' n2)::(tl++data))→Tups tl→DatIn tl r d→desOk es2'→Q (.ret r) { s with heap:=h',toks:=tk' }
theorem ps_plain (C:Env0 w A A₀ (psE L) outer base h₀ L 46 1000 p loose mean mg mb) (F:Fr h₀ L s.heap m) (N:News h₀ L s.heap ((dx,dictOf es2 n2)::data)) (g2:desOk es2) (hnv:isNV it=true) (hd:dir=Str.ofString "input"∨dir=Str.ofString "output"∨dir=Str.ofString "inout")
    (R:Rho (fScope (stAt 170)) m ((dx,dictOf es2 n2)::data) (psR dir nm i sg none (itemD it))) {d:Dat} (h:toldR nt dir sg none (some it)=.inl d) (hQ:RetP Q h₀ L dx n2 data s d) :
    wpAny (model prog w) A (execs [psS 1,psS 2,psS 3,psS 4,psS 5,psS 6,psS 7] (psE L)) Q E s:=by
  obtain ⟨ρ',e⟩:=ps_e0 (nm:=nm) (i:=i) hnv hd h
  have hu:=C.hu
  refine ex_ok (cl:=[]) rfl (by omega) (calls_len C.X C.T rfl (by kernel_rfl)) 20 _ _ (some d) ρ' m _ s Q e F N R fun m' h' tk' n' F' N' X' _ _ v D=>?_
  obtain ⟨tl,ht,rfl⟩:=X'
  refine end_cps [(dx,dictOf es2 n2)] data d N' (List.forall_mem_singleton.mpr (by k_mem)) D (told_nol h) (by ((repeat' (first|with_reducible exact fun _ h=>h|with_reducible exact List.forall_mem_nil _|(with_reducible refine sub_cons ?_ ?_)|(with_reducible refine sub_app ?_ ?_)|(with_reducible refine sub_append ?_ ?_)|(intro q9 hq9;first|k_mem|(replace hq9:=hs _ hq9;k_mem))|k_mem));first|done|fail "left")) fun tl2 ht2 hd2 hN=>?_
  exact hQ v m' h' tk' es2 tl2 F' hN ht2 hd2 g2
/-- the names that the raise reads -/
theorem ps_raise (k:String) (C:Env0 w A A₀ (psE L) outer base h₀ L 46 1000 p loose mean mg mb) (F:Fr h₀ L s.heap m) (N:News h₀ L s.heap ((dx,dictOf es2 n2)::data)) {news:Led} {ρ:List (Str × Dat)} (R:Rho (fScope (stAt 170)) m news ρ) (h1:ρ.lookup (Str.ofString "at")=some (.int i)) (h2:ρ.lookup (Str.ofString "name")=some (.str nm)) {rest:List Stmt} {P1 P2 P3 P4 P5 P6:Pos}
    {kk:Nat} (hE:OwnP E h₀ L dx es2 n2 data s (Str.ofString k) nm i) :
    wpAny (model prog w) A (execs (.Raise (some (.Call (.Name (Str.ofString "DesignError") P1) [.Constant (.str (Str.ofString k)) kk P2,.Name (Str.ofString "at") P3,.Name (Str.ofString "name") P4] [] P5)) none P6::rest) (psE L)) Q E s:=by
  obtain ⟨_,va,ha,hda⟩:=R _ _ h1
  obtain ⟨_,vn,hn,hdn⟩:=R _ _ h2
  cases hda
  cases hdn
  have F2:=fr_name (x:=Str.ofString "at") (fr_name (x:=Str.ofString "name") F hn) ((if_neg (by decide)).trans ha)
  clear F R
  obtain ⟨B,X,T,hA,hf,hk,hh,hd',hu⟩:=C
  unfold psE
  conv=>pattern (occs:=*) (fScope _);all_goals whnf
  repeat' (first|(k_unfold;(try dsimp only))|(k_end;kc_close)|((with_reducible show wpAny _ _ (exec (Stmt.Raise (some _) none _) _) _ _ _);refine raise_D hh ?_)|((with_reducible show wpAny _ _ (call (Value.ref (nat_lit 122)) _) _ _ _);refine exc_raise (by k_in) (by assumption) (by first|omega|(simp only [Around.deeper];omega)) (by first|omega|(simp only [Around.deeper];omega)) ?_;intro e9 dx9 T9 h9 tk9 kk9 ex9 ne9 nd9)|((with_reducible show wpAny _ _ (subscriptTail _ _ (Value.ref _) (Value.int _ _)) _ _ _);first|(refine item_litK (News.isList (by k_asm) (by k_mem)) (by decide) (by decide) (by exact rfl) ?_ (by with_unfolding_all rfl))|(refine item_tupleT (News.isTup (by k_asm) (by k_mem)) (by decide) (by decide) (by exact rfl) (by exact rfl) ?_ (by with_unfolding_all rfl)))|walk1|(dsimp only;walk1)|(leave1;(try dsimp only))|fail "no step")
  exact hE _ _ _ _ _ _ _ F2 N kk9 ex9 ne9 nd9
theorem ps_vin {kd nm2:Str} {sg2 arr:Bool} {b2:Option Int} (C:Env0 w A A₀ (psE L) outer base h₀ L 46 1000 p loose mean mg mb) (F:Fr h₀ L s.heap m) (N:News h₀ L s.heap ((dx,dictOf es2 n2)::data)) (hd:dir=Str.ofString "input"∨dir=Str.ofString "inout")
    (R:Rho (fScope (stAt 170)) m ((dx,dictOf es2 n2)::data) (psR dir nm i sg b (itemD (.var kd sg2 b2 nm2 arr)))) (hE:OwnP E h₀ L dx es2 n2 data s (Str.ofString "variable_port_input") nm i) :
    wpAny (model prog w) A (execs [psS 1,psS 2,psS 3,psS 4,psS 5,psS 6,psS 7] (psE L)) Q E s:=by
  have hu:=C.hu
  refine pre_ok (cl:=[]) (fc:=lenF) (n:=20) rfl (by omega) (calls_len C.X C.T rfl (by kernel_rfl)) [psS 1] _ (psR dir nm i sg b (itemD (.var kd sg2 b2 nm2 arr))) m _ s (by kernel_rfl) F N R fun m' h' tk' n' F' N' X' R' K'=>?_
  obtain ⟨tl,ht,rfl⟩:=X'
  conv=>pattern (psS 2);whnf
  refine wpAny_execs_cons (wpAny_If (ev_tst true (psR dir nm i sg b (itemD (.var kd sg2 b2 nm2 arr))) rfl (by omega) (by rcases hd with rfl|rfl <;> kernel_rfl) F' N' R' fun h2 t2 tl2 F2 N2 ht2=>?_))
  rw [if_pos rfl]
  exact ps_raise "variable_port_input" C F2 (news_sub N2 (by ((repeat' (first|with_reducible exact fun _ h=>h|with_reducible exact List.forall_mem_nil _|(with_reducible refine sub_cons ?_ ?_)|(with_reducible refine sub_app ?_ ?_)|(with_reducible refine sub_append ?_ ?_)|(intro q9 hq9;first|k_mem|(replace hq9:=hs _ hq9;k_mem))|k_mem));first|done|fail "left"))) R' rfl rfl hE
theorem ps_arr (ρa:List (Str × Dat)) (C:Env0 w A A₀ (psE L) outer base h₀ L 46 1000 p loose mean mg mb) (F:Fr h₀ L s.heap m) (N:News h₀ L s.heap ((dx,dictOf es2 n2)::data))
    (R:Rho (fScope (stAt 170)) m ((dx,dictOf es2 n2)::data) (psR dir nm i sg b (itemD it))) (e:Ps 20 dir nm i sg b (itemD it) [psS 1,psS 2,psS 3,psS 4]=some (none,(Str.ofString "arrays",arrD true)::(ρa++psR dir nm i sg b (itemD it)))) (ha:ρa.lookup (Str.ofString "at")=none∧ρa.lookup (Str.ofString "name")=none)
    (hE:OwnP E h₀ L dx es2 n2 data s (Str.ofString "array_port") nm i) :
    wpAny (model prog w) A (execs [psS 1,psS 2,psS 3,psS 4,psS 5,psS 6,psS 7] (psE L)) Q E s:=by
  have hu:=C.hu
  have hc:CallsOk prog w A E h₀ L (psE L) lenF:=calls_len (cl:=[]) C.X C.T rfl (by kernel_rfl)
  refine pre_ok (cl:=[]) (fc:=lenF) (n:=20) rfl (by omega) hc [psS 1,psS 2,psS 3,psS 4] _ _ m _ s e F N R fun m' h' tk' n' F' N' X' R' K'=>?_
  obtain ⟨tl,ht,rfl⟩:=X'
  conv=>pattern (psS 5);whnf
  refine wpAny_execs_cons (wpAny_If ((ev_ok (cl:=[]) rfl (by omega) hc 20).2 _ (.bool true) m' _ _ _ _ (by kernel_rfl) F' N' R' fun b2 h2 t2 n2' eb F2 N2 X2=>?_))
  cases eb
  obtain ⟨tl2,ht2,rfl⟩:=X2
  rw [if_pos rfl]
  refine ps_raise "array_port" C F2 (news_sub N2 (by ((repeat' (first|with_reducible exact fun _ h=>h|with_reducible exact List.forall_mem_nil _|(with_reducible refine sub_cons ?_ ?_)|(with_reducible refine sub_app ?_ ?_)|(with_reducible refine sub_append ?_ ?_)|(intro q9 hq9;first|k_mem|(replace hq9:=hs _ hq9;k_mem))|k_mem));first|done|fail "left"))) R' ?_ ?_ hE
  · rw [List.lookup_cons,show (Str.ofString "at" == Str.ofString "arrays")=false from by decide +kernel,List.lookup_append,ha.1];rfl
  · rw [List.lookup_cons,show (Str.ofString "name" == Str.ofString "arrays")=false from by decide +kernel,List.lookup_append,ha.2];rfl
theorem ps_nil (C:Env0 w A A₀ (psE L) outer base h₀ L 46 1000 p loose mean mg mb) (F:Fr h₀ L s.heap m) (N:News h₀ L s.heap ((dx,dictOf es2 n2)::data)) (S:Sco data sc dsc x dx es1 n1 nt) (g2:desOk es2) (hnt:ntOk nt)
    (R:Rho (fScope (stAt 170)) m ((dx,dictOf es2 n2)::data) (psR dir nm i sg b .none)) (hsc:m (Str.ofString "scope")=some (.ref sc)) (hQ:RetP Q h₀ L dx n2 data s (.tuple [.str (usual nt),.bool sg,bdD b])) :
    wpAny (model prog w) A (execs [psS 1,psS 2,psS 3,psS 4,psS 5,psS 6,psS 7] (psE L)) Q E s:=by
  have hu:=C.hu
  have hsc':=S.hsc
  have hdsc:=S.hdsc
  obtain ⟨tn,hntv⟩:=S.g2
  have e1:psS 1=.If (ifT (psS 1)) (ifB (psS 1)) (ifE (psS 1)) (ifP (psS 1)):=by kernel_rfl
  refine wpAny_execs_cons ?_
  rw [e1]
  refine wpAny_If (ev_tst (cl:=[]) true _ (by kernel_rfl) (by omega) (by kernel_rfl) F N R fun ha ta tla Fa Na hta=>?_)
  rw [if_pos rfl]
  obtain ⟨_,vs,h1,d1⟩:=R (Str.ofString "signed") (.bool sg) (by kernel_rfl)
  obtain ⟨_,vb,h2,d2⟩:=R (Str.ofString "bounds") (bdD b) (by kernel_rfl)
  cases d1
  have F2:=fr_name (x:=Str.ofString "scope") (fr_name (x:=Str.ofString "bounds") (fr_name (x:=Str.ofString "signed") Fa h1) ((if_neg (by decide)).trans h2)) ((if_neg (by decide)).trans ((if_neg (by decide)).trans hsc))
  clear F Fa N R
  obtain ⟨B,X,T,hA,hf,hk,hh,hd',hu⟩:=C
  conv=>pattern (ifB (psS 1));whnf
  unfold psE
  conv=>pattern (occs:=*) (fScope _);all_goals whnf
  repeat' (first|(k_unfold;(try dsimp only))|(k_end;kc_close)|((with_reducible show wpAny _ _ (call (Value.ref (nat_lit 1240)) _) _ _ _);refine Spec.go (by k_asm) (by k_asm) (Env0.mk B X T hA hf hk hh (room hd' rfl) (room hu rfl)) (dnet_ok hnt (by k_mem) (by k_mem) hntv) ?_;rintro r9 h9 tk9 news9 F' N' ⟨t9,rfl,rfl⟩;(try k_sweep);(try dsimp only))|((with_reducible show wpAny _ _ (subscriptTail _ _ (Value.ref _) (Value.int _ _)) _ _ _);first|(refine item_litK (News.isList (by k_asm) (by k_mem)) (by decide) (by decide) (by exact rfl) ?_ (by with_unfolding_all rfl))|(refine item_tupleT (News.isTup (by k_asm) (by k_mem)) (by decide) (by decide) (by exact rfl) (by exact rfl) ?_ (by with_unfolding_all rfl)))|walk1|(dsimp only;walk1)|(leave1;(try dsimp only))|fail "no step")
  (with_reducible rename Fr _ _ _ _=>F9)
  (with_reducible rename News _ _ _ _=>N9)
  refine end_cps [(dx,dictOf es2 n2)] data (.tuple [.str (usual nt),.bool sg,bdD b]) N9 (List.forall_mem_singleton.mpr (by k_mem)) ?_ (noList_res _ _ _) (by ((repeat' (first|with_reducible exact fun _ h=>h|with_reducible exact List.forall_mem_nil _|(with_reducible refine sub_cons ?_ ?_)|(with_reducible refine sub_app ?_ ?_)|(with_reducible refine sub_append ?_ ?_)|(intro q9 hq9;first|k_mem|(replace hq9:=hs _ hq9;k_mem))|k_mem));first|done|fail "left")) fun tl2 ht2 hd2 hN=>hQ _ _ _ _ es2 tl2 F9 hN ht2 hd2 g2
  refine DatIn.tuple (by k_mem) (.cons (.str _ _) (.cons (.bool _) (.cons (DatIn.mono (fun _ h=>.tail _ (List.mem_append_right _ h)) d2) .nil)))
noncomputable abbrev OnP (E:Value→Shared→Prop) (base:Heap) (l:List Env) (h₀:Heap) (L:Addr) (dx:Addr) (n2:Nat) (data:Led) (s:Shared) (k nm:Str) (i:Int):Prop :=
  ∀ g' m' h' tk' es2' e dxe h1 h2 h3 u1 u2 u3 t1 t2 t3 n,Fr h₀ L g' m'→g'.UpToSlots h'→RaisedD base g' l e dxe (excD k nm i h1 h2 h3 u1 u2 u3 t1 t2 t3 n) ((dx,dictOf es2' n2)::data) h'→desOk es2'→E (.ref e) { s with heap:=h',toks:=tk' }
theorem ps_fit {t:Int} {kd:Str} {sg2:Bool} (ρa:List (Str × Dat)) (C:Env0 w A A₀ (psE L) outer base h₀ L 46 1000 p loose mean mg mb) (F:Fr h₀ L s.heap m) (N:News h₀ L s.heap ((dx,dictOf es2 n2)::data)) (S:Sco data sc dsc x dx es1 n1 nt) (g2:desOk es2)
    (hp:DatIn data vp (itemD (.port i dir sg (some t) nm))) (hq:DatIn data vq (itemD it)) (ht:t=7∨t=31) (hi:itOk it) (hnv:isNV it=true)
    (R:Rho (fScope (stAt 170)) m data (psR dir nm i sg (some t) (itemD it))) (e:Ps 20 dir nm i sg (some t) (itemD it) [psS 1,psS 2,psS 3,psS 4,psS 5]=some (none,ρa++psR dir nm i sg (some t) (itemD it)))
    (hk:∀ x,x≠Str.ofString "arrays"→ρa.lookup x=none) (e6:evD (fun _ _=>none) (ρa++psR dir nm i sg (some t) (itemD it)) 20 true (ifT (psS 6))=some (.bool false))
    (e7:runD (fScope (stAt 170)) lenF 20 (psR dir nm i sg (some t) (itemD it)) [psS 7]=some (some (.tuple [.str kd,.bool (sg || sg2),bdD (some t)]),psR dir nm i sg (some t) (itemD it)))
    (h1:m (Str.ofString "scope")=some (.ref sc)) (h2:m (Str.ofString "port")=some vp) (h3:m (Str.ofString "partner")=some vq)
    (hQ:fits t it=true→RetP Q h₀ L dx n2 data s (.tuple [.str kd,.bool (sg || sg2),bdD (some t)])) (hE:fits t it=false→OnP E base (psE L::outer) h₀ L dx n2 data s (Str.ofString "port_range") nm i) :
    wpAny (model prog w) A (execs [psS 1,psS 2,psS 3,psS 4,psS 5,psS 6,psS 7] (psE L)) Q E s:=by
  have hu:=C.hu
  have hc:CallsOk prog w A E h₀ L (psE L) lenF:=calls_len (cl:=[]) C.X C.T rfl (by kernel_rfl)
  refine pre_ok (cl:=[]) (fc:=lenF) (n:=20) rfl (by omega) hc [psS 1,psS 2,psS 3,psS 4,psS 5] _ _ m _ s e F N (rho_mono R fun _ h=>.tail _ h) fun m5 h5 tk5 n5 F5 N5 X5 R5 K5=>?_
  obtain ⟨tl,htl,rfl⟩:=X5
  have K:=keep_of ρa K5
  have h1':=(K _ (hk _ (by decide))).trans h1
  have h2':=(K _ (hk _ (by decide))).trans h2
  have h3':=(K _ (hk _ (by decide))).trans h3
  have es:psS 6=.If (ifT (psS 6)) (ifB (psS 6)) (ifE (psS 6)) (ifP (psS 6)):=by kernel_rfl
  refine wpAny_execs_cons ?_
  rw [es]
  refine wpAny_If (ev_tst (cl:=[]) false _ (by kernel_rfl) (by omega) e6 F5 N5 R5 fun hb tb tlb Fb Nb hb'=>?_)
  rw [if_neg (by decide)]
  conv=>pattern (ifE (psS 6));whnf
  refine wpAny_execs_cons (wpAny_Expr_any ?_)
  refine Call_ (nameX_K (cl:=[]) Fb C.X (topRead_of C.T) (v:=.ref (nat_lit 1254)) (by k_is) (callWith_K C.X (by k_is) (args_cons (nameX_L (cl:=[]) Fb h1' (args_cons (nameX_L (cl:=[]) Fb h2' (args_cons (nameX_L (cl:=[]) Fb h3' (args_nil ⟨C.X.keeps Fb.keep,?_⟩) (by kernel_rfl) (by kernel_rfl))) (by kernel_rfl) (by kernel_rfl))) (by kernel_rfl) (by kernel_rfl)))) (by kernel_rfl) (by kernel_rfl))
  refine cpr_ok (C.less rfl rfl) Fb (news_sub Nb (by ((repeat' (first|with_reducible exact fun _ h=>h|with_reducible exact List.forall_mem_nil _|(with_reducible refine sub_cons ?_ ?_)|(with_reducible refine sub_app ?_ ?_)|(with_reducible refine sub_append ?_ ?_)|(intro q9 hq9;first|k_mem|(replace hq9:=hs _ hq9;k_mem))|k_mem));first|done|fail "left"))) S g2 ht hp hq hi hnv (fun hf h' tk' es' tl' F' N' ht' hd'=>?_) (fun hf g' h' tk' es' e dxe h1 h2 h3 u1 u2 u3 t1 t2 t3 n F' U' R' hd'=>hE hf _ _ _ _ _ _ _ _ _ _ _ _ _ _ _ _ _ F' U' R' hd')
  show wpAny _ _ (execs [] (psE L)) _ _ _
  refine wpAny_execs_nil ?_
  show wpAny _ _ (execs [psS 7] (psE L)) _ _ _
  have R7:Rho (fScope (stAt 170)) m5 ((dx,dictOf es' n2)::(tl'++data)) (psR dir nm i sg (some t) (itemD it)):=rho_mono (rho_keep R K fun x d hx=>hk x fun q=>by rw [q] at hx;exact nomatch (show (none:Option Dat)=some d from hx)) (fun _ h=>.tail _ (List.mem_append_right _ h))
  refine ex_ok (cl:=[]) rfl (by omega) hc 20 _ [psS 7] (some _) _ m5 _ _ Q e7 F' N' R7 fun m8 h8 tk8 n8 F8 N8 X8 _ _ v D=>?_
  obtain ⟨tl8,htl8,rfl⟩:=X8
  refine end_cps [(dx,dictOf es' n2)] data _ N8 (List.forall_mem_singleton.mpr (by k_mem)) D (noList_res kd (sg || sg2) (some t)) (by ((repeat' (first|with_reducible exact fun _ h=>h|with_reducible exact List.forall_mem_nil _|(with_reducible refine sub_cons ?_ ?_)|(with_reducible refine sub_app ?_ ?_)|(with_reducible refine sub_append ?_ ?_)|(intro q9 hq9;first|k_mem|(replace hq9:=hs _ hq9;k_mem))|k_mem));first|done|fail "left")) fun tl9 ht9 hd9 hN=>hQ hf _ _ _ _ es' tl9 F8 hN ht9 hd9 hd'
end
end
section
noncomputable def dqOf:Option It→Dat
  | none=>.none
  | some it=>itemD it
theorem part_dat {data:Led} {v:Value} {q:Option It} (h:PartIn data v q):DatIn data v (dqOf q):=by
  cases q with
  | none=>cases (show v=.none from h);exact .none
  | some it=>exact h.1
theorem one_arr (d:Dat):∀ x,x≠Str.ofString "arrays"→List.lookup x [(Str.ofString "arrays",d)]=none:=fun x h=>by
  rw [List.lookup_cons,beq_false_of_ne h];rfl
theorem two_arr (d e:Dat):∀ x,x≠Str.ofString "arrays"→List.lookup x [(Str.ofString "arrays",d),(Str.ofString "arrays",e)]=none:=fun x h=>by
  rw [List.lookup_cons,beq_false_of_ne h];exact one_arr e x h
theorem ps_go {prog:Program} {w:World} {A A₀:Around} {outer:List Env} {base h₀:Heap} {L:Addr} {p:Program} {loose:List Str} {mean:ExcName→Option Value} {mg mb:Str→Option Value} {m:Str→Option Value} {s:Shared} {Q:Flow→Shared→Prop} {E:Value→Shared→Prop}
    {sc dsc x dx:Addr} {es1 es2:List DictEntry} {n1 n2:Nat} {nt dir nm:Str} {i:Int} {sg:Bool} {b:Option Int} {vp vq vb:Value} {t0 t1 t2:Tok} {data:Led} {q:Option It}
    (C:Env0 w A A₀ (psE L) outer base h₀ L 46 1000 p loose mean mg mb) (F:Fr h₀ L s.heap m) (N:News h₀ L s.heap ((dx,dictOf es2 n2)::data)) (S:Sco data sc dsc x dx es1 n1 nt) (g2:desOk es2) (hnt:ntOk nt) (hp:DatIn data vp (itemD (.port i dir sg b nm))) (hpo:itOk (.port i dir sg b nm)) (hq:PartIn data vq q) (hvb:DatIn data vb (bdD b))
    (h1:m (Str.ofString "scope")=some (.ref sc)) (h2:m (Str.ofString "port")=some vp) (h3:m (Str.ofString "partner")=some vq) (h4:m (Str.ofString "direction")=some (.str dir t0)) (h5:m (Str.ofString "signed")=some (.bool sg)) (h6:m (Str.ofString "bounds")=some vb) (h7:m (Str.ofString "name")=some (.str nm t1)) (h8:m (Str.ofString "at")=some (.int i t2))
    (hret:∀ d,toldR nt dir sg b q=.inl d→RetP Q h₀ L dx n2 data s d) (hown:∀ k,toldR nt dir sg b q=.inr k→OwnP E h₀ L dx es2 n2 data s k nm i) (hon:∀ k,toldR nt dir sg b q=.inr k→OnP E base (psE L::outer) h₀ L dx n2 data s k nm i) :
    wpAny (model prog w) A (execs [psS 1,psS 2,psS 3,psS 4,psS 5,psS 6,psS 7] (psE L)) Q E s:=by
  obtain ⟨hdir,hb,hnm⟩:=hpo
  have R:Rho (fScope (stAt 170)) m data (psR dir nm i sg b (dqOf q)):=rho_cons (part_dat hq) h3 (by kernel_rfl) (rho_cons (.str _ _) h4 (by kernel_rfl) (rho_cons (.bool _) h5 (by kernel_rfl) (rho_cons hvb h6 (by kernel_rfl) (rho_cons (.str _ _) h7 (by kernel_rfl) (rho_cons (.int _ _) h8 (by kernel_rfl) rho_nil)))))
  have R1:=rho_mono (news':=(dx,dictOf es2 n2)::data) R fun _ h=>.tail _ h
  cases q with
  | none=>exact ps_nil C F N S g2 hnt R1 h1 (hret _ rfl)
  | some it =>
    obtain ⟨hq,hi,hnv⟩:=hq
    cases it with
    | net kd sg2 b2 nm2 arr =>
      cases arr with
      | true=>exact ps_arr (it:=.net kd sg2 b2 nm2 true) [(Str.ofString "arrays",.str nm2)] C F N R1 (by kernel_rfl) ⟨by kernel_rfl,by kernel_rfl⟩ (hown _ rfl)
      | false =>
        cases b with
        | none=>exact ps_plain (nt:=nt) (it:=.net kd sg2 b2 nm2 false) (d:=.tuple [.str kd,.bool (sg || sg2),bdD b2]) C F N g2 hnv hdir R1 rfl (hret _ rfl)
        | some t =>
          have ht:t=7∨t=31:=by rcases hb with h|h|h <;> cases h <;> simp
          exact ps_fit (it:=.net kd sg2 b2 nm2 false) [(Str.ofString "arrays",arrD false),(Str.ofString "arrays",.str nm2)] C F N S g2 hp hq ht hi hnv R (by kernel_rfl) (two_arr _ _) (by kernel_rfl) (by kernel_rfl) h1 h2 h3 (fun hf=>hret _ (if_pos hf)) (fun hf=>hon _ (if_neg (by rw [hf];exact fun e=>nomatch e)))
    | var kd sg2 b2 nm2 arr =>
      by_cases ho:dir=Str.ofString "output"
      · subst ho
        cases arr with
        | true=>exact ps_arr (it:=.var kd sg2 b2 nm2 true) [] C F N R1 (by kernel_rfl) ⟨rfl,rfl⟩ (hown (Str.ofString "array_port") (by kernel_rfl))
        | false =>
          cases b with
          | none=>exact ps_plain (nt:=nt) (it:=.var kd sg2 b2 nm2 false) (d:=.tuple [.str kd,.bool (sg || sg2),bdD b2]) C F N g2 hnv hdir R1 (by kernel_rfl) (hret _ (by kernel_rfl))
          | some t =>
            have ht:t=7∨t=31:=by rcases hb with h|h|h <;> cases h <;> simp
            have eo:toldR nt (Str.ofString "output") sg (some t) (some (.var kd sg2 b2 nm2 false))=(if fits t (.var kd sg2 b2 nm2 false)=true then .inl (.tuple [.str kd,.bool (sg || sg2),bdD (some t)]) else .inr (Str.ofString "port_range")):=by kernel_rfl
            exact ps_fit (it:=.var kd sg2 b2 nm2 false) [(Str.ofString "arrays",arrD false)] C F N S g2 hp hq ht hi hnv R (by kernel_rfl) (one_arr _) (by kernel_rfl) (by kernel_rfl) h1 h2 h3 (fun hf=>hret _ (eo.trans (if_pos hf))) (fun hf=>hon _ (eo.trans (if_neg (by rw [hf];exact fun e=>nomatch e))))
      · have hd:dir=Str.ofString "input"∨dir=Str.ofString "inout":=by
          rcases hdir with h|h|h
          · exact .inl h
          · exact absurd h ho
          · exact .inr h
        exact ps_vin (kd:=kd) (nm2:=nm2) (sg2:=sg2) (arr:=arr) (b2:=b2) C F N hd R1 (hown _ (if_neg ho))
    | port=>cases hnv
    | par=>cases hnv
theorem ps_ok {prog:Program} {w:World} {A A₀:Around} {env:Env} {outer:List Env} {base h₀:Heap} {L:Addr} {p:Program} {loose:List Str} {mean:ExcName→Option Value} {mg mb:Str→Option Value} {m:Str→Option Value} {s:Shared} {Q E:Value→Shared→Prop}
    {sc dsc x dx:Addr} {es1 es2:List DictEntry} {n1 n2:Nat} {nt dir nm:Str} {i:Int} {sg:Bool} {b:Option Int} {vp vq:Value} {data:Led} {q:Option It}
    (C:Env0 w A A₀ env outer base h₀ L 50 1100 p loose mean mg mb) (F:Fr h₀ L s.heap m) (N:News h₀ L s.heap ((dx,dictOf es2 n2)::data)) (S:Sco data sc dsc x dx es1 n1 nt) (g2:desOk es2) (hnt:ntOk nt)
    (hp:DatIn data vp (itemD (.port i dir sg b nm))) (hpo:itOk (.port i dir sg b nm)) (hq:PartIn data vq q)
    (hQ:∀ d,toldR nt dir sg b q=.inl d→∀ r h' tk' es2' tl,Fr h₀ L h' m→News h₀ L h' ((dx,dictOf es2' n2)::(tl++data))→Tups tl→DatIn tl r d→desOk es2'→Q r { s with heap:=h',toks:=tk' })
    (hE:∀ k,toldR nt dir sg b q=.inr k→∀ g' h' tk' es2' e dxe h1 h2 h3 u1 u2 u3 t1 t2 t3 n,Fr h₀ L g' m→g'.UpToSlots h'→RaisedD base g' (env::outer) e dxe (excD k nm i h1 h2 h3 u1 u2 u3 t1 t2 t3 n) ((dx,dictOf es2' n2)::data) h'→desOk es2'→E (.ref e) { s with heap:=h',toks:=tk' }) :
    wpAny (model prog w) A (call (.ref (nat_lit 1247)) [.ref sc,vp,vq]) Q E s:=by
  have hp0:=hp
  obtain ⟨ap,np,tp0,tp1,tp2,tp3,vb,rfl,hmp,hvb⟩:=port_at hp
  obtain ⟨B,X,T,hA,hf,hk,hh,hd',hu⟩:=C
  refine wpAny_call ?_
  (refine' code_def (binds:=[(Str.ofString "scope",.ref sc),(Str.ofString "port",.ref ap),(Str.ofString "partner",vq)]) B F X N T hA hf hk (by k_is) (by k_is) (by exact room0 hd') (by exact BindsTo.of_eq rfl) (by exact locs rfl) ?_ (by exact rfl) (by exact rfl) (by exact rfl) (by decide);k_whole;intro g' L' h' FG' F' N' B' X' T';clear F N;dsimp only [List.reverse,List.reverseAux,List.length] at F' ⊢;k_fold)
  have C1:Env0 w (A.deeper (psE L')) A (psE L') (env::outer) base g' L' 46 1000 p loose mean mg mb:=Env0.deeper B' X' T' hA rfl (by kernel_rfl) hh (room hd' rfl) (room hu rfl)
  have hret:∀ d,toldR nt dir sg b q=.inl d→RetP qk g' L' dx n2 data s d:=by
    intro d hr r m' h' tk' es' tl F9 N9 ht hd hdes
    exact leaveK_ F9 N9 fun kF kN=>hQ d hr _ _ _ _ _ kF kN ht hd hdes
  have hown:∀ k,toldR nt dir sg b q=.inr k→OwnP ek g' L' dx es2 n2 data s k nm i:=by
    intro k hr h m9 e9 dx9 T9 h9 tk9 F9 N9 kk9 ex9 ne9 nd9
    obtain ⟨h1,h2,h3,u1,u2,u3,t7,t8,t9,n9,hd9⟩:=ex9.dict
    dsimp only [ek]
    exact leave_raiseD B' F9 N9 kk9 (frd_of ex9) hd9 (fun _ q=>nomatch q) ne9 nd9 (fun h' R U=>hE k hr _ _ _ _ _ _ _ _ _ _ _ _ _ _ _ _ FG' U R g2) (by kernel_rfl)
  have hon:∀ k,toldR nt dir sg b q=.inr k→OnP ek base (psE L'::env::outer) g' L' dx n2 data s k nm i:=by
    intro k hr g9 m9 h9 tk9 es9 e9 dx9 h19 h29 h39 u19 u29 u39 t19 t29 t39 n9 F9 U9 R9 hd9
    dsimp only [ek]
    exact leave_onD B' F9 R9 U9 fun h' R U=>hE k hr _ _ _ _ _ _ _ _ _ _ _ _ _ _ _ _ FG' U R hd9
  rw [ps_body]
  conv=>pattern (psS 0);whnf
  show wpAny _ _ (execs _ (psE L')) _ _ _
  unfold psE
  conv=>pattern (occs:=*) (fScope _);all_goals whnf
  repeat' ((fail_if_success (with_reducible show wpAny _ _ (execs [psS 1,psS 2,psS 3,psS 4,psS 5,psS 6,psS 7] _) _ _ _));first|(k_unfold;(try dsimp only))|(k_end;wrow_close)|((with_reducible show wpAny _ _ (assign (PySem.Expr.Tuple _ _ _) _ _) _ _ _);refine' unpackN_ ?k1 ?k2 ?k3 ?k4 ?k5 ?k6 ?_;(case k1=>k_asm);(case k2=>k_asm);(case k3=>kun_tup);(case k4=>assumption);(case k5=>exact rfl);(case k6=>exact rfl);intro h' F' N';(try k_sweep))|((with_reducible show wpAny _ _ (subscriptTail _ _ (Value.ref _) (Value.int _ _)) _ _ _);first|(refine item_litK (News.isList (by k_asm) (by k_mem)) (by decide) (by decide) (by exact rfl) ?_ (by with_unfolding_all rfl))|(refine item_tupleT (News.isTup (by k_asm) (by k_mem)) (by decide) (by decide) (by exact rfl) (by exact rfl) ?_ (by with_unfolding_all rfl)))|walk1|(dsimp only;walk1)|(leave1;(try dsimp only))|fail "no step")
  (with_reducible rename Fr _ _ _ _=>F9)
  (with_reducible rename News _ _ _ _=>N9)
  show wpAny _ _ (execs [psS 1,psS 2,psS 3,psS 4,psS 5,psS 6,psS 7] (psE L')) _ _ _
  exact ps_go C1 F9 N9 S g2 hnt hp hpo hq hvb rfl rfl rfl rfl rfl rfl rfl rfl hret hown hon
end
section
noncomputable abbrev lawS (k:Nat):Stmt:=(fBody (stAt 181))[k]?.getD (.Pass ⟨0,0,0,0⟩)
noncomputable abbrev lawE (L fa cd:Addr):Env:=envOfC (Str.ofString "law") (fScope (stAt 181)) L fa (.ref cd)
noncomputable abbrev loopB:List Stmt:=match lawS 12 with|.For _ _ b _ _=>b|_=>[]
noncomputable abbrev loopS (k:Nat):Stmt:=loopB[k]?.getD (.Pass ⟨0,0,0,0⟩)
noncomputable def spanF (f:Str) (da:Dat):Option Dat:=if f == Str.ofString "_law_span" then (match da with|.int k=>some (spanD k)|_=>none) else none
noncomputable def toldD (nt dir nm:Str) (i:Int) (sg:Bool) (b:Option Int) (q:Option It):Dat :=
  match toldR nt dir sg b q with
  | .inl d=>d
  | .inr k=>.tuple [.str k,.int i,.str nm]
theorem toldD_nol {nt dir nm:Str} {i:Int} {sg:Bool} {b:Option Int} {q:Option It}:noList (toldD nt dir nm i sg b q)=true:=by
  unfold toldD
  cases e:toldR nt dir sg b q with
  | inl d=>exact told_nol e
  | inr k=>rfl
noncomputable abbrev dueR (nt dir nm:Str) (i:Int) (sg:Bool) (b:Option Int) (dq:Dat):List (Str × Dat):=[(Str.ofString "port",itemD (.port i dir sg b nm)),(Str.ofString "partner",dq),(Str.ofString "usual",.str (usual nt)),(Str.ofString "name",.str nm)]
noncomputable abbrev DueOk (nt dir nm:Str) (i:Int) (sg:Bool) (b:Option Int) (q:Option It) (dq:Dat):Prop :=
  stD (fScope (stAt 181)) spanF (runD (fScope (stAt 181)) spanF 19) (dueR nt dir nm i sg b dq) (loopS 3)=some (none,(Str.ofString "due",toldD nt dir nm i sg b q)::dueR nt dir nm i sg b dq)
theorem due_none {nt dir nm:Str} {i:Int} {sg:Bool} {b:Option Int}:DueOk nt dir nm i sg b none .none:=by kernel_rfl
theorem due_net {nt dir nm kd nm2:Str} {i:Int} {sg sg2 arr:Bool} {b b2:Option Int} (hi:itOk (.net kd sg2 b2 nm2 arr)) (hb:bOk b):DueOk nt dir nm i sg b (some (.net kd sg2 b2 nm2 arr)) (itemD (.net kd sg2 b2 nm2 arr)):=by
  cases arr with
  | true=>kernel_rfl
  | false =>
    obtain ⟨hk,hb2,_⟩:=hi
    rcases hb with rfl|hb
    · kernel_rfl
    · rcases hk with rfl|rfl <;> rcases hb with rfl|rfl <;> rcases hb2 with rfl|rfl|rfl <;> kernel_rfl
theorem due_var {nt dir nm kd nm2:Str} {i:Int} {sg sg2 arr:Bool} {b b2:Option Int} (hi:itOk (.var kd sg2 b2 nm2 arr)) (hdir:dir=Str.ofString "input"∨dir=Str.ofString "output"∨dir=Str.ofString "inout") (hb:bOk b):DueOk nt dir nm i sg b (some (.var kd sg2 b2 nm2 arr)) (itemD (.var kd sg2 b2 nm2 arr)):=by
  rcases hdir with rfl|rfl|rfl
  · kernel_rfl
  · cases arr with
    | true=>kernel_rfl
    | false =>
      obtain ⟨hk,hb2,_⟩:=hi
      rcases hb with rfl|hb
      · kernel_rfl
      · rcases hk with rfl|rfl <;> rcases hb with rfl|rfl <;> rcases hb2 with rfl|rfl|rfl <;> kernel_rfl
  · kernel_rfl
theorem due_ev {nt dir nm:Str} {i:Int} {sg:Bool} {b:Option Int} {q:Option It} {data:Led} {vq:Value} (hpo:itOk (.port i dir sg b nm)) (hq:PartIn data vq q):DueOk nt dir nm i sg b q (dqOf q):=by
  obtain ⟨hdir,hb,_⟩:=hpo
  cases q with
  | none=>exact due_none
  | some it =>
    obtain ⟨_,hi,hnv⟩:=hq
    cases it with
    | net=>exact due_net hi hb
    | var=>exact due_var hi hdir hb
    | port=>cases hnv
    | par=>cases hnv
section
variable {prog:Program} {w:World} {A A₀:Around} {base h₀:Heap} {L fa cd:Addr} {p:Program} {loose:List Str} {mean:ExcName→Option Value} {mg mb:Str→Option Value} {m:Str→Option Value} {s:Shared} {E:Value→Shared→Prop} {news:Led}
theorem calls_span (C:Env0 w A A₀ (lawE L fa cd) [] base h₀ L 100 2000 p loose mean mg mb):CallsOk prog w A E h₀ L (lawE L fa cd) spanF:=by
  refine calls_def (cs:=fScope (stAt 181)) (fn:=Str.ofString "_law_span") (fa:=nat_lit 1359) C.X C.T (by kernel_rfl) (by kernel_rfl) (by kernel_rfl) (by k_is) (by k_is) (fun f da d h=>?_) fun da d h m s news Q v F N D hQ=>?_
  · unfold spanF at h
    split at h
    · rename_i e;exact eq_of_beq e
    · cases h
  · cases D with
    | int k t =>
      cases (show some (spanD k)=some d from h)
      exact span_use (C.less rfl rfl) F N fun r h' tk' tl F' N' hd ht=>hQ r h' tk' _ F' N' ⟨tl,ht,rfl⟩ (DatIn.mono (fun _ q=>List.mem_append_left _ q) hd)
    | _=>cases (show (none:Option Dat)=some d from h)
theorem law_t3 {nt dir nm:Str} {i:Int} {sg:Bool} {b:Option Int} {vp vq:Value} {t0 tn:Tok} {q:Option It} {Q:Flow→Shared→Prop}
    (C:Env0 w A A₀ (lawE L fa cd) [] base h₀ L 100 2000 p loose mean mg mb) (F:Fr h₀ L s.heap m) (N:News h₀ L s.heap news) (hp:DatIn news vp (itemD (.port i dir sg b nm))) (hpo:itOk (.port i dir sg b nm)) (hq:PartIn news vq q)
    (hm1:m (Str.ofString "port")=some vp) (hm2:m (Str.ofString "partner")=some vq) (hm3:m (Str.ofString "usual")=some (.str (usual nt) t0)) (hm4:m (Str.ofString "name")=some (.str nm tn))
    (hQ:∀ r tl h' tk',Tups tl→DatIn tl r (toldD nt dir nm i sg b q)→Fr h₀ L h' (fun z=>if z=Str.ofString "due" then some r else m z)→News h₀ L h' (tl++news)→Q .next { s with heap:=h',toks:=tk' }) :
    wpAny (model prog w) A (exec (loopS 3) (lawE L fa cd)) Q E s:=by
  have hu:=C.hu
  have R:Rho (fScope (stAt 181)) m news (dueR nt dir nm i sg b (dqOf q)):=rho_cons hp hm1 (by kernel_rfl) (rho_cons (part_dat hq) hm2 (by kernel_rfl) (rho_cons (.str _ _) hm3 (by kernel_rfl) (rho_cons (.str _ _) hm4 (by kernel_rfl) rho_nil)))
  refine st_ok (by kernel_rfl) (by omega) (calls_span C) (ex_ok (by kernel_rfl) (by omega) (calls_span C) 19) (due_ev hpo hq) F N R fun m' h' tk' n' F' N' X' R' K'=>?_
  obtain ⟨tl,ht,rfl⟩:=X'
  obtain ⟨_,r,hr,hd⟩:=R' (Str.ofString "due") (toldD nt dir nm i sg b q) (by kernel_rfl)
  have em:m'=fun z=>if z=Str.ofString "due" then some r else m z:=by
    funext z
    by_cases hz:z=Str.ofString "due"
    · rw [if_pos hz,hz,hr]
    · rw [if_neg hz]
      refine keep_of [(Str.ofString "due",toldD nt dir nm i sg b q)] K' z ?_
      rw [List.lookup_cons,beq_false_of_ne hz]
      rfl
  rw [em] at F'
  refine end_cps [] news (toldD nt dir nm i sg b q) N' (List.forall_mem_nil _) hd toldD_nol (fun _ h=>List.mem_append_right _ h) fun tl2 ht2 hd2 hN=>?_
  exact hQ r tl2 h' tk' ht2 hd2 F' hN
end
end
section
section
variable {prog:Program} {w:World} {A A₀:Around} {s:Shared} {base h₀:Heap} {env:Env} {L:Addr} {m:Str→Option Value} {news:Led} {K:Frag} {p:Program} {loose:List Str} {mean:ExcName→Option Value} {mg mb:Str→Option Value}
  {R:Result→Shared→Prop} {name qual:Str} {params:Arguments} {body:List Stmt} {scope:Scope} {dV kV doc pm cdv ct oc:Value} {an od:Option Addr} {osl:Array (Option Value)} {f:Addr} {args:Args} {binds:List (Str × Value)}
/-- into a def that catches,from the only frame below -/
theorem code_defG (B:Below A₀ base [] h₀) (F:Fr h₀ L s.heap m) (X₀:K.In h₀) (N:News h₀ L s.heap news) (T:Top p loose mean mg mb h₀) (hA:A.frames=some [env]) (hf:env.frame=some L) (hke:env.scope.kind=.function)
    (ho:K.lookup f=some ⟨oc,od,.func (fnOf name qual params body scope dV kV doc pm an cdv ct),osl⟩) (hcd:codeIn K cdv qual=true) (hroom:A.depth<recursionLimit)
    (hbind:BindsTo s (fnOf name qual params body scope dV kV doc pm an cdv ct) args binds) (hloc:∀ y∈binds,scope.names.lookup y.1=some .local)
    (h:∀ g L' h₁,Fr h₀ L g m→Fr g L' h₁ (fun y=>binds.reverse.lookup y)→News g L' h₁ news→Below A base [env] g→K.In g→Top p loose mean mg mb g →
      wpAny (model prog w) (A.deeper (envOf qual scope L' f cdv)) (execs body (envOf qual scope L' f cdv))
        (fun fl s'=>LeaveS0 [L] h₀ L m g R (match fl with|.ret v=>v|_=>.none) s')
        (fun e s'=>wpAny (model prog w) (A.deeper (envOf qual scope L' f cdv)) («leaving» (envOf qual scope L' f cdv) e) (fun _ s''=>R (.error e) s'') (fun e' s''=>R (.error e') s'') s')
        { s with heap:=h₁,toks:=s.toks+binds.length })
    (hco:scope.isCoroutine=false) (hgen:scope.isGenerator=false) (hk:scope.kind=.function)
    (hcell:∀ x∈scope.names,x.2≠.cell):codeAny (model prog w) A (.call (.ref f) args) R s:=by
  have X:=X₀.keeps F.keep
  obtain ⟨FG,BG,st,_⟩:=groundX (R:=R) B F N hA hf hke
  refine codeAny_call_def (fd:=fnOf name qual params body scope dV kV doc pm an cdv ct) (body:=body) (binds:=binds) hroom (X _ _ ho) rfl (T.nolimit.keeps F.keep) (codeRec_of X hcd) rfl hbind hcell hloc (fun h₁ hns hk₁=>?_) hco hgen hk
  refine wpAny_mono (h _ s.heap.objs.size h₁ FG ⟨hns,fun b o e=>hk₁ b o (of_hideAll _ e),Nat.le_of_eq (hideAll_size _ _)⟩
    (fun p hp=>⟨hk₁ _ _ (N p hp).1,Nat.ne_of_lt (Heap.lt_size (N p hp).1),hideAll_none _ (List.mem_map_of_mem hp)⟩) BG (X₀.keeps st) (T.keeps st)) (fun fl s' hl=>?_) fun _ _ y=>y
  obtain ⟨g',L',m',news',T',F',N',k⟩:=hl
  have nL:h₀.get? L=none:=kts_self F
  obtain ⟨oL,es,ep,hLg,hLd,hLk,hLf⟩:=FG.ns
  obtain ⟨sl,hs⟩:=T'.up hLg
  refine k ⟨⟨_,es,ep,F'.keep _ _ hs,hLd,hLk,hLf⟩,fun b o e=>F'.keep b o (T'.other b o (st b o e) (fun q=>by
    rw [List.mem_singleton.mp q,nL] at e;cases e)),F.above⟩ fun p hp=>⟨(N' p hp).1,fun q=>?_,?_⟩
  · have:=(N' p hp).2.2;rw [q,hs] at this;cases this
  · cases q:h₀.get? p.1 with
    | none=>rfl
    | some o =>
      obtain ⟨sl',hs'⟩:=T'.up (st _ _ q)
      have:=(N' p hp).2.2
      rw [hs'] at this
      cases this
end
theorem no_inr {α β:Type} {x:α ⊕ β} {d:α} {k:β} (h:x=.inl d):¬ (x=.inr k):=by rw [h];exact fun q=>nomatch q
theorem no_inl {α β:Type} {x:α ⊕ β} {d:α} {k:β} (h:x=.inr k):¬ (x=.inl d):=by rw [h];exact fun q=>nomatch q
theorem told_ok {prog:Program} {w:World} {A A₀:Around} {env:Env} {base h₀:Heap} {L:Addr} {p:Program} {loose:List Str} {mean:ExcName→Option Value} {mg mb:Str→Option Value} {m:Str→Option Value} {s:Shared} {Q E:Value→Shared→Prop}
    {sc dsc x dx:Addr} {es1 es2:List DictEntry} {n1 n2:Nat} {nt dir nm:Str} {i:Int} {sg:Bool} {b:Option Int} {vp vq:Value} {data:Led} {q:Option It}
    (C:Env0 w A A₀ env [] base h₀ L 60 1400 p loose mean mg mb) (Xb:(K0 w.params).In base) (Tb:Top p loose mean mg mb base) (F:Fr h₀ L s.heap m) (N:News h₀ L s.heap ((dx,dictOf es2 n2)::data)) (S:Sco data sc dsc x dx es1 n1 nt) (g2:desOk es2) (hnt:ntOk nt)
    (hp:DatIn data vp (itemD (.port i dir sg b nm))) (hpo:itOk (.port i dir sg b nm)) (hq:PartIn data vq q)
    (hQ:∀ r h' tk' es2' tl,Fr h₀ L h' m→News h₀ L h' ((dx,dictOf es2' n2)::(tl++data))→Tups tl→DatIn tl r (toldD nt dir nm i sg b q)→desOk es2'→Q r { s with heap:=h',toks:=tk' }) :
    wpAny (model prog w) A (call (.ref (nat_lit 1373)) [.ref sc,vp,vq]) Q E s:=by
  obtain ⟨B,X,T,hA,hf,hk,hh,hd',hu⟩:=C
  unfold toldD at hQ
  refine wpAny_call ?_
  (refine' code_defG (binds:=[(Str.ofString "scope",.ref sc),(Str.ofString "port",vp),(Str.ofString "partner",vq)]) B F X N T hA hf hk (by k_is) (by k_is) (by exact room0 hd') (by exact BindsTo.of_eq rfl) (by exact locs rfl) ?_ (by exact rfl) (by exact rfl) (by exact rfl) (by decide);k_whole;intro g' L' h' FG' F' N' B' X' T';clear F N B X T;(conv=>pattern (fBody _);whnf);(conv=>pattern (occs:=*) (fScope _);all_goals whnf);dsimp only [List.reverse,List.reverseAux,List.length] at F' ⊢;k_fold)
  have hn0:∀ q∈data,g'.get? q.1=none∧q.1≠L':=fun q hq=>⟨(N' q (.tail _ hq)).2.2,(N' q (.tail _ hq)).2.1⟩
  have hdx0:g'.get? dx=none∧dx≠L':=⟨(N' (dx,dictOf es2 n2) (.head _)).2.2,(N' (dx,dictOf es2 n2) (.head _)).2.1⟩
  cases hr:toldR nt dir sg b q with
  | inl d =>
    rw [hr] at hQ
    repeat' (first|(k_unfold;(try dsimp only))|(k_end;kc_close)|((with_reducible show wpAny _ _ (call (Value.ref (nat_lit 1247)) _) _ _ _);refine ps_ok (Env0.deeper (by assumption) (by assumption) (by assumption) (by assumption) (by exact rfl) (by exact rfl) (by assumption) (by first|exact room hd' rfl|omega) (by first|exact room hu rfl|omega)) (by k_asm) (by k_asm) (by assumption) (by assumption) (by assumption) (by assumption) (by assumption) (by assumption) ?_ (fun k9 hk9=>absurd hk9 (no_inr hr));intro d9 hd9 r9 h9 tk9 es9 tl9 F9 N9 ht9 hdat9 hdes9;(try k_sweep))|((with_reducible show wpAny _ _ (getAttr _ (PySem.Str.ofString "kind") _) _ _ _);refine get_kind (by k_in) (by (simp only [Around.deeper,Around.mark];omega)) (by (simp only [Around.deeper,Around.mark];omega)) (by assumption) (by assumption) (by assumption) (by assumption) (by assumption) ?_;intro tk9)|((with_reducible show wpAny _ _ (getAttr _ (PySem.Str.ofString "at") _) _ _ _);refine get_at (by k_in) (by (simp only [Around.deeper,Around.mark];omega)) (by (simp only [Around.deeper,Around.mark];omega)) (by assumption) (by assumption) (by assumption) (by assumption) (by assumption) ?_;intro tk9)|((with_reducible show wpAny _ _ (getAttr _ (PySem.Str.ofString "detail") _) _ _ _);refine get_detail (by k_in) (by (simp only [Around.deeper,Around.mark];omega)) (by (simp only [Around.deeper,Around.mark];omega)) (by assumption) (by assumption) (by assumption) (by assumption) (by assumption) ?_;intro tk9)|walk1|(dsimp only;walk1)|(leave1;(try dsimp only))|fail "no step")
    obtain rfl:d=d9:=Sum.inl.inj (hr.symm.trans hd9)
    exact leaveS0_ F9 N9 KtsTurn.refl fun kF kN=>hQ _ _ _ _ tl9 kF kN ht9 hdat9 hdes9
  | inr k =>
    rw [hr] at hQ
    repeat' (first|(k_unfold;(try dsimp only))|(k_end;kc_close)|((with_reducible show wpAny _ _ (call (Value.ref (nat_lit 1247)) _) _ _ _);refine ps_ok (Env0.deeper (by assumption) (by assumption) (by assumption) (by assumption) (by exact rfl) (by exact rfl) (by assumption) (by first|exact room hd' rfl|omega) (by first|exact room hu rfl|omega)) (by k_asm) (by k_asm) (by assumption) (by assumption) (by assumption) (by assumption) (by assumption) (by assumption) (fun k9 hk9=>absurd hk9 (no_inl hr)) ?_;intro k9 hk9 g9 h9 tk9 es9 e9 dx9 h19 h29 h39 u19 u29 u39 t19 t29 t39 n9 F9 U9 R9 hd9)|((with_reducible show wpAny _ _ (getAttr _ (PySem.Str.ofString "kind") _) _ _ _);refine get_kind (by k_in) (by (simp only [Around.deeper,Around.mark];omega)) (by (simp only [Around.deeper,Around.mark];omega)) (by assumption) (by assumption) (by assumption) (by assumption) (by assumption) ?_;intro tk9)|((with_reducible show wpAny _ _ (getAttr _ (PySem.Str.ofString "at") _) _ _ _);refine get_at (by k_in) (by (simp only [Around.deeper,Around.mark];omega)) (by (simp only [Around.deeper,Around.mark];omega)) (by assumption) (by assumption) (by assumption) (by assumption) (by assumption) ?_;intro tk9)|((with_reducible show wpAny _ _ (getAttr _ (PySem.Str.ofString "detail") _) _ _ _);refine get_detail (by k_in) (by (simp only [Around.deeper,Around.mark];omega)) (by (simp only [Around.deeper,Around.mark];omega)) (by assumption) (by assumption) (by assumption) (by assumption) (by assumption) ?_;intro tk9)|walk1|(dsimp only;walk1)|(leave1;(try dsimp only))|fail "no step")
    obtain rfl:k=k9:=Sum.inr.inj (hr.symm.trans hk9)
    refine caught_D B' F9 U9 R9 (fun q hq=>?_) (fun q hq=>?_) Xb Tb ?_
    · rcases List.mem_cons.mp hq with rfl|hq
      · exact hdx0.1
      · exact (hn0 q hq).1
    · rcases List.mem_cons.mp hq with rfl|hq
      · exact hdx0.2
      · exact (hn0 q hq).2
    intro g2' h2 tk2 Tu Bq Xq Tq Fq Nq Cg
    obtain ⟨⟨oe,vs,ho,hc,hdct,hv⟩,⟨sl,hdd⟩⟩:=Cg
    repeat' (first|(k_unfold;(try dsimp only))|(k_end;kc_close)|((with_reducible show wpAny _ _ (getAttr _ (PySem.Str.ofString "kind") _) _ _ _);refine get_kind (by k_in) (by (simp only [Around.deeper,Around.mark];omega)) (by (simp only [Around.deeper,Around.mark];omega)) (by assumption) (by assumption) (by assumption) (by assumption) (by assumption) ?_;intro tk9)|((with_reducible show wpAny _ _ (getAttr _ (PySem.Str.ofString "at") _) _ _ _);refine get_at (by k_in) (by (simp only [Around.deeper,Around.mark];omega)) (by (simp only [Around.deeper,Around.mark];omega)) (by assumption) (by assumption) (by assumption) (by assumption) (by assumption) ?_;intro tk9)|((with_reducible show wpAny _ _ (getAttr _ (PySem.Str.ofString "detail") _) _ _ _);refine get_detail (by k_in) (by (simp only [Around.deeper,Around.mark];omega)) (by (simp only [Around.deeper,Around.mark];omega)) (by assumption) (by assumption) (by assumption) (by assumption) (by assumption) ?_;intro tk9)|walk1|(dsimp only;walk1)|(leave1;(try dsimp only))|fail "no step")
    have hfs:[env].filterMap (·.frame)=[L]:=by simp [hf]
    rw [hfs] at Tu
    refine leaveS0_ (by k_asm) (by k_asm) Tu ?_
    intro kF kN
    obtain ⟨tl,ht9,hd9',hN⟩:=end_dat (M:=[(dx,dictOf _ n2)]) (d:=.tuple [.str k,.int i,.str nm]) (data:=data) kN (List.forall_mem_singleton.mpr (by k_mem)) (by ((repeat' (first|assumption|exact DatIn.int _ _|exact DatIn.str _ _|exact DatIn.bool _|exact DatIn.none|exact DatAll.nil|refine DatAll.cons ?_ ?_|(refine DatIn.mono ?_ (by assumption);((repeat' (first|with_reducible exact fun _ h=>h|with_reducible exact List.forall_mem_nil _|(with_reducible refine sub_cons ?_ ?_)|(with_reducible refine sub_app ?_ ?_)|(with_reducible refine sub_append ?_ ?_)|(intro q9 hq9;first|k_mem|(replace hq9:=hs _ hq9;k_mem))|k_mem));first|done|fail "left"))|refine DatIn.tuple (by k_mem) ?_));first|done|fail "left")) rfl (by ((repeat' (first|with_reducible exact fun _ h=>h|with_reducible exact List.forall_mem_nil _|(with_reducible refine sub_cons ?_ ?_)|(with_reducible refine sub_app ?_ ?_)|(with_reducible refine sub_append ?_ ?_)|(intro q9 hq9;first|k_mem|(replace hq9:=hs _ hq9;k_mem))|k_mem));first|done|fail "left"))
    exact hQ _ _ _ _ tl kF hN ht9 hd9' hd9
end
section
noncomputable def nameOf:It→Str
  | .port _ _ _ _ nm=>nm
  | .net _ _ _ nm _=>nm
  | .var _ _ _ nm _=>nm
  | .par _ _ nm=>nm
theorem decl_ok {prog:Program} {w:World} {v:Value} {it:It} {data news:Led} (hv:DatIn data v (itemD it)) (hs:∀ p∈data,p∈news) (hnv:isNV it=true) :
    Spec prog w (nat_lit 1221) [v] 2 80 news (fun r news'=>∃ t,r=.str (nameOf it) t∧news'=news):=by
  intro A A₀ env outer base h₀ L p loose mean mg mb m s Q E C F N hQ
  refine plain_call (binds:=[(Str.ofString "item",v)]) [(Str.ofString "item",itemD it)] [(Str.ofString "item",itemD it)] (.str (nameOf it)) C F N rfl (by k_is) (by k_is) (by exact BindsTo.of_eq rfl) (by exact locs rfl) (by exact rfl) (by exact rfl) (by exact rfl) (by decide) (rho_cons (DatIn.mono hs hv) (by exact rfl) (by kernel_rfl) rho_nil) (by cases it <;> first|kernel_rfl|exact nomatch hnv) ?_
  intro r h' tk' tl F' N' ht D
  cases D
  exact hQ _ _ _ _ F' (news_sub N' fun _ h=>List.mem_append_right _ h) ⟨_,rfl,rfl⟩
end
section
noncomputable def tagOf:It→Str
  | .port ..=>Str.ofString "port"
  | .net ..=>Str.ofString "net"
  | .var ..=>Str.ofString "var"
  | .par ..=>Str.ofString "param"
noncomputable def isPort:It→Bool
  | .port ..=>true
  | _=>false
theorem item_obj {data:Led} {v:Value} {it:It} (hv:DatIn data v (itemD it)):∃ a arr n t0,v=.ref a∧(a,tupO arr n)∈data∧arr[0]?=some (.str (tagOf it) t0)∧6≤arr.size∧arr.size≤10∧(isPort it=true→∃ t5,arr[5]?=some (.str (nameOf it) t5)):=by
  cases it with
  | port i dir sg b nm =>
    obtain ⟨a,n,t0,t1,t2,t3,vb,rfl,hm,_⟩:=port_at hv
    exact ⟨a,_,n,t0,rfl,hm,rfl,by show 6≤6;omega,by show 6≤10;omega,fun _=>⟨_,rfl⟩⟩
  | net kd sg b nm arr =>
    obtain ⟨a,n,t0,t1,t2,t3,vb,va,rfl,hm,_⟩:=net_at hv
    exact ⟨a,_,n,t0,rfl,hm,rfl,by show 6≤10;omega,by show 10≤10;omega,fun h=>by cases h⟩
  | var kd sg b nm arr =>
    obtain ⟨a,n,t0,t1,t2,t3,vb,va,rfl,hm,_⟩:=var_at hv
    exact ⟨a,_,n,t0,rfl,hm,rfl,by show 6≤8;omega,by show 8≤10;omega,fun h=>by cases h⟩
  | par sg b nm =>
    cases hv with
    | @tuple a vs n _ hm r =>
    have hl:vs.length=7:=r.length
    cases r with|cons r0 r =>
    cases r0
    exact ⟨a,_,n,_,rfl,hm,rfl,by rw [List.size_toArray,hl];omega,by rw [List.size_toArray,hl];omega,fun h=>by cases h⟩
/-- the str at a place of the tuple at v -/
noncomputable def strAt (h:Heap) (v:Value) (k:Nat):Option Str :=
  match v with
  | .ref a=>match h.get? a with
    | some ⟨_,_,.seq arr _,_⟩=>match arr[k]? with
      | some (.str x _)=>some x
      | _=>none
    | _=>none
  | _=>none
noncomputable def portV (h:Heap) (v:Value):Bool:=decide (strAt h v 0=some (Str.ofString "port"))
theorem strAt_of {h:Heap} {a:Addr} {arr:Array Value} {n k:Nat} {x:Str} {t:Tok} (ho:h.get? a=some (tupO arr n)) (hx:arr[k]?=some (.str x t)):strAt h (.ref a) k=some x:=by
  simp only [strAt,ho,hx]
section
variable {prog:Program} {w:World} {A:Around} {E:Value→Shared→Prop} {s:Shared} {env:Env} {scope:Scope} {C a:Addr} {m:Str→Option Value} {arr:Array Value} {Q:Value→Shared→Prop}
theorem comp_item {j:Nat} {k:Int} {y:Value} {p1 p2 p3:Pos} (hk':(compEnvC scope [] C env).scope.kind=.function) (hl:(compEnvC scope [] C env).kindOf (Str.ofString "item")=some .local)
    (hn:s.heap.Ns C m) (hm:m (Str.ofString "item")=some (.ref a)) (ht:IsTup s.heap a arr) (hk:k=j) (hj:j<arr.size) (hsz:arr.size≤10) (hy:arr[j]?=some y) (h:∀ tk,Q y { s with toks:=tk }) :
    wpAny (model prog w) A (eval (.Subscript (.Name (Str.ofString "item") p1) (.Constant (.int k) 0 p2) p3) (compEnvC scope [] C env)) Q E s:=by
  subst hk
  refine Subscript_ (ldVarK (m:=m) hn hm ?_ hk' hl (by decide))
  refine wpAny_Constant_int ?_
  refine item_tuple (s:={ s with toks:=s.toks+1 }) ht (by omega) (by omega) (j:=j) ?_ hy (h _)
  unfold seqIndex?
  simp
  omega
end
noncomputable abbrev cScope:Scope:={ kind:=.function,names:=[(Str.ofString ".0",.local),(Str.ofString "item",.local)],isGenerator:=false,isCoroutine:=false }
noncomputable abbrev portTest (p4 p5 p6 p7 p8:Pos):PySem.Expr:=.Compare (.Subscript (.Name (Str.ofString "item") p4) (.Constant (.int 0) 0 p5) p6) [.Eq] [.Constant (.str (Str.ofString "port")) 0 p7] p8
section
variable {prog:Program} {w:World} {A:Around} {E:Value→Shared→Prop} {s:Shared} {h₀:Heap} {L S:Addr} {m:Str→Option Value} {news data:Led} {vs:List Value} {its:List It} {nS:Nat} {Q:Value→Shared→Prop} {qual:Str} {sc:Scope} {f:Addr} {cd:Value} {p1 p2 p3 p4 p5 p6 p7 p8 p9 pa pb pc:Pos}
theorem portc (hh:A.handled=none) (hclos:closureFor cScope (envOf qual sc L f cd)=pure []) (hk:sc.kind=.function) (hl:(envOf qual sc L f cd).kindOf (Str.ofString "items")=some .local)
    (F:Fr h₀ L s.heap m) (N:News h₀ L s.heap news) (hS:(S,listOf vs.toArray nS)∈news) (hm:m (Str.ofString "items")=some (.ref S)) (hD:DatAll data vs (its.map itemD)) (hs:∀ p∈data,p∈news) (hz:vs.length≤100)
    (hQ:∀ D h' tk kvs,Fr h₀ L h' m→News h₀ L h' news→s.heap.get? D=none→h'.DictOf (PySem.strKind prog w) D kvs→StoredAll (fun v k=>strAt s.heap v 5=some k) (fun v y=>y=v) (vs.filter (portV s.heap)) kvs→Q (.ref D) { s with heap:=h',toks:=tk }) :
    wpAny (model prog w) A (eval (.DictComp (.Subscript (.Name (Str.ofString "item") p1) (.Constant (.int 5) 0 p2) p3) (.Name (Str.ofString "item") p9) [⟨.Name (Str.ofString "item") pa,.Name (Str.ofString "items") pb,[portTest p4 p5 p6 p7 p8],0⟩] cScope pc) (envOf qual sc L f cd)) Q E s:=by
  have hlen:its.length=vs.length:=by have:=hD.length;simpa using this.symm
  have hit:∀ i v,vs[i]?=some v→∃ it,DatIn data v (itemD it):=fun i v hv=>by
    have hi:i<(its.map itemD).length:=by
      have:=(List.getElem?_eq_some_iff.mp hv).1
      rw [List.length_map];omega
    obtain ⟨v',hv',hd⟩:=hD.get hi
    rw [hv] at hv'
    cases hv'
    rw [List.getElem_map] at hd
    exact ⟨_,hd⟩
  have hlS:s.heap.IsList S vs.toArray:=News.isList N hS
  have hlt:S<s.heap.objs.size:=Heap.lt_size (N _ hS).1
  refine wpAny_DictComp_free (PySem.strKind prog w) (portV s.heap) (fun v k=>strAt s.heap v 5=some k) (fun v y=>y=v) hclos (by decide) rfl (by decide) rfl ?_ (by intro _;rfl)
  refine ld F hm ?_ hk hl
  have up:∀ (s₃:Shared),(∀ b o,b ∉ [s.heap.objs.size]→(s.heap.push { cls:=.type "list_iterator",data:=.fields #[.ref S,.int 0 0] }).get? b=some o→s₃.heap.get? b=some o)→∀ b o,s.heap.get? b=some o→s₃.heap.get? b=some o :=
    fun s₃ hk b o e=>hk b o (fun hm=>Nat.lt_irrefl _ ((List.mem_singleton.mp hm) ▸ Heap.lt_size e)) (Heap.get?_push_of_some _ e)
  refine wpAny_pyIter_list hlS ⟨s.heap.objs.size,[s.heap.objs.size,S],[s.heap.objs.size],vs.toArray.size,_,_,rfl,Walks.list hh _ _ (Nat.ne_of_lt hlt) vs.toArray,(by rw [List.size_toArray,sizeLine_eq];omega),⟨⟨_,Heap.get?_push_size _ rfl,rfl,rfl⟩,hlS.push _⟩,?_,⟨?_,?_,?_⟩,?_⟩
  · intro b hb
    show b<(s.heap.push _).objs.size
    rw [Heap.size_push]
    rcases List.mem_cons.mp hb with rfl|hb
    · exact Nat.lt_succ_self _
    · rw [List.mem_singleton.mp hb];exact Nat.lt_succ_of_lt hlt
  · intro C i v s₃ m₃ E' hP hn hm₃ hk₃
    obtain ⟨it,hd⟩:=hit i v (by simpa using hP)
    obtain ⟨a,arr,n,t0,rfl,hmem,h0,hz6,hz10,_⟩:=item_obj hd
    have ho:=(N _ (hs _ hmem)).1
    have ht:IsTup s₃.heap a arr:=⟨_,up s₃ hk₃ _ _ ho,rfl,_,rfl⟩
    have ep:portV s.heap (.ref a)=(tagOf it == Str.ofString "port"):=by
      unfold portV
      rw [strAt_of ho h0]
      by_cases h:tagOf it=Str.ofString "port"
      · simp [h]
      · simp [h]
    rw [ep]
    simp only [List.forIn_cons,List.forIn_nil,if_true]
    refine wpAny_bind (wpAny_bind (wpAny_isTrue_Compare1 (comp_item (j:=0) rfl rfl hn hm₃ ht rfl (by omega) hz10 h0 fun tk=>?_)))
    refine Calls.Constant_str (eq_str ?_)
    show wpAny _ _ (pure (tagOf it == Str.ofString "port")) _ _ _
    exact wpAny_pure (wpAny_pure (wpAny_pure ⟨rfl,⟨_,_,rfl,fun _ _ e=>e⟩⟩))
  · intro C i v s₃ m₃ E' hP hp hn hm₃ hk₃
    obtain ⟨it,hd⟩:=hit i v (by simpa using hP)
    obtain ⟨a,arr,n,t0,rfl,hmem,h0,hz6,hz10,h5⟩:=item_obj hd
    have ho:=(N _ (hs _ hmem)).1
    have ht:IsTup s₃.heap a arr:=⟨_,up s₃ hk₃ _ _ ho,rfl,_,rfl⟩
    have hpo:isPort it=true:=by
      unfold portV at hp
      rw [strAt_of ho h0] at hp
      cases it with
      | port=>rfl
      | net=>exact absurd (show decide (some (Str.ofString "net")=some (Str.ofString "port"))=true from hp) (by decide)
      | var=>exact absurd (show decide (some (Str.ofString "var")=some (Str.ofString "port"))=true from hp) (by decide)
      | par=>exact absurd (show decide (some (Str.ofString "param")=some (Str.ofString "port"))=true from hp) (by decide)
    obtain ⟨t5,h5⟩:=h5 hpo
    refine comp_item (j:=5) rfl rfl hn hm₃ ht rfl (by omega) hz10 h5 fun tk=>?_
    exact ⟨⟨_,by show (nameOf it == nameOf it)=true;simp,strAt_of ho h5⟩,⟨_,_,rfl,fun _ _ e=>e⟩⟩
  · intro C i v s₃ m₃ E' hP hp hn hm₃ hk₃
    exact ldVarK (m:=m₃) hn hm₃ ⟨rfl,⟨_,_,rfl,fun _ _ e=>e⟩⟩ rfl rfl (by decide)
  · intro D h' tk kvs vs' hnew hlD hlen' hP hF hk'
    have e:vs'=vs:=by simpa using list_of_places hlen' hP
    subst e
    have keep:∀ b o,s.heap.get? b=some o→h'.get? b=some o:=up { s with heap:=h' } hk'
    refine hQ D h' tk kvs (F.keeps keep) (N.grown keep) ?_ hlD hF
    cases e:s.heap.get? D with
    | none=>rfl
    | some o'=>rw [Heap.get?_push_of_some _ e] at hnew;cases hnew
end
end
section
section
variable {prog:Program} {w:World} {A:Around} {E:Value→Shared→Prop} {s:Shared} {env:Env} {h₀:Heap} {x:Str} {body:List Stmt} {Q:Flow→Shared→Prop}
/-- a loop over a range by an invariant over frame and ledger -/
theorem rng_iter {r:Addr} {b₀:Int} {t₀ u₀ v₀:Tok} {n:Nat} {m₀:Str→Option Value} {news:Led} (J:Nat→(Str→Option Value)→Led→Prop)
    (hh:A.handled=none) (hr:IsRange s.heap r 0 b₀ 1 t₀ u₀ v₀) (hsmall:Builtin.Range.small 0 b₀ 1=true) (hsz:Builtin.Range.rangeSize 0 b₀ 1=(n:Int)) (F:Fr h₀ env.locals s.heap m₀) (N:News h₀ env.locals s.heap news) (hj:J 0 m₀ news)
    (turn:∀ i t m₁ nx h tk own,i<n→OwnOff own (nx.map (·.1))→J i m₁ nx→Fr h₀ env.locals h (fun y=>if y=x then some (.int (i:Int) t) else m₁ y)→News h₀ env.locals h (nx++own) →
      wpAny (model prog w) A (execs body env) (InvPostG h₀ env.locals (J (i+1)) own { s with heap:=h,toks:=tk } Q) E { s with heap:=h,toks:=tk })
    (done:∀ m₁ nx h tk,J n m₁ nx→Fr h₀ env.locals h m₁→News h₀ env.locals h nx→Q .next { s with heap:=h,toks:=tk }) :
    wpAny (model prog w) A (pyIter (.ref r)) (fun it s₂=>LoopAtV prog w A h₀ env x body Q E it s₂) E s:=by
  refine wpAny_pyIter_range hr hsmall ?_
  have W:Walks prog w A s.heap.objs.size [s.heap.objs.size] [s.heap.objs.size] n (fun i v=>i<n∧∃ t,v=.int ((0:Int)+i * 1) t)
      (fun i h=>IsRangeIter h s.heap.objs.size ((0:Int)+(i:Nat) * 1) ((n:Int) - (i:Nat)) 1):=(Walks.range hh _ 0 1 n).bound
  refine kdr_loop (news:=news) J W (fun _ h=>h) (fun _ h=>h) ?_ ?_ ?_ ?_ (by show IsRangeIter _ _ _ _ _;rw [hsz];simpa using Heap.get?_push_size _ rfl) (F.push _) (fun p hp=>⟨Heap.get?_push_of_some _ (N p hp).1,(N p hp).2⟩) hj ?_ ?_
  · intro i h hi b hb
    rw [List.mem_singleton.mp hb]
    exact ⟨_,hi⟩
  · intro hm
    exact absurd F.ns.lt ((List.mem_singleton.mp hm) ▸ Nat.lt_irrefl _)
  · intro b hb
    rw [List.mem_singleton.mp hb]
    exact next_is_new F
  · intro p hp hI
    exact absurd (Heap.lt_size (N p hp).1) ((List.mem_singleton.mp hI) ▸ Nat.lt_irrefl _)
  · rintro i v m₁ nx h tk own hi ⟨_,t,rfl⟩ hoff hJ F₁ N₁
    have e1:(0:Int)+(i:Int) * 1=(i:Int):=by omega
    rw [e1] at F₁
    exact turn i t m₁ nx h tk own hi hoff hJ F₁ N₁
  · exact fun m₁ nx h tk hJ F₁ N₁=>done m₁ nx h tk hJ F₁ N₁
/-- a loop over a dict's keys -/
theorem key_iter {d:Addr} {od:Obj} {kvs:List (Str × Value)} {m₀:Str→Option Value} {news:Led} (J:Nat→(Str→Option Value)→Led→Prop)
    (hh:A.handled=none) (hl:(d,od)∈news) (hd:od.IsDictOf (PySem.strKind prog w) kvs) (lo:(d == sysModules)=false) (F:Fr h₀ env.locals s.heap m₀) (N:News h₀ env.locals s.heap news) (hj:J 0 m₀ news)
    (turn:∀ i k v t m₁ nx h tk own,kvs[i]?=some (k,v)→OwnOff own (nx.map (·.1))→(d,od)∈nx→J i m₁ nx→Fr h₀ env.locals h (fun y=>if y=x then some (.str k t) else m₁ y)→News h₀ env.locals h (nx++own) →
      wpAny (model prog w) A (execs body env) (InvPostG h₀ env.locals (fun m' nx=>(d,od)∈nx∧J (i+1) m' nx) own { s with heap:=h,toks:=tk } Q) E { s with heap:=h,toks:=tk })
    (done:∀ m₁ nx h tk,J kvs.length m₁ nx→Fr h₀ env.locals h m₁→News h₀ env.locals h nx→Q .next { s with heap:=h,toks:=tk }) :
    wpAny (model prog w) A (pyIter (.ref d)) (fun it s₂=>LoopAtV prog w A h₀ env x body Q E it s₂) E s:=by
  have hol:s.heap.get? d=some od:=(N _ hl).1
  obtain ⟨ep,ha⟩:=KdkAt.of hd
  have hat:=ha.dictAt hol
  have hne:d≠s.heap.objs.size:=Nat.ne_of_lt (Heap.lt_size hol)
  refine wpAny_pyIter_dict lo hat ?_
  have W:=Walks.dictKeys (prog:=prog) (w:=w) (knd:=PySem.strKind prog w) hh s.heap.objs.size d hne kvs ep
  refine ⟨_,_,_,kvs.length,_,_,m₀,news,(fun i m nx=>(d,od)∈nx∧J i m nx),rfl,W,?_,?_,?_,⟨⟨_,Heap.get?_push_size _ rfl,rfl,rfl⟩,hat.push _⟩,F.push _,(fun p hp=>⟨Heap.get?_push_of_some _ (N p hp).1,(N p hp).2⟩),⟨hl,hj⟩,?_,?_⟩
  · intro hm
    rcases List.mem_cons.mp hm with e|hm
    · exact absurd F.ns.lt (e ▸ Nat.lt_irrefl _)
    · exact (N _ hl).2.1 ((List.mem_singleton.mp hm).symm)
  · intro b hb
    rw [List.mem_singleton.mp hb]
    exact next_is_new F
  · intro p hp hI
    exact absurd (Heap.lt_size (N p hp).1) ((List.mem_singleton.mp hI) ▸ Nat.lt_irrefl _)
  · rintro i v m₁ news₁ s₁ own ⟨hh',tk',rfl⟩ hin hP ⟨hl₁,hJ⟩ hoff hown hget hfp hst F₁ N₁
    obtain ⟨k,y,hk,hkv⟩:=hP
    obtain ⟨t,rfl⟩:=Value.isStrOf_shape hkv
    have hI0:h₀.get? s.heap.objs.size=none:=next_is_new F
    obtain ⟨⟨oI,hoI,_⟩,_⟩:=id hst
    have hIown:(s.heap.objs.size,oI)∈own.filter fun p=>decide (p.1=s.heap.objs.size):=List.mem_filter.mpr ⟨hfp _ (List.mem_cons.mpr (.inl rfl)) hI0 _ hoI,by simp⟩
    have hsep:OwnOff (own.filter fun p=>decide (p.1=s.heap.objs.size)) (news₁.map (·.1)):=by
      intro p hp b hb e
      obtain ⟨q,hq,rfl⟩:=List.mem_map.mp hb
      have h1:p.1=s.heap.objs.size:=by simpa using (List.mem_filter.mp hp).2
      exact hoff q hq (List.mem_singleton.mpr (e ▸ h1))
    have N₂:News h₀ env.locals hh' (news₁++own.filter fun p=>decide (p.1=s.heap.objs.size)):=fun p hp=>N₁ p ((List.mem_append.mp hp).elim (fun h=>List.mem_append.mpr (.inr h)) fun h=>List.mem_append.mpr (.inl ((List.mem_filter.mp h).1)))
    have hlo:hh'.get? d=some od:=(N₁ _ (List.mem_append.mpr (.inr hl₁))).1
    refine wpAny_mono (turn i k y t m₁ news₁ hh' tk' _ hk hsep hl₁ hJ F₁ N₂) (fun f s₂ p=>?_) fun _ _ e=>e
    have fin:InvEndG h₀ env.locals (fun m' nx=>(d,od)∈nx∧J (i+1) m' nx) (own.filter fun p=>decide (p.1=s.heap.objs.size)) { s with heap:=hh',toks:=tk' } s₂ →
        LoopStepU h₀ env.locals [s.heap.objs.size] own (fun m nx=>(d,od)∈nx∧J (i+1) m nx) { s with heap:=hh',toks:=tk' } .next s₂:=by
      rintro ⟨h',tk,m',news',nx,e,F',N',hn,ho,ha,hm⟩
      refine ⟨rfl,h',tk,m',nx,e,F',fun p hp=>?_,fun p hp hq=>?_,hm⟩
      · rcases List.mem_append.mp hp with h|h
        · by_cases hI:p.1=s.heap.objs.size
          · exact N' p (ho p (List.mem_filter.mpr ⟨h,by simpa using hI⟩))
          · have h1:p.1=d:=by
              rcases List.mem_cons.mp (hown p h) with h2|h2
              · exact absurd h2 hI
              · exact List.mem_singleton.mp h2
            have h2:hh'.get? p.1=some p.2:=hget p h
            rw [h1,hlo] at h2
            have h3:p=(d,od):=Prod.ext h1 (Option.some.inj h2).symm
            rw [h3]
            exact N' _ (hn _ hm.1)
        · exact N' p (hn p h)
      · exact ha _ hIown p.1 (List.mem_map.mpr ⟨p,hp,rfl⟩) (List.mem_singleton.mp hq).symm
    cases f with
    | ret v=>exact .ret p
    | brk=>exact .brk p
    | next=>exact .next (fin p)
    | cont=>exact .cont (fin p)
  · rintro h' tk m' news' F' N' _ ⟨_,hJ⟩
    exact done m' news' h' tk hJ F' N'
end
/-- the ports by name: the pairs that the dict holds -/
noncomputable def stP (acc:List (Str × Value)) (p:Value × It):List (Str × Value):=if isPort p.2=true then stored acc (nameOf p.2) p.1 else acc
noncomputable def pkv (ps:List (Value × It)):List (Str × Value):=ps.foldl stP []
noncomputable abbrev ItsIn (data:Led) (ps:List (Value × It)):Prop:=∀ p∈ps,DatIn data p.1 (itemD p.2)∧itOk p.2
theorem its_all {data:Led}:∀ {ps:List (Value × It)},ItsIn data ps→DatAll data (ps.map (·.1)) ((ps.map (·.2)).map itemD)
  | [],_=>.nil
  | p::r,h=>.cons (h p (.head _)).1 (its_all fun q hq=>h q (.tail _ hq))
theorem stored_inv {FK:Value→Str→Prop} {FV:Value→Value→Prop} {l:List Value} {kvs:List (Str × Value)} (h:StoredAll FK FV l kvs):(l=[]∧kvs=[])∨∃ l' v k y kvs',l=l'++[v]∧kvs=stored kvs' k y∧StoredAll FK FV l' kvs'∧FK v k∧FV v y:=by
  cases h with
  | nil=>exact .inl ⟨rfl,rfl⟩
  | snoc h hk hy=>exact .inr ⟨_,_,_,_,_,rfl,rfl,h,hk,hy⟩
theorem pkv_snoc (ps:List (Value × It)) (p:Value × It):pkv (ps++[p])=stP (pkv ps) p:=by simp [pkv]
theorem pkv_of {h₀ h:Heap} {L:Addr} {data news:Led} (N:News h₀ L h news) (hs:∀ p∈data,p∈news):∀ (n:Nat) (ps:List (Value × It)) (kvs:List (Str × Value)),ps.length=n→ItsIn data ps →
    StoredAll (fun v k=>strAt h v 5=some k) (fun v y=>y=v) ((ps.map (·.1)).filter (portV h)) kvs→kvs=pkv ps
  | n,ps,kvs,hn,hI,hS=>by
    rcases nil_snoc ps with rfl|⟨r,p,rfl⟩
    · rcases stored_inv hS with ⟨_,e⟩|⟨l',v,k,y,kvs',e,_⟩
      · exact e
      · simp at e
    · have hlt:r.length<n:=by simp at hn;omega
      have hr:ItsIn data r:=fun q hq=>hI q (List.mem_append_left _ hq)
      obtain ⟨hp,_⟩:=hI p (List.mem_append_right _ (.head _))
      obtain ⟨a,arr,na,t0,ea,hm,h0,_,_,h5⟩:=item_obj hp
      have ho:=(N _ (hs _ hm)).1
      have ep:portV h p.1=isPort p.2:=by
        rw [ea]
        unfold portV
        rw [strAt_of ho h0]
        cases p.2 <;> first|rfl|decide
      rw [List.map_append,List.filter_append] at hS
      rw [pkv_snoc]
      unfold stP
      cases hpo:isPort p.2 with
      | false =>
        rw [if_neg (by decide)]
        have:List.filter (portV h) (List.map (·.1) [p])=[]:=by simp [ep,hpo]
        rw [this,List.append_nil] at hS
        exact pkv_of N hs r.length r kvs rfl hr hS
      | true =>
        rw [if_pos rfl]
        have:List.filter (portV h) (List.map (·.1) [p])=[p.1]:=by simp [ep,hpo]
        rw [this] at hS
        rcases stored_inv hS with ⟨e,_⟩|⟨l',v,k,y,kvs',e,rfl,hS',hk,rfl⟩
        · simp at e
        · obtain ⟨rfl,e2⟩:=List.append_inj' e rfl
          obtain rfl:p.1=y:=by simpa using e2
          obtain ⟨t5,h5⟩:=h5 hpo
          rw [ea,strAt_of ho h5] at hk
          rw [pkv_of N hs r.length r kvs' rfl hr hS',Option.some.inj hk]
termination_by n=>n
end
section
theorem not_mod {w:World} {h₀:Heap} {D:Addr} (X:(K0 w.params).In h₀) (h:h₀.get? D=none):(D == sysModules)=false:=by
  by_cases e:D=sysModules
  · have:=X 1 _ rfl
    rw [e] at h
    exact absurd (h.symm.trans this) (by simp)
  · simpa using e
theorem pi_ok {prog:Program} {w:World} {A A₀:Around} {env:Env} {outer:List Env} {base h₀:Heap} {L:Addr} {p:Program} {loose:List Str} {mean:ExcName→Option Value} {mg mb:Str→Option Value} {m:Str→Option Value} {s:Shared} {Q E:Value→Shared→Prop}
    {S nS:Nat} {ps:List (Value × It)} {data news:Led} (C:Env0 w A A₀ env outer base h₀ L 4 200 p loose mean mg mb) (F:Fr h₀ L s.heap m) (N:News h₀ L s.heap news)
    (hS:(S,listOf (ps.map (·.1)).toArray nS)∈news) (hI:ItsIn data ps) (hs:∀ p∈data,p∈news) (hz:ps.length≤100)
    (hQ:∀ D o h' tk,Fr h₀ L h' m→News h₀ L h' ((D,o)::news)→(∀ p∈news,p.1≠D)→o.IsDictOf (PySem.strKind prog w) (pkv ps)→Q (.ref D) { s with heap:=h',toks:=tk }) :
    wpAny (model prog w) A (call (.ref (nat_lit 1226)) [.ref S]) Q E s:=by
  obtain ⟨B,X,T,hA,hf,hk,hh,hd',hu⟩:=C
  refine wpAny_call ?_
  (refine' code_def (binds:=[(Str.ofString "items",.ref S)]) B F X N T hA hf hk (by k_is) (by k_is) (by exact room0 hd') (by exact BindsTo.of_eq rfl) (by exact locs rfl) ?_ (by exact rfl) (by exact rfl) (by exact rfl) (by decide);k_whole;intro g' L' h' FG' F' N' B' X' T';clear F N B X T;(conv=>pattern (fBody _);whnf);(conv=>pattern (occs:=*) (fScope _);all_goals whnf);dsimp only [List.reverse,List.reverseAux,List.length] at F' ⊢;k_fold)
  have hD:=its_all hI
  have hz':(ps.map (·.1)).length≤100:=by simpa using hz
  repeat' (first|(k_unfold;(try dsimp only))|(k_end;kc_close)|((with_reducible show wpAny _ _ (eval (PySem.Expr.DictComp _ _ _ _ _) _) _ _ _);refine' portc ?hh ?hc ?hk ?hl ?F ?N ?hS ?hm ?hD ?hs ?hz ?_;(case hh=>assumption);(case hc=>rfl);(case hk=>rfl);(case hl=>rfl);(case F=>k_asm);(case N=>k_asm);(case hS=>k_mem);(case hm=>rfl);(case hD=>assumption);(case hs=>assumption);(case hz=>assumption);intro D9 h9 tk9 kvs9 F9 N9 hn9 hd9 hs9)|walk1|(dsimp only;walk1)|(leave1;(try dsimp only))|fail "no step")
  obtain ⟨o9,ho9,hd9⟩:=Heap.dictOf_iff.mp hd9
  obtain rfl:=pkv_of N' hs ps.length ps kvs9 rfl hI hs9
  have hg9:g'.get? D9=none:=by
    cases e:g'.get? D9 with
    | none=>rfl
    | some o=>exact absurd (F'.keep _ _ e) (by rw [hn9];exact fun q=>nomatch q)
  have hL9:D9≠L':=by
    rintro rfl
    obtain ⟨o,_,_,ho,_⟩:=F'.ns
    exact absurd ho (by rw [hn9];exact fun q=>nomatch q)
  have N9:News g' L' h9 ((D9,o9)::news):=fun q hq=>by
    rcases List.mem_cons.mp hq with rfl|hq
    · exact ⟨ho9,hL9,hg9⟩
    · exact N9 q hq
  (show LeaveK _ _ _ _ _ _ _;refine leaveK_ (by k_asm) (by k_asm) ?_;intro kF kN)
  refine hQ D9 o9 _ _ kF kN (fun q hq e=>?_) hd9
  have:=(N' q hq).1
  rw [e,hn9] at this
  exact nomatch this
end
section
/-- a dict of names to places: its pairs,but for the ints' tokens -/
inductive QR:List (Str × Value)→List (Str × Nat)→Prop
  | nil:QR [] []
  | cons {k:Str} {i:Nat} {t:Tok} {r:List (Str × Value)} {q:List (Str × Nat)}:QR r q→QR ((k,.int (i:Int) t)::r) ((k,i)::q)
theorem QR.snoc {k:Str} {i:Nat} {t:Tok} {r:List (Str × Value)} {q:List (Str × Nat)} (h:QR r q):QR (r++[(k,.int (i:Int) t)]) (q++[(k,i)]):=by
  induction h with
  | nil=>exact .cons .nil
  | cons _ ih=>exact .cons ih
theorem QR.keys {r:List (Str × Value)} {q:List (Str × Nat)} (h:QR r q):r.map (·.1)=q.map (·.1):=by
  induction h with
  | nil=>rfl
  | cons _ ih=>simp [ih]
theorem QR.length {r:List (Str × Value)} {q:List (Str × Nat)} (h:QR r q):r.length=q.length:=by
  have:=congrArg List.length h.keys
  simpa using this
theorem keyOf_iff {kvs:List (Str × Value)} {k:Str}:(valueAt kvs k).isSome=decide (k∈kvs.map (·.1)):=by
  induction kvs with
  | nil=>simp [valueAt]
  | cons p r ih =>
    unfold valueAt at ih ⊢
    by_cases h:p.1=k
    · simp [h]
    · have h':¬ k=p.1:=fun e=>h e.symm
      rw [List.find?_cons_of_neg (by simpa using h)]
      rw [ih]
      simp [h']
theorem stored_new {kvs:List (Str × Value)} {k:Str} {v:Value} (h:k ∉ kvs.map (·.1)):stored kvs k v=kvs++[(k,v)]:=by
  unfold stored
  rw [if_neg]
  intro q
  apply h
  obtain ⟨p,hp,e⟩:=List.any_eq_true.mp q
  exact List.mem_map.mpr ⟨p,hp,by simpa using e⟩
section
variable {prog:Program} {w:World} {A:Around} {E:Value→Shared→Prop} {s:Shared} {h₀:Heap} {L d:Addr} {m:Str→Option Value} {news:Led} {o:Obj} {kvs:List (Str × Value)} {k:Str} {t:Tok} {Q:Value→Shared→Prop}
theorem in_D (N:News h₀ L s.heap news) (hp:(d,o)∈news) (hd:o.IsDictOf (PySem.strKind prog w) kvs) (X:(K0 w.params).In h₀)
    (h1:k∈kvs.map (·.1)→Q (.bool true) { s with toks:=s.toks+1 }) (h2:k ∉ kvs.map (·.1)→Q (.bool false) { s with toks:=s.toks+1 }) :
    wpAny (model prog w) A (compareOp .In (.str k t) (.ref d)) Q E s:=by
  refine kda_in N hp hd (not_mod X (N _ hp).2.2) (strKind_is _ _ _ _) _ keyOf_iff ?_
  by_cases h:k∈kvs.map (·.1)
  · rw [decide_eq_true h];exact h1 h
  · rw [decide_eq_false h];exact h2 h
theorem nin_D (N:News h₀ L s.heap news) (hp:(d,o)∈news) (hd:o.IsDictOf (PySem.strKind prog w) kvs) (X:(K0 w.params).In h₀)
    (h1:k∈kvs.map (·.1)→Q (.bool false) { s with toks:=s.toks+1 }) (h2:k ∉ kvs.map (·.1)→Q (.bool true) { s with toks:=s.toks+1 }) :
    wpAny (model prog w) A (compareOp .NotIn (.str k t) (.ref d)) Q E s:=by
  refine wpAny_notIn_of (strKind_is _ _ _ _) (not_mod X (N _ hp).2.2) (kda_dict N hp hd).mapOf ?_
  rw [keyOf_iff]
  by_cases h:k∈kvs.map (·.1)
  · rw [decide_eq_true h];exact h1 h
  · rw [decide_eq_false h];exact h2 h
theorem item_at {l n:Nat} {its:List Value} {i:Nat} {v:Value} {u:Tok} {value slice:PySem.Expr} (N:News h₀ L s.heap news) (hm:(l,listOf its.toArray n)∈news) (hv:its[i]?=some v) (hz:its.length≤100) (h:Q v s)
    (hs:subscripted slice false (.ref l) (.int (i:Int) u)=operate [.ref l,.int (i:Int) u] (getItem (.ref l) (.int (i:Int) u))):wpAny (model prog w) A (subscriptTail value slice (.ref l) (.int (i:Int) u)) Q E s:=by
  have hj:i<its.length:=(List.getElem?_eq_some_iff.mp hv).1
  exact item_litK (News.isList N hm) (by omega) (by omega) (by simpa using hv) h hs
end
noncomputable def qstep (pk:List Str) (acc:List (Str × Nat)) (i:Nat) (it:It):List (Str × Nat):=if isNV it=true∧nameOf it∈pk∧nameOf it ∉ acc.map (·.1) then acc++[(nameOf it,i)] else acc
noncomputable def qto (pk:List Str) (ps:List (Value × It)):Nat→List (Str × Nat)
  | 0=>[]
  | i+1=>match ps[i]? with
    | some p=>qstep pk (qto pk ps i) i p.2
    | none=>qto pk ps i
theorem qto_len (pk:List Str) (ps:List (Value × It)):∀ i,(qto pk ps i).length≤i
  | 0=>Nat.le_refl _
  | i+1=>by
    have:=qto_len pk ps i
    unfold qto
    cases ps[i]? with
    | none=>exact Nat.le_succ_of_le this
    | some p =>
      dsimp only
      unfold qstep
      split
      · simp;omega
      · omega
theorem qto_next {pk:List Str} {ps:List (Value × It)} {i:Nat} {p:Value × It} (h:ps[i]?=some p):qto pk ps (i+1)=qstep pk (qto pk ps i) i p.2:=by
  show (match ps[i]? with|some p=>qstep pk (qto pk ps i) i p.2|none=>qto pk ps i)=_
  rw [h]
theorem par_at {data:Led} {v:Value} {nm:Str} {sg:Bool} {b:Option Int} (hv:DatIn data v (itemD (.par sg b nm))) :
    ∃ a n t0 t1 t2 t3 vb,v=.ref a∧(a,tupO #[.str (Str.ofString "param") t0,.int 4 t1,.str (Str.ofString "parameter") t2,.bool sg,vb,.str nm t3,.none] n)∈data∧DatIn data vb (bdD b) :=
  tup_lay [(false,.str (Str.ofString "param")),(false,.int 4),(false,.str (Str.ofString "parameter")),(false,.bool sg),(true,bdD b),(false,.str nm),(false,.none)] hv fun a n e t0 t1 t2 vb hb t3 hm=>⟨a,n,t0,t1,t2,t3,vb,e,hm,hb⟩
end
section
theorem qstep_not {pk:List Str} {acc:List (Str × Nat)} {i:Nat} {it:It} (h:isNV it=false):qstep pk acc i it=acc:=if_neg (by rw [h];exact fun q=>nomatch q.1)
theorem qstep_out {pk:List Str} {acc:List (Str × Nat)} {i:Nat} {it:It} (h:nameOf it ∉ pk):qstep pk acc i it=acc:=if_neg fun q=>h q.2.1
theorem qstep_had {pk:List Str} {acc:List (Str × Nat)} {i:Nat} {it:It} (h:nameOf it∈acc.map (·.1)):qstep pk acc i it=acc:=if_neg fun q=>q.2.2 h
theorem qstep_new {pk:List Str} {acc:List (Str × Nat)} {i:Nat} {it:It} (h:isNV it=true) (h1:nameOf it∈pk) (h2:nameOf it ∉ acc.map (·.1)):qstep pk acc i it=acc++[(nameOf it,i)]:=if_pos ⟨h,h1,h2⟩
theorem pp_ok {prog:Program} {w:World} {A A₀:Around} {env:Env} {outer:List Env} {base h₀:Heap} {L:Addr} {p:Program} {loose:List Str} {mean:ExcName→Option Value} {mg mb:Str→Option Value} {m:Str→Option Value} {s:Shared} {Q E:Value→Shared→Prop}
    {S nS pd:Nat} {po:Obj} {pk:List (Str × Value)} {ps:List (Value × It)} {data news:Led} (C:Env0 w A A₀ env outer base h₀ L 8 400 p loose mean mg mb) (F:Fr h₀ L s.heap m) (N:News h₀ L s.heap news)
    (hS:(S,listOf (ps.map (·.1)).toArray nS)∈news) (hP:(pd,po)∈news) (hpd:po.IsDictOf (PySem.strKind prog w) pk) (hI:ItsIn data ps) (hs:∀ p∈data,p∈news) (hz:ps.length≤100)
    (hQ:∀ D o h' tk kvs,Fr h₀ L h' m→News h₀ L h' ((D,o)::news)→(∀ p∈news,p.1≠D)→o.IsDictOf (PySem.strKind prog w) kvs→QR kvs (qto (pk.map (·.1)) ps ps.length)→Q (.ref D) { s with heap:=h',toks:=tk }) :
    wpAny (model prog w) A (call (.ref (nat_lit 1233)) [.ref S,.ref pd]) Q E s:=by
  have hzl:(ps.map (·.1)).length≤100:=by simpa using hz
  obtain ⟨B,X,T,hA,hf,hk,hh,hd',hu⟩:=C
  refine wpAny_call ?_
  (refine' code_def (binds:=[(Str.ofString "items",.ref S),(Str.ofString "ports",.ref pd)]) B F X N T hA hf hk (by k_is) (by k_is) (by exact room0 hd') (by exact BindsTo.of_eq rfl) (by exact locs rfl) ?_ (by exact rfl) (by exact rfl) (by exact rfl) (by decide);k_whole;intro g' L' h' FG' F' N' B' X' T';clear F N B X T;(conv=>pattern (fBody _);whnf);(conv=>pattern (occs:=*) (fScope _);all_goals whnf);dsimp only [List.reverse,List.reverseAux,List.length] at F' ⊢;k_fold)
  repeat' ((fail_if_success (with_reducible show wpAny _ _ (exec (Stmt.While _ _ _ _) _) _ _ _));(fail_if_success (with_reducible show wpAny _ _ (pyIter _) _ _ _));first|(k_unfold;(try dsimp only))|(k_end;wrow_close)|((with_reducible show wpAny _ _ (exec (Stmt.For (PySem.Expr.Name _ _) _ _ [] _) _) _ _ _);(with_reducible rename Fr _ _ _ _=>kF9);refine For_invVF kF9 (by rfl) (by rfl) ?_ (by intro _;with_unfolding_all rfl) (by first|passes_own|(dsimp only [ek];passes_own)))|((with_reducible show wpAny _ _ (call (Value.builtin "len") [Value.ref _]) _ _ _);refine PyProof.Rows.len_list (News.isList (by k_asm) (by k_mem)) (by (simp only [List.size_toArray];omega)) ?_)|((with_reducible show wpAny _ _ (call (Value.ref (nat_lit 1221)) _) _ _ _);refine Spec.go (by k_asm) (by k_asm) (Env0.deeper (by assumption) (by assumption) (by assumption) (by assumption) (by exact rfl) (by exact rfl) (by assumption) (by first|exact room hd' rfl|omega) (by first|exact room hu rfl|omega)) (decl_ok (by assumption) (by ((repeat' (first|with_reducible exact fun _ h=>h|with_reducible exact List.forall_mem_nil _|(with_reducible refine sub_cons ?_ ?_)|(with_reducible refine sub_app ?_ ?_)|(with_reducible refine sub_append ?_ ?_)|(intro q9 hq9;first|k_mem|(replace hq9:=hs _ hq9;k_mem))|k_mem));first|done|fail "left")) (by exact rfl)) ?_;rintro r9 h9 tk9 news9 F' N' ⟨t9,rfl,rfl⟩;(try k_sweep);(try dsimp only [nameOf]))|((with_reducible show wpAny _ _ (compareOp CmpOp.In (Value.str _ _) (Value.ref _)) _ _ _);refine in_D (by k_asm) (by k_mem) (by assumption) (by k_asm) ?_ ?_ <;> intro hin9)|((with_reducible show wpAny _ _ (compareOp CmpOp.NotIn (Value.str _ _) (Value.ref _)) _ _ _);refine nin_D (by k_asm) (by k_mem) (by assumption) (by k_asm) ?_ ?_ <;> intro hold9)|((with_reducible show wpAny _ _ (subscriptTail (PySem.Expr.Name _ _) (PySem.Expr.Name _ _) (Value.ref _) (Value.int _ _)) _ _ _);refine item_at (by k_asm) (by k_mem) (by assumption) (by assumption) ?_ (by with_unfolding_all rfl))|((with_reducible show wpAny _ _ (setItem (Value.ref _) (Value.str _ _) _) _ _ _);refine set_D (by k_asm) (by k_asm) (fun o9=>by first|k_upd|fail) (by assumption) (by omega) ?_;intro h9 o9 F9 N9 hd9;(try simp only [List.append_eq] at N9);(try k_sweep))|((with_reducible show wpAny _ _ (subscriptTail _ _ (Value.ref _) (Value.int _ _)) _ _ _);first|(refine item_litK (News.isList (by k_asm) (by k_mem)) (by decide) (by decide) (by exact rfl) ?_ (by with_unfolding_all rfl))|(refine item_tupleT (News.isTup (by k_asm) (by k_mem)) (by decide) (by decide) (by exact rfl) (by exact rfl) ?_ (by with_unfolding_all rfl)))|walk1|(dsimp only;walk1)|(leave1;(try dsimp only))|fail "no step")
  rename_i d1 h1 o1 l1 lo1 hs1 fs1 hi1 fi1 h2 F2 N2 h3 tk3 t3 u3 v3 R3 F3 N3 k3
  clear fs1 hi1 fi1 k3 F2 N2
  have hd1:∀ p∈news,p.1≠d1:=fun p hp e=>Nat.lt_irrefl _ (e ▸ l1 p hp)
  have hsz:(List.toArray (ps.map (·.1))).size=ps.length:=by simp
  rw [hsz] at R3
  refine rng_iter (n:=ps.length) (fun i m nx=>∃ o kvs,nx=(d1,o)::news∧o.IsDictOf (PySem.strKind prog w) kvs∧QR kvs (qto (pk.map (·.1)) ps i)∧m (Str.ofString "places")=some (.ref d1)∧m (Str.ofString "ports")=some (.ref pd)∧m (Str.ofString "items")=some (.ref S)) hh R3
    (small_one (by decide) (by decide) (by omega) (by omega)) (by rw [rangeSize_nat];omega) F3 N3 ⟨o1,[],rfl,hs1,.nil,rfl,rfl,rfl⟩ ?_ ?_
  · rintro i t m₁ nx h4 tk4 own hi hoff ⟨o,kvs,rfl,hd,hq,m1,m2,m3⟩ F9 N9
    obtain ⟨pv,hpv⟩:∃ pv,ps[i]?=some pv:=⟨ps[i],List.getElem?_eq_getElem hi⟩
    obtain ⟨v,it⟩:=pv
    have hv:(ps.map (·.1))[i]?=some v:=by rw [List.getElem?_map,hpv];rfl
    obtain ⟨hit,hok⟩:=hI _ (List.mem_of_getElem? hpv)
    have F:=fr_name (x:=Str.ofString "place") (fr_name (x:=Str.ofString "places") (fr_name (x:=Str.ofString "ports") (fr_name (x:=Str.ofString "items") F9 ((if_neg (by decide)).trans m3)) ((if_neg (by decide)).trans m2)) ((if_neg (by decide)).trans m1)) rfl
    clear F9
    have hkl:kvs.length≤100:=by have:=qto_len (pk.map (·.1)) ps i;have:=hq.length;omega
    cases it with
    | port i5 dir sg b nm =>
      obtain ⟨a5,n5,t50,t51,t52,t53,vb,rfl,hm,hb⟩:=port_at hit
      have hm:=hs _ hm
      repeat' ((fail_if_success (with_reducible show wpAny _ _ (exec (Stmt.While _ _ _ _) _) _ _ _));(fail_if_success (with_reducible show wpAny _ _ (pyIter _) _ _ _));first|(k_unfold;(try dsimp only))|(k_end;wrow_close)|((with_reducible show wpAny _ _ (exec (Stmt.For (PySem.Expr.Name _ _) _ _ [] _) _) _ _ _);(with_reducible rename Fr _ _ _ _=>kF9);refine For_invVF kF9 (by rfl) (by rfl) ?_ (by intro _;with_unfolding_all rfl) (by first|passes_own|(dsimp only [ek];passes_own)))|((with_reducible show wpAny _ _ (call (Value.builtin "len") [Value.ref _]) _ _ _);refine PyProof.Rows.len_list (News.isList (by k_asm) (by k_mem)) (by (simp only [List.size_toArray];omega)) ?_)|((with_reducible show wpAny _ _ (call (Value.ref (nat_lit 1221)) _) _ _ _);refine Spec.go (by k_asm) (by k_asm) (Env0.deeper (by assumption) (by assumption) (by assumption) (by assumption) (by exact rfl) (by exact rfl) (by assumption) (by first|exact room hd' rfl|omega) (by first|exact room hu rfl|omega)) (decl_ok (by assumption) (by ((repeat' (first|with_reducible exact fun _ h=>h|with_reducible exact List.forall_mem_nil _|(with_reducible refine sub_cons ?_ ?_)|(with_reducible refine sub_app ?_ ?_)|(with_reducible refine sub_append ?_ ?_)|(intro q9 hq9;first|k_mem|(replace hq9:=hs _ hq9;k_mem))|k_mem));first|done|fail "left")) (by exact rfl)) ?_;rintro r9 h9 tk9 news9 F' N' ⟨t9,rfl,rfl⟩;(try k_sweep);(try dsimp only [nameOf]))|((with_reducible show wpAny _ _ (compareOp CmpOp.In (Value.str _ _) (Value.ref _)) _ _ _);refine in_D (by k_asm) (by k_mem) (by assumption) (by k_asm) ?_ ?_ <;> intro hin9)|((with_reducible show wpAny _ _ (compareOp CmpOp.NotIn (Value.str _ _) (Value.ref _)) _ _ _);refine nin_D (by k_asm) (by k_mem) (by assumption) (by k_asm) ?_ ?_ <;> intro hold9)|((with_reducible show wpAny _ _ (subscriptTail (PySem.Expr.Name _ _) (PySem.Expr.Name _ _) (Value.ref _) (Value.int _ _)) _ _ _);refine item_at (by k_asm) (by k_mem) (by assumption) (by assumption) ?_ (by with_unfolding_all rfl))|((with_reducible show wpAny _ _ (setItem (Value.ref _) (Value.str _ _) _) _ _ _);refine set_D (by k_asm) (by k_asm) (fun o9=>by first|k_upd|fail) (by assumption) (by omega) ?_;intro h9 o9 F9 N9 hd9;(try simp only [List.append_eq] at N9);(try k_sweep))|((with_reducible show wpAny _ _ (subscriptTail _ _ (Value.ref _) (Value.int _ _)) _ _ _);first|(refine item_litK (News.isList (by k_asm) (by k_mem)) (by decide) (by decide) (by exact rfl) ?_ (by with_unfolding_all rfl))|(refine item_tupleT (News.isTup (by k_asm) (by k_mem)) (by decide) (by decide) (by exact rfl) (by exact rfl) ?_ (by with_unfolding_all rfl)))|walk1|(dsimp only;walk1)|(leave1;(try dsimp only))|fail "no step")
      have hqn:QR kvs (qto (pk.map (·.1)) ps (i+1)):=by rw [qto_next hpv,qstep_not rfl];exact hq
      have hdn:=hd
      ((with_reducible rename News _ _ _ _=>N5);(with_reducible rename Fr _ _ _ _=>F5);refine InvEndG.intro F5 N5 ⟨_,_,rfl,hdn,hqn,rfl,rfl,rfl⟩ hoff (by ((repeat' (first|with_reducible exact fun _ h=>h|with_reducible exact List.forall_mem_nil _|(with_reducible refine sub_cons ?_ ?_)|(with_reducible refine sub_app ?_ ?_)|(with_reducible refine sub_append ?_ ?_)|(intro q9 hq9;first|k_mem|(replace hq9:=hs _ hq9;k_mem))|k_mem));first|done|fail "left")) (by ((repeat' (first|with_reducible exact fun _ h=>h|with_reducible exact List.forall_mem_nil _|(with_reducible refine sub_cons ?_ ?_)|(with_reducible refine sub_app ?_ ?_)|(with_reducible refine sub_append ?_ ?_)|(intro q9 hq9;first|k_mem|(replace hq9:=hs _ hq9;k_mem))|k_mem));first|done|fail "left")))
    | par sg b nm =>
      obtain ⟨a5,n5,t50,t51,t52,t53,vb,rfl,hm,hb⟩:=par_at hit
      have hm:=hs _ hm
      repeat' ((fail_if_success (with_reducible show wpAny _ _ (exec (Stmt.While _ _ _ _) _) _ _ _));(fail_if_success (with_reducible show wpAny _ _ (pyIter _) _ _ _));first|(k_unfold;(try dsimp only))|(k_end;wrow_close)|((with_reducible show wpAny _ _ (exec (Stmt.For (PySem.Expr.Name _ _) _ _ [] _) _) _ _ _);(with_reducible rename Fr _ _ _ _=>kF9);refine For_invVF kF9 (by rfl) (by rfl) ?_ (by intro _;with_unfolding_all rfl) (by first|passes_own|(dsimp only [ek];passes_own)))|((with_reducible show wpAny _ _ (call (Value.builtin "len") [Value.ref _]) _ _ _);refine PyProof.Rows.len_list (News.isList (by k_asm) (by k_mem)) (by (simp only [List.size_toArray];omega)) ?_)|((with_reducible show wpAny _ _ (call (Value.ref (nat_lit 1221)) _) _ _ _);refine Spec.go (by k_asm) (by k_asm) (Env0.deeper (by assumption) (by assumption) (by assumption) (by assumption) (by exact rfl) (by exact rfl) (by assumption) (by first|exact room hd' rfl|omega) (by first|exact room hu rfl|omega)) (decl_ok (by assumption) (by ((repeat' (first|with_reducible exact fun _ h=>h|with_reducible exact List.forall_mem_nil _|(with_reducible refine sub_cons ?_ ?_)|(with_reducible refine sub_app ?_ ?_)|(with_reducible refine sub_append ?_ ?_)|(intro q9 hq9;first|k_mem|(replace hq9:=hs _ hq9;k_mem))|k_mem));first|done|fail "left")) (by exact rfl)) ?_;rintro r9 h9 tk9 news9 F' N' ⟨t9,rfl,rfl⟩;(try k_sweep);(try dsimp only [nameOf]))|((with_reducible show wpAny _ _ (compareOp CmpOp.In (Value.str _ _) (Value.ref _)) _ _ _);refine in_D (by k_asm) (by k_mem) (by assumption) (by k_asm) ?_ ?_ <;> intro hin9)|((with_reducible show wpAny _ _ (compareOp CmpOp.NotIn (Value.str _ _) (Value.ref _)) _ _ _);refine nin_D (by k_asm) (by k_mem) (by assumption) (by k_asm) ?_ ?_ <;> intro hold9)|((with_reducible show wpAny _ _ (subscriptTail (PySem.Expr.Name _ _) (PySem.Expr.Name _ _) (Value.ref _) (Value.int _ _)) _ _ _);refine item_at (by k_asm) (by k_mem) (by assumption) (by assumption) ?_ (by with_unfolding_all rfl))|((with_reducible show wpAny _ _ (setItem (Value.ref _) (Value.str _ _) _) _ _ _);refine set_D (by k_asm) (by k_asm) (fun o9=>by first|k_upd|fail) (by assumption) (by omega) ?_;intro h9 o9 F9 N9 hd9;(try simp only [List.append_eq] at N9);(try k_sweep))|((with_reducible show wpAny _ _ (subscriptTail _ _ (Value.ref _) (Value.int _ _)) _ _ _);first|(refine item_litK (News.isList (by k_asm) (by k_mem)) (by decide) (by decide) (by exact rfl) ?_ (by with_unfolding_all rfl))|(refine item_tupleT (News.isTup (by k_asm) (by k_mem)) (by decide) (by decide) (by exact rfl) (by exact rfl) ?_ (by with_unfolding_all rfl)))|walk1|(dsimp only;walk1)|(leave1;(try dsimp only))|fail "no step")
      have hqn:QR kvs (qto (pk.map (·.1)) ps (i+1)):=by rw [qto_next hpv,qstep_not rfl];exact hq
      have hdn:=hd
      ((with_reducible rename News _ _ _ _=>N5);(with_reducible rename Fr _ _ _ _=>F5);refine InvEndG.intro F5 N5 ⟨_,_,rfl,hdn,hqn,rfl,rfl,rfl⟩ hoff (by ((repeat' (first|with_reducible exact fun _ h=>h|with_reducible exact List.forall_mem_nil _|(with_reducible refine sub_cons ?_ ?_)|(with_reducible refine sub_app ?_ ?_)|(with_reducible refine sub_append ?_ ?_)|(intro q9 hq9;first|k_mem|(replace hq9:=hs _ hq9;k_mem))|k_mem));first|done|fail "left")) (by ((repeat' (first|with_reducible exact fun _ h=>h|with_reducible exact List.forall_mem_nil _|(with_reducible refine sub_cons ?_ ?_)|(with_reducible refine sub_app ?_ ?_)|(with_reducible refine sub_append ?_ ?_)|(intro q9 hq9;first|k_mem|(replace hq9:=hs _ hq9;k_mem))|k_mem));first|done|fail "left")))
    | net kd sg b nm arr =>
      obtain ⟨a5,n5,t50,t51,t52,t53,vb,va,rfl,hm,hb,ha⟩:=net_at hit
      have hm:=hs _ hm
      repeat' ((fail_if_success (with_reducible show wpAny _ _ (exec (Stmt.While _ _ _ _) _) _ _ _));(fail_if_success (with_reducible show wpAny _ _ (pyIter _) _ _ _));first|(k_unfold;(try dsimp only))|(k_end;wrow_close)|((with_reducible show wpAny _ _ (exec (Stmt.For (PySem.Expr.Name _ _) _ _ [] _) _) _ _ _);(with_reducible rename Fr _ _ _ _=>kF9);refine For_invVF kF9 (by rfl) (by rfl) ?_ (by intro _;with_unfolding_all rfl) (by first|passes_own|(dsimp only [ek];passes_own)))|((with_reducible show wpAny _ _ (call (Value.builtin "len") [Value.ref _]) _ _ _);refine PyProof.Rows.len_list (News.isList (by k_asm) (by k_mem)) (by (simp only [List.size_toArray];omega)) ?_)|((with_reducible show wpAny _ _ (call (Value.ref (nat_lit 1221)) _) _ _ _);refine Spec.go (by k_asm) (by k_asm) (Env0.deeper (by assumption) (by assumption) (by assumption) (by assumption) (by exact rfl) (by exact rfl) (by assumption) (by first|exact room hd' rfl|omega) (by first|exact room hu rfl|omega)) (decl_ok (by assumption) (by ((repeat' (first|with_reducible exact fun _ h=>h|with_reducible exact List.forall_mem_nil _|(with_reducible refine sub_cons ?_ ?_)|(with_reducible refine sub_app ?_ ?_)|(with_reducible refine sub_append ?_ ?_)|(intro q9 hq9;first|k_mem|(replace hq9:=hs _ hq9;k_mem))|k_mem));first|done|fail "left")) (by exact rfl)) ?_;rintro r9 h9 tk9 news9 F' N' ⟨t9,rfl,rfl⟩;(try k_sweep);(try dsimp only [nameOf]))|((with_reducible show wpAny _ _ (compareOp CmpOp.In (Value.str _ _) (Value.ref _)) _ _ _);refine in_D (by k_asm) (by k_mem) (by assumption) (by k_asm) ?_ ?_ <;> intro hin9)|((with_reducible show wpAny _ _ (compareOp CmpOp.NotIn (Value.str _ _) (Value.ref _)) _ _ _);refine nin_D (by k_asm) (by k_mem) (by assumption) (by k_asm) ?_ ?_ <;> intro hold9)|((with_reducible show wpAny _ _ (subscriptTail (PySem.Expr.Name _ _) (PySem.Expr.Name _ _) (Value.ref _) (Value.int _ _)) _ _ _);refine item_at (by k_asm) (by k_mem) (by assumption) (by assumption) ?_ (by with_unfolding_all rfl))|((with_reducible show wpAny _ _ (setItem (Value.ref _) (Value.str _ _) _) _ _ _);refine set_D (by k_asm) (by k_asm) (fun o9=>by first|k_upd|fail) (by assumption) (by omega) ?_;intro h9 o9 F9 N9 hd9;(try simp only [List.append_eq] at N9);(try k_sweep))|((with_reducible show wpAny _ _ (subscriptTail _ _ (Value.ref _) (Value.int _ _)) _ _ _);first|(refine item_litK (News.isList (by k_asm) (by k_mem)) (by decide) (by decide) (by exact rfl) ?_ (by with_unfolding_all rfl))|(refine item_tupleT (News.isTup (by k_asm) (by k_mem)) (by decide) (by decide) (by exact rfl) (by exact rfl) ?_ (by with_unfolding_all rfl)))|walk1|(dsimp only;walk1)|(leave1;(try dsimp only))|fail "no step")
      · have hqn:QR kvs (qto (pk.map (·.1)) ps (i+1)):=by rw [qto_next hpv,qstep_had (by rw [← hq.keys];exact hold9)];exact hq
        have hdn:=hd
        ((with_reducible rename News _ _ _ _=>N5);(with_reducible rename Fr _ _ _ _=>F5);refine InvEndG.intro F5 N5 ⟨_,_,rfl,hdn,hqn,rfl,rfl,rfl⟩ hoff (by ((repeat' (first|with_reducible exact fun _ h=>h|with_reducible exact List.forall_mem_nil _|(with_reducible refine sub_cons ?_ ?_)|(with_reducible refine sub_app ?_ ?_)|(with_reducible refine sub_append ?_ ?_)|(intro q9 hq9;first|k_mem|(replace hq9:=hs _ hq9;k_mem))|k_mem));first|done|fail "left")) (by ((repeat' (first|with_reducible exact fun _ h=>h|with_reducible exact List.forall_mem_nil _|(with_reducible refine sub_cons ?_ ?_)|(with_reducible refine sub_app ?_ ?_)|(with_reducible refine sub_append ?_ ?_)|(intro q9 hq9;first|k_mem|(replace hq9:=hs _ hq9;k_mem))|k_mem));first|done|fail "left")))
      · rw [stored_new hold9] at hd9
        have hqn:QR (kvs++[(nm,.int (i:Int) t)]) (qto (pk.map (·.1)) ps (i+1)):=by rw [qto_next hpv,qstep_new rfl hin9 (by rw [← hq.keys];exact hold9)];exact hq.snoc
        have hdn:=hd9
        ((with_reducible rename News _ _ _ _=>N5);(with_reducible rename Fr _ _ _ _=>F5);refine InvEndG.intro F5 N5 ⟨_,_,rfl,hdn,hqn,rfl,rfl,rfl⟩ hoff (by ((repeat' (first|with_reducible exact fun _ h=>h|with_reducible exact List.forall_mem_nil _|(with_reducible refine sub_cons ?_ ?_)|(with_reducible refine sub_app ?_ ?_)|(with_reducible refine sub_append ?_ ?_)|(intro q9 hq9;first|k_mem|(replace hq9:=hs _ hq9;k_mem))|k_mem));first|done|fail "left")) (by ((repeat' (first|with_reducible exact fun _ h=>h|with_reducible exact List.forall_mem_nil _|(with_reducible refine sub_cons ?_ ?_)|(with_reducible refine sub_app ?_ ?_)|(with_reducible refine sub_append ?_ ?_)|(intro q9 hq9;first|k_mem|(replace hq9:=hs _ hq9;k_mem))|k_mem));first|done|fail "left")))
      · have hqn:QR kvs (qto (pk.map (·.1)) ps (i+1)):=by rw [qto_next hpv,qstep_out hin9];exact hq
        have hdn:=hd
        ((with_reducible rename News _ _ _ _=>N5);(with_reducible rename Fr _ _ _ _=>F5);refine InvEndG.intro F5 N5 ⟨_,_,rfl,hdn,hqn,rfl,rfl,rfl⟩ hoff (by ((repeat' (first|with_reducible exact fun _ h=>h|with_reducible exact List.forall_mem_nil _|(with_reducible refine sub_cons ?_ ?_)|(with_reducible refine sub_app ?_ ?_)|(with_reducible refine sub_append ?_ ?_)|(intro q9 hq9;first|k_mem|(replace hq9:=hs _ hq9;k_mem))|k_mem));first|done|fail "left")) (by ((repeat' (first|with_reducible exact fun _ h=>h|with_reducible exact List.forall_mem_nil _|(with_reducible refine sub_cons ?_ ?_)|(with_reducible refine sub_app ?_ ?_)|(with_reducible refine sub_append ?_ ?_)|(intro q9 hq9;first|k_mem|(replace hq9:=hs _ hq9;k_mem))|k_mem));first|done|fail "left")))
    | var kd sg b nm arr =>
      obtain ⟨a5,n5,t50,t51,t52,t53,vb,va,rfl,hm,hb,ha⟩:=var_at hit
      have hm:=hs _ hm
      repeat' ((fail_if_success (with_reducible show wpAny _ _ (exec (Stmt.While _ _ _ _) _) _ _ _));(fail_if_success (with_reducible show wpAny _ _ (pyIter _) _ _ _));first|(k_unfold;(try dsimp only))|(k_end;wrow_close)|((with_reducible show wpAny _ _ (exec (Stmt.For (PySem.Expr.Name _ _) _ _ [] _) _) _ _ _);(with_reducible rename Fr _ _ _ _=>kF9);refine For_invVF kF9 (by rfl) (by rfl) ?_ (by intro _;with_unfolding_all rfl) (by first|passes_own|(dsimp only [ek];passes_own)))|((with_reducible show wpAny _ _ (call (Value.builtin "len") [Value.ref _]) _ _ _);refine PyProof.Rows.len_list (News.isList (by k_asm) (by k_mem)) (by (simp only [List.size_toArray];omega)) ?_)|((with_reducible show wpAny _ _ (call (Value.ref (nat_lit 1221)) _) _ _ _);refine Spec.go (by k_asm) (by k_asm) (Env0.deeper (by assumption) (by assumption) (by assumption) (by assumption) (by exact rfl) (by exact rfl) (by assumption) (by first|exact room hd' rfl|omega) (by first|exact room hu rfl|omega)) (decl_ok (by assumption) (by ((repeat' (first|with_reducible exact fun _ h=>h|with_reducible exact List.forall_mem_nil _|(with_reducible refine sub_cons ?_ ?_)|(with_reducible refine sub_app ?_ ?_)|(with_reducible refine sub_append ?_ ?_)|(intro q9 hq9;first|k_mem|(replace hq9:=hs _ hq9;k_mem))|k_mem));first|done|fail "left")) (by exact rfl)) ?_;rintro r9 h9 tk9 news9 F' N' ⟨t9,rfl,rfl⟩;(try k_sweep);(try dsimp only [nameOf]))|((with_reducible show wpAny _ _ (compareOp CmpOp.In (Value.str _ _) (Value.ref _)) _ _ _);refine in_D (by k_asm) (by k_mem) (by assumption) (by k_asm) ?_ ?_ <;> intro hin9)|((with_reducible show wpAny _ _ (compareOp CmpOp.NotIn (Value.str _ _) (Value.ref _)) _ _ _);refine nin_D (by k_asm) (by k_mem) (by assumption) (by k_asm) ?_ ?_ <;> intro hold9)|((with_reducible show wpAny _ _ (subscriptTail (PySem.Expr.Name _ _) (PySem.Expr.Name _ _) (Value.ref _) (Value.int _ _)) _ _ _);refine item_at (by k_asm) (by k_mem) (by assumption) (by assumption) ?_ (by with_unfolding_all rfl))|((with_reducible show wpAny _ _ (setItem (Value.ref _) (Value.str _ _) _) _ _ _);refine set_D (by k_asm) (by k_asm) (fun o9=>by first|k_upd|fail) (by assumption) (by omega) ?_;intro h9 o9 F9 N9 hd9;(try simp only [List.append_eq] at N9);(try k_sweep))|((with_reducible show wpAny _ _ (subscriptTail _ _ (Value.ref _) (Value.int _ _)) _ _ _);first|(refine item_litK (News.isList (by k_asm) (by k_mem)) (by decide) (by decide) (by exact rfl) ?_ (by with_unfolding_all rfl))|(refine item_tupleT (News.isTup (by k_asm) (by k_mem)) (by decide) (by decide) (by exact rfl) (by exact rfl) ?_ (by with_unfolding_all rfl)))|walk1|(dsimp only;walk1)|(leave1;(try dsimp only))|fail "no step")
      · have hqn:QR kvs (qto (pk.map (·.1)) ps (i+1)):=by rw [qto_next hpv,qstep_had (by rw [← hq.keys];exact hold9)];exact hq
        have hdn:=hd
        ((with_reducible rename News _ _ _ _=>N5);(with_reducible rename Fr _ _ _ _=>F5);refine InvEndG.intro F5 N5 ⟨_,_,rfl,hdn,hqn,rfl,rfl,rfl⟩ hoff (by ((repeat' (first|with_reducible exact fun _ h=>h|with_reducible exact List.forall_mem_nil _|(with_reducible refine sub_cons ?_ ?_)|(with_reducible refine sub_app ?_ ?_)|(with_reducible refine sub_append ?_ ?_)|(intro q9 hq9;first|k_mem|(replace hq9:=hs _ hq9;k_mem))|k_mem));first|done|fail "left")) (by ((repeat' (first|with_reducible exact fun _ h=>h|with_reducible exact List.forall_mem_nil _|(with_reducible refine sub_cons ?_ ?_)|(with_reducible refine sub_app ?_ ?_)|(with_reducible refine sub_append ?_ ?_)|(intro q9 hq9;first|k_mem|(replace hq9:=hs _ hq9;k_mem))|k_mem));first|done|fail "left")))
      · rw [stored_new hold9] at hd9
        have hqn:QR (kvs++[(nm,.int (i:Int) t)]) (qto (pk.map (·.1)) ps (i+1)):=by rw [qto_next hpv,qstep_new rfl hin9 (by rw [← hq.keys];exact hold9)];exact hq.snoc
        have hdn:=hd9
        ((with_reducible rename News _ _ _ _=>N5);(with_reducible rename Fr _ _ _ _=>F5);refine InvEndG.intro F5 N5 ⟨_,_,rfl,hdn,hqn,rfl,rfl,rfl⟩ hoff (by ((repeat' (first|with_reducible exact fun _ h=>h|with_reducible exact List.forall_mem_nil _|(with_reducible refine sub_cons ?_ ?_)|(with_reducible refine sub_app ?_ ?_)|(with_reducible refine sub_append ?_ ?_)|(intro q9 hq9;first|k_mem|(replace hq9:=hs _ hq9;k_mem))|k_mem));first|done|fail "left")) (by ((repeat' (first|with_reducible exact fun _ h=>h|with_reducible exact List.forall_mem_nil _|(with_reducible refine sub_cons ?_ ?_)|(with_reducible refine sub_app ?_ ?_)|(with_reducible refine sub_append ?_ ?_)|(intro q9 hq9;first|k_mem|(replace hq9:=hs _ hq9;k_mem))|k_mem));first|done|fail "left")))
      · have hqn:QR kvs (qto (pk.map (·.1)) ps (i+1)):=by rw [qto_next hpv,qstep_out hin9];exact hq
        have hdn:=hd
        ((with_reducible rename News _ _ _ _=>N5);(with_reducible rename Fr _ _ _ _=>F5);refine InvEndG.intro F5 N5 ⟨_,_,rfl,hdn,hqn,rfl,rfl,rfl⟩ hoff (by ((repeat' (first|with_reducible exact fun _ h=>h|with_reducible exact List.forall_mem_nil _|(with_reducible refine sub_cons ?_ ?_)|(with_reducible refine sub_app ?_ ?_)|(with_reducible refine sub_append ?_ ?_)|(intro q9 hq9;first|k_mem|(replace hq9:=hs _ hq9;k_mem))|k_mem));first|done|fail "left")) (by ((repeat' (first|with_reducible exact fun _ h=>h|with_reducible exact List.forall_mem_nil _|(with_reducible refine sub_cons ?_ ?_)|(with_reducible refine sub_app ?_ ?_)|(with_reducible refine sub_append ?_ ?_)|(intro q9 hq9;first|k_mem|(replace hq9:=hs _ hq9;k_mem))|k_mem));first|done|fail "left")))
  · rintro m₁ nx h4 tk4 ⟨o,kvs,rfl,hd,hq,m1,m2,m3⟩ F9 N9
    have F:=fr_name (x:=Str.ofString "places") F9 m1
    clear F9
    repeat' ((fail_if_success (with_reducible show wpAny _ _ (exec (Stmt.While _ _ _ _) _) _ _ _));(fail_if_success (with_reducible show wpAny _ _ (pyIter _) _ _ _));first|(k_unfold;(try dsimp only))|(k_end;wrow_close)|((with_reducible show wpAny _ _ (exec (Stmt.For (PySem.Expr.Name _ _) _ _ [] _) _) _ _ _);(with_reducible rename Fr _ _ _ _=>kF9);refine For_invVF kF9 (by rfl) (by rfl) ?_ (by intro _;with_unfolding_all rfl) (by first|passes_own|(dsimp only [ek];passes_own)))|((with_reducible show wpAny _ _ (call (Value.builtin "len") [Value.ref _]) _ _ _);refine PyProof.Rows.len_list (News.isList (by k_asm) (by k_mem)) (by (simp only [List.size_toArray];omega)) ?_)|((with_reducible show wpAny _ _ (call (Value.ref (nat_lit 1221)) _) _ _ _);refine Spec.go (by k_asm) (by k_asm) (Env0.deeper (by assumption) (by assumption) (by assumption) (by assumption) (by exact rfl) (by exact rfl) (by assumption) (by first|exact room hd' rfl|omega) (by first|exact room hu rfl|omega)) (decl_ok (by assumption) (by ((repeat' (first|with_reducible exact fun _ h=>h|with_reducible exact List.forall_mem_nil _|(with_reducible refine sub_cons ?_ ?_)|(with_reducible refine sub_app ?_ ?_)|(with_reducible refine sub_append ?_ ?_)|(intro q9 hq9;first|k_mem|(replace hq9:=hs _ hq9;k_mem))|k_mem));first|done|fail "left")) (by exact rfl)) ?_;rintro r9 h9 tk9 news9 F' N' ⟨t9,rfl,rfl⟩;(try k_sweep);(try dsimp only [nameOf]))|((with_reducible show wpAny _ _ (compareOp CmpOp.In (Value.str _ _) (Value.ref _)) _ _ _);refine in_D (by k_asm) (by k_mem) (by assumption) (by k_asm) ?_ ?_ <;> intro hin9)|((with_reducible show wpAny _ _ (compareOp CmpOp.NotIn (Value.str _ _) (Value.ref _)) _ _ _);refine nin_D (by k_asm) (by k_mem) (by assumption) (by k_asm) ?_ ?_ <;> intro hold9)|((with_reducible show wpAny _ _ (subscriptTail (PySem.Expr.Name _ _) (PySem.Expr.Name _ _) (Value.ref _) (Value.int _ _)) _ _ _);refine item_at (by k_asm) (by k_mem) (by assumption) (by assumption) ?_ (by with_unfolding_all rfl))|((with_reducible show wpAny _ _ (setItem (Value.ref _) (Value.str _ _) _) _ _ _);refine set_D (by k_asm) (by k_asm) (fun o9=>by first|k_upd|fail) (by assumption) (by omega) ?_;intro h9 o9 F9 N9 hd9;(try simp only [List.append_eq] at N9);(try k_sweep))|((with_reducible show wpAny _ _ (subscriptTail _ _ (Value.ref _) (Value.int _ _)) _ _ _);first|(refine item_litK (News.isList (by k_asm) (by k_mem)) (by decide) (by decide) (by exact rfl) ?_ (by with_unfolding_all rfl))|(refine item_tupleT (News.isTup (by k_asm) (by k_mem)) (by decide) (by decide) (by exact rfl) (by exact rfl) ?_ (by with_unfolding_all rfl)))|walk1|(dsimp only;walk1)|(leave1;(try dsimp only))|fail "no step")
    (show LeaveK _ _ _ _ _ _ _;refine leaveK_ (by k_asm) (by k_asm) ?_;intro kF kN)
    exact hQ d1 o _ _ kvs kF kN hd1 hd hq
end
section
open PySem PySem.W PyProof.Rows PySem.Calls PyProof.Rows.LCg
/-- one turn of a list comprehension over a range: iterator I,block C,the list so far D,the rest of the ledger -/
noncomputable def CompTurn (prog:Program) (w:World) (A:Around) (h₀:Heap) (L:Addr) (m:Str→Option Value) (env:Env) (elt:Expr) (scope:Scope) (cl:List (Str × Addr)) (J:Nat→List Value→Led→Prop) (n:Nat) (s₁:Shared):Prop :=
  ∀ i ys nw I oI C oC D m₂ h tk t (E':Value→Shared→Prop),i<n→J i ys nw→oI.data=.fields t→NsObj oC m₂→Fr h₀ L h m→News h₀ L h ((I,oI)::(C,oC)::(D,lst ys)::nw)→Off3 I C D nw →
    wpAny (model prog w) A (eval elt (compEnvC scope cl C env)) (fun y s'=>∃ h' tk' nw',s'={ s₁ with heap:=h',toks:=tk' }∧Fr h₀ L h' m∧News h₀ L h' ((I,oI)::(C,oC)::(D,lst ys)::nw')∧Off3 I C D nw'∧J (i+1) (ys++[y]) nw') E' { s₁ with heap:=h,toks:=tk }
section
variable {prog:Program} {w:World} {A:Around} {E:Value→Shared→Prop} {s:Shared} {h₀:Heap} {L:Addr} {m:Str→Option Value} {env:Env}
/-- the comprehension's block over a range iterator,by an invariant over what is made and the ledger -/
theorem comp_block {elt iter:Expr} {x:Str} {px:Pos} {scope:Scope} {cl:List (Str × Addr)} {pos:Pos} {s₂:Shared} {I:Addr} {n:Nat} {news:Led} {J:Nat→List Value→Led→Prop} {RR:Value→Addr→Result→Shared→Prop}
    (hh:A.handled=none) (hsz:n≤sizeLine) (hcell:∀ y∈scope.names,y.2≠.cell) (hkind:scope.kind=.function) (hx:scope.names.lookup x=some .local) (hst:IsRangeIter s₂.heap I 0 n 1)
    (F:Fr h₀ L s₂.heap m) (N:News h₀ L s₂.heap news) (hI₀:h₀.get? I=none) (off:∀ p∈news,p.1≠I) (hJ:J 0 [] news)
    (turn:CompTurn prog w A h₀ L m env elt scope cl J n s₂)
    (hRR:∀ D C h tk m' ys nw,J n ys nw→Fr h₀ L h m→News h₀ L h ((D,lst ys)::nw)→Off1 D nw→h.Ns C m'→h₀.get? C=none→h₀.get? D=none→C≠L→D≠L→C≠D→(∀ p∈nw,p.1≠C)→RR (.ref D) C (.ok .next) { s₂ with heap:=h,toks:=tk }) :
    wpAny (model prog w) A (newList []) (fun acc s₃=>wpAny (model prog w) A (newFunctionEnv scope env.globals cl [] env.qual none .none (some env)) (fun cenv s₄ =>
      codeAny (model prog w) A (.compStart (.ListComp elt [⟨.Name x px,iter,[],0⟩] scope pos) 0 (.ref I) acc { cenv with scope:=relabel scope env }) (RR acc cenv.locals) s₄) E s₃) E s₂:=by
  have W:=range_walks (prog:=prog) (w:=w) (I:=I) hh 0 n
  have hIlt:I<s₂.heap.objs.size:=Heap.lt_size (show s₂.heap.get? I=some _ from hst)
  have hIL:L≠I:=by
    rintro rfl
    obtain ⟨o,es,ep,ho,hd,_⟩:=F.ns
    rw [show s₂.heap.get? L=some _ from hst] at ho
    cases ho;cases hd
  refine wpAny_newObj_type (wpAny_newFunctionEnv hcell (by intro y hy;simp at hy) (fun h₁ hns hsb=>?_) hkind)
  dsimp only at hns hsb ⊢
  generalize hH:s₂.heap.push { cls:=.type "list",dict:=none,data:=.seq ([]:List Value).toArray }=H at hns hsb ⊢
  have eC:H.objs.size=s₂.heap.objs.size+1:=by rw [← hH,Heap.size_push]
  have lt2:∀ b,b<s₂.heap.objs.size→b≠H.objs.size∧b≠s₂.heap.objs.size:=fun b hb=>⟨Nat.ne_of_lt (by rw [eC];exact Nat.lt_succ_of_lt hb),Nat.ne_of_lt hb⟩
  have old:∀ b o,s₂.heap.get? b=some o→h₁.get? b=some o:=fun b o e=>hsb.extBut b o (lt2 b (Heap.lt_size e)).1 (Heap.get?_push_of_some _ (hH ▸ Heap.get?_push_of_some _ e))
  have hacc:h₁.get? s₂.heap.objs.size=some (lst []):=hsb.extBut _ _ (Nat.ne_of_lt (by rw [eC];exact Nat.lt_succ_self _)) (Heap.get?_push_of_some _ (hH ▸ Heap.get?_push_size _ rfl))
  have new:∀ a,s₂.heap.objs.size≤a→h₀.get? a=none:=fun a ha=>by
    cases e:h₀.get? a with
    | none=>rfl
    | some o=>exact absurd (Heap.lt_size (F.keep a o e)) (Nat.not_lt.mpr ha)
  have hLlt:L<s₂.heap.objs.size:=F.ns.lt
  have hD₀:=new _ (Nat.le_refl _)
  have hC₀:=new H.objs.size (by omega)
  have hDL:s₂.heap.objs.size≠L:=Ne.symm (lt2 L hLlt).2
  have hCL:H.objs.size≠L:=Ne.symm (lt2 L hLlt).1
  have hCD:H.objs.size≠s₂.heap.objs.size:=by omega
  have hCI:I≠H.objs.size:=(lt2 I hIlt).1
  have hDI:I≠s₂.heap.objs.size:=(lt2 I hIlt).2
  have loop:∀ s₃:Shared,s₃={ s₂ with heap:=h₁,toks:=s₂.toks+([]:List (Str × Value)).length } →
      codeAny (model prog w) A (.compLoop (.ListComp elt [⟨.Name x px,iter,[],0⟩] scope pos) 0 (.ref I) (.ref s₂.heap.objs.size) (compEnvC scope cl H.objs.size env)) (RR (.ref s₂.heap.objs.size) H.objs.size) s₃:=by
    rintro s₃ rfl
    refine codeAny_compLoop_tests
      (fun k s'=>∃ h tk i ys m' nw,s'={ s₂ with heap:=h,toks:=tk }∧i≤n∧k=n+1 - i∧ys.length=i∧IsRangeIter h I (0+(i:Nat) * 1) ((n:Int) - (i:Nat)) 1∧Fr h₀ L h m∧h.Ns H.objs.size m'∧News h₀ L h ((s₂.heap.objs.size,lst ys)::nw)∧Off3 I H.objs.size s₂.heap.objs.size nw∧J i ys nw) ?_ (n+1)
      ⟨h₁,_,0,[],_,news,rfl,Nat.zero_le _,rfl,rfl,?_,F.keeps old,hns,fun p hp=>?_,Off3.of fun p hp=>⟨off p hp,lt2 _ (Heap.lt_size (N p hp).1)⟩,hJ⟩
    · rintro k s' ⟨h,tk,i,ys,m',nw,rfl,hi,rfl,hyl,hit,F',hn',N',off',J'⟩
      have o3:=off'.mem
      have offI:∀ p∈((s₂.heap.objs.size,lst ys):Addr × Obj)::nw,p.1≠I:=fun p hp=>by
        rcases List.mem_cons.mp hp with rfl|hp
        · exact Ne.symm hDI
        · exact (o3 p hp).1
      by_cases hlt:i<n
      · refine W.item i _ _ _ hlt hit fun v h₂ tk₂ hP hit₂ hk₂=>?_
        refine wpAny_assign_Name (wpAny_storeName_local (lookup_relabel_local hx) (hn'.at' fun o e=>hk₂ _ o (by simpa using Ne.symm hCI) e) (fun h₃ hn₃ hs₃=>?_) (by simp [compEnvC,relabel,hkind]))
        refine wpAny_tests_nil ?_
        simp only [if_true]
        have hit₃:h₃.get? I=some _:=hs₃.extBut I _ hCI (show h₂.get? I=some _ from hit₂)
        obtain ⟨oC,heC,hoC⟩:=ns_obj hn₃
        have F₃:Fr h₀ L h₃ m:=(fr_but F' hk₂ hIL hI₀).change hs₃ hCL hC₀
        have N₂:=news_but N' hk₂ offI
        have N₃:News h₀ L h₃ ((I,_)::(H.objs.size,oC)::(s₂.heap.objs.size,lst ys)::nw):=List.forall_mem_cons.mpr ⟨⟨hit₃,Ne.symm hIL,hI₀⟩,List.forall_mem_cons.mpr ⟨⟨heC,hCL,hC₀⟩,fun p hp=>⟨hs₃.extBut _ _ (by
          rcases List.mem_cons.mp hp with rfl|hp
          · exact Ne.symm hCD
          · exact (o3 p hp).2.1) (N₂ p hp).1,(N₂ p hp).2⟩⟩⟩
        refine wpAny_mono (turn i ys nw I _ H.objs.size oC s₂.heap.objs.size _ h₃ _ _ _ hlt J' rfl hoC F₃ N₃ off') (fun y s₄ h₄=>?_) fun _ _ e=>e
        obtain ⟨h₄,tk₄,nw₄,rfl,F₄,N₄,off₄,J₄⟩:=h₄
        have zI:=(N₄ _ (.head _)).1
        have zC:=(N₄ _ (.tail _ (.head _))).1
        have zD:=(N₄ _ (.tail _ (.tail _ (.head _)))).1
        refine append_at (hsz:=by show ys.toArray.size≤sizeLine;rw [List.size_toArray,hyl];omega) zD fun h₅ hs₅ hD₅=>?_
        have o4:=off₄.mem
        refine ⟨n+1 - (i+1),by omega,h₅,tk₄,i+1,ys++[y],_,nw₄,rfl,hlt,rfl,by rw [List.length_append,List.length_singleton,hyl],hs₅.extBut I _ hDI zI,F₄.change hs₅ hDL hD₀,(hoC.ns zC).sameBut hs₅ hCD,fun p hp=>?_,off₄,J₄⟩
        rcases List.mem_cons.mp hp with rfl|hp
        · exact ⟨hD₅.trans (congrArg some (lst_snoc ys y)),hDL,hD₀⟩
        · have z:=N₄ p (.tail _ (.tail _ (.tail _ hp)))
          exact ⟨hs₅.extBut _ _ (o4 p hp).2.2 z.1,z.2⟩
      · obtain rfl:i=n:=by omega
        refine W.done _ _ _ hit fun h₂ tk₂ hk₂=>?_
        exact hRR _ _ h₂ tk₂ _ ys nw J' (fr_but F' hk₂ hIL hI₀) (news_but N' hk₂ offI) off'.one (hn'.at' fun o e=>hk₂ _ o (by simpa using Ne.symm hCI) e) hC₀ hD₀ hCL hDL hCD (fun p hp=>(o3 p hp).2.1)
    · show h₁.get? I=some _
      rw [old I _ hst];simp
    · rcases List.mem_cons.mp hp with rfl|hp
      · exact ⟨hacc,hDL,hD₀⟩
      · exact ⟨old _ _ (N p hp).1,(N p hp).2⟩
  exact codeAny_compStart_list (loop _ rfl) (W.self 0 _ _ _ (show IsRangeIter h₁ I _ _ _ from by show h₁.get? I=some _;rw [old I _ hst];simp) (loop _ rfl))
end
end
section
open PySem PySem.W PyProof.Rows PySem.Calls PyProof.Rows.LCg
/-- what a comprehension over a range wants of its source -/
noncomputable def RangeSrc (prog:Program) (w:World) (A:Around) (h₀:Heap) (L:Addr) (m:Str→Option Value) (env:Env) (elt:Expr) (scope:Scope) (cl:List (Str × Addr)) (y:Str) (Q:Flow→Shared→Prop) (xv:Value) (s₁:Shared):Prop :=
  ∃ r b t u v n news J,xv=.ref r∧Fr h₀ L s₁.heap m∧News h₀ L s₁.heap news∧IsRange s₁.heap r 0 b 1 t u v∧Builtin.Range.small 0 b 1=true∧Builtin.Range.rangeSize 0 b 1=((n:Nat):Int)∧n≤sizeLine∧J 0 [] news ∧
    CompTurn prog w A h₀ L m env elt scope cl J n s₁ ∧
    (∀ D ys nw h tk,J n ys nw→Fr h₀ L h (fun z=>if z=y then some (.ref D) else m z)→News h₀ L h ((D,lst ys)::nw)→Off1 D nw→Q .next { s₁ with heap:=h,toks:=tk })
section
variable {prog:Program} {w:World} {A:Around} {E:Value→Shared→Prop} {s:Shared} {h₀:Heap} {L:Addr} {m:Str→Option Value} {env:Env}
theorem Assign_comp {elt iter:Expr} {x y:Str} {px py:Pos} {scope:Scope} {cl:List (Str × Addr)} {pos spos:Pos} {Q:Flow→Shared→Prop} (hh:A.handled=none) (hL:env.locals=L)
    (hsw:swapsWith (.ListComp elt [⟨.Name x px,iter,[],0⟩] scope pos) (some (.Name y py)) spos.line env=pure true)
    (hclos:closureFor scope env=pure cl) (hcell:∀ z∈scope.names,z.2≠.cell) (hkind:scope.kind=.function)
    (hnames:∀ z∈scope.names,z.2=.local→scope.names.lookup z.1=some .local) (hx:scope.names.lookup x=some .local)
    (hy:env.kindOf y=some .local) (hp:(env.scope.kind == .class || (env.scope.kind == .module && env.locals != env.globals))=false)
    (h:wpAny (model prog w) A (eval iter env) (RangeSrc prog w A h₀ L m env elt scope cl y Q) E s)
    (hs:∀ x,foldedSetIterable iter env x=pure x:=by intro _;rfl) :
    wpAny (model prog w) A (exec (.Assign [.Name y py] (.ListComp elt [⟨.Name x px,iter,[],0⟩] scope pos) spos) env) Q E s:=by
  subst hL
  rw [exec_Assign_Name_used _ _ _ _ hsw]
  refine wpAny_bind (wpAny_standAt (wpAny_bind ?_))
  show wpAny _ A (do let _ ← comprehension (.ListComp elt [⟨.Name x px,iter,[],0⟩] scope pos) scope env _ (newList []) false (eval iter env) (some (assign (.Name y py) env))) _ _ s
  refine wpAny_bind (wpAny_mono (wpAny_comprehension_free (use:=some (assign (.Name y py) env)) (Q:=fun _ s'=>Q .next s') rfl hs hclos hkind hnames
    (wpAny_mono h (fun xv s₁ h₁=>?_) fun _ _ e=>e)) (fun _ s' hq=>wpAny_pure (wpAny_pure hq)) fun _ _ e=>e)
  obtain ⟨r,b,t,u,v,n,news,J,rfl,F,N,hr,hsm,hn,hsz,hJ,turn,fin⟩:=h₁
  refine wpAny_pyIter_range hr hsm ?_
  refine comp_block (J:=J) hh hsz hcell hkind hx (by show Heap.get? _ _=some _;rw [hn];simpa using Heap.get?_push_size _ rfl) (F.keeps fun _ _ e=>Heap.get?_push_of_some _ e) (N.grown fun _ _ e=>Heap.get?_push_of_some _ e) (next_is_new F) (fun p hp=>Nat.ne_of_lt (Heap.lt_size (N p hp).1)) hJ turn ?_
  intro D C h' tk m' ys nw hJ' F' N' o1 hn hC₀ hD₀ hCL hDL hCD offC
  show wpAny _ A (assign (.Name y py) env (.ref D)) _ _ _
  refine wpAny_assign_Name (wpAny_storeName_local hy F'.ns (fun h₂ hn₂ hs₂=>?_) hp)
  have F₂:=F'.set hn₂ hs₂
  refine ⟨m',hn.sameBut hs₂ hCL,fun h'' hs''=>fin D ys nw h'' _ hJ' (F₂.change hs'' hCL hC₀) (fun p hp=>?_) o1⟩
  have z:=(N'.set hs₂) p hp
  refine ⟨hs''.extBut _ _ ?_ z.1,z.2⟩
  rcases List.mem_cons.mp hp with rfl|hp
  · exact Ne.symm hCD
  · exact offC p hp
end
end
section
open PySem PySem.W PyProof.Rows PySem.Calls PyProof.Rows.LCg
noncomputable def isSeqO (o:Obj):Bool:=match o.data with|.seq ..=>true|_=>false
noncomputable def seqPart (l:Led):Led:=l.filter fun p=>isSeqO p.2
mutual
theorem dat_seq {l:Led}:∀ {v:Value} {d:Dat},DatIn l v d→DatIn (seqPart l) v d
  | _,_,.none=>.none
  | _,_,.bool b=>.bool b
  | _,_,.int i t=>.int i t
  | _,_,.str x t=>.str x t
  | _,_,.bytes b t=>.bytes b t
  | _,_,.tuple h r=>.tuple (List.mem_filter.mpr ⟨h,rfl⟩) (dats_seq r)
  | _,_,.list h r=>.list (List.mem_filter.mpr ⟨h,rfl⟩) (dats_seq r)
theorem dats_seq {l:Led}:∀ {vs:List Value} {ds:List Dat},DatAll l vs ds→DatAll (seqPart l) vs ds
  | _,_,.nil=>.nil
  | _,_,.cons h r=>.cons (dat_seq h) (dats_seq r)
end
theorem seq_sub {l:Led}:∀ p∈seqPart l,p∈l:=fun _ hp=>(List.mem_filter.mp hp).1
theorem seq_tups {l:Led} (h:Tups l):Tups (seqPart l):=fun p hp=>h p (seq_sub p hp)
theorem news_fun {h₀ h:Heap} {L:Addr} {l:Led} (N:News h₀ L h l) {p q:Addr × Obj} (hp:p∈l) (hq:q∈l) (e:p.1=q.1):p.2=q.2:=by
  have h1:=(N p hp).1
  have h2:=(N q hq).1
  rw [e,h2] at h1
  exact (Option.some.inj h1).symm
/-- what the items' comprehension keeps -/
noncomputable def ItemsJ (hd dg:Nat) (n1:Nat) (rest:Led) (i:Nat) (ys:List Value) (nw:Led):Prop :=
  ∃ k tk tl ps,0≤k∧Tups tl∧ItsIn tl ps∧ys=ps.map (·.1)∧ps.length=i∧nw=(hd,handO dg k tk n1)::(tl++rest)
noncomputable abbrev itScope:Scope:={ kind:=.function,names:=[(Str.ofString ".0",.local),(Str.ofString "lap",.local),(Str.ofString "_law_item",.globalImplicit),(Str.ofString "hand",.free)],isGenerator:=false,isCoroutine:=false,more:=[] }
theorem law_s0 {prog:Program} {w:World} {A A₀:Around} {base h₀:Heap} {L fa cd:Addr} {p:Program} {loose:List Str} {mean:ExcName→Option Value} {mg mb:Str→Option Value} {m:Str→Option Value} {s:Shared} {Q:Flow→Shared→Prop} {E:Value→Shared→Prop} {vs:List Value} {ns:List Int} {l:Addr} {oc:Obj}
    (C:Env0 w A A₀ (lawE L fa cd) [] base h₀ L 100 2000 p loose mean mg mb) (F:Fr h₀ L s.heap m) (hm:m (Str.ofString "script")=some (.ref l)) (N:News h₀ L s.heap [(L+1,oc)]) (hoc:oc.data=.cell none) (hl:h₀.IsList l vs.toArray) (hi:IntsAre vs ns) (hlen:ns.length≤63)
    (hQ:∀ (hd dg:Nat) k tk n1 n2 us ds oc' h' tk',Fr h₀ L h' m→News h₀ L h' ((hd,handO dg k tk n1)::(dg,listOf (List.toArray us) n2)::[(L+1,oc')])→oc'.data=.cell (some (.ref hd))→IntsAre us ds→ds.length≤63→0≤k→hd≠dg→L+1≠hd→L+1≠dg→Q .next { s with heap:=h',toks:=tk' }) :
    wpAny (model prog w) A (exec (lawS 0) (lawE L fa cd)) Q E s:=by
  obtain ⟨B,X,T,hA,hf,hk,hh,hd',hu⟩:=C
  have em:(fun y=>if y=Str.ofString "script" then some (Value.ref l) else m y)=m:=by
    funext y
    by_cases h:y=Str.ofString "script"
    · rw [if_pos h,h,hm]
    · rw [if_neg h]
  rw [← em] at F
  (unfold lawS lawE;(conv=>pattern (Option.getD _ _);whnf);(conv=>pattern (occs:=*) (fScope _);all_goals whnf);(try k_fold))
  repeat' ((fail_if_success (with_reducible show wpAny _ _ (exec (Stmt.While _ _ _ _) _) _ _ _));(fail_if_success (with_reducible show wpAny _ _ (pyIter _) _ _ _));first|(k_unfold;(try dsimp only))|(k_end;wrow_close)|((with_reducible show wpAny _ _ (call (Value.ref (nat_lit 1338)) _) _ _ _);refine open_ok (Env0.mk B X T hA hf hk hh (by first|exact room hd' rfl|omega) (by first|exact room hu rfl|omega)) (by k_asm) (by k_asm) (by assumption) (by assumption) (by assumption) ?_;intro hd9 dg9 k9 tk9 n19 n29 us9 ds9 h9 tk99 F9 N9 hus9 hds9 hk9 hne9 hlt9;(try k_sweep))|walk1|(dsimp only;walk1)|(leave1;(try dsimp only))|fail "no step")
  rename_i h8 o8 F8 N8 hd8
  rw [em] at F8
  have hlt:=hlt9 _ (.head _)
  exact hQ hd9 dg9 k9 tk9 n19 n29 us9 ds9 o8 h8 _ F8 N8 hd8 hus9 hds9 hk9 (Ne.symm hne9) (Nat.ne_of_lt hlt.2) (Nat.ne_of_lt hlt.1)
end
section
open PySem PySem.W PyProof.Rows PySem.Calls PyProof.Rows.LCg
theorem law_turn {prog:Program} {w:World} {A A₀:Around} {base h₀:Heap} {L fa cd:Addr} {p:Program} {loose:List Str} {mean:ExcName→Option Value} {mg mb:Str→Option Value} {m:Str→Option Value} {sc:Scope} {p1 p2 p3:Pos} {us:List Value} {ds:List Int} {hd dg n1 n2:Nat} {oc:Obj} {n:Nat} {s₁:Shared} {cl:List (Str × Addr)}
    (hsc:sc=fScope (stAt 181)) (hcl:cl=[(Str.ofString "hand",L+1)])
    (C:Env0 w A A₀ (lawE L fa cd) [] base h₀ L 100 2000 p loose mean mg mb) (hus:IntsAre us ds) (hds:ds.length≤63) (hne:hd≠dg) (hch:L+1≠hd) (hoc:oc.data=.cell (some (.ref hd))) :
    CompTurn prog w A h₀ L m (envOfC (Str.ofString "law") sc L fa (.ref cd)) (.Call (.Name (Str.ofString "_law_item") p1) [.Name (Str.ofString "hand") p2] [] p3) itScope cl (ItemsJ hd dg n1 [(dg,listOf us.toArray n2),(L+1,oc)]) n s₁:=by
  subst hsc hcl
  have C4:Env0 w A A₀ (lawE L fa cd) [] base h₀ L 4 32 p loose mean mg mb:=C.less rfl rfl
  obtain ⟨B,X,T,hA,hf,hk,hh,hd',hu⟩:=C
  rintro i ys nw I oI C0 oC D m₂ h tk t E' hi ⟨k,tk0,tl,ps,hk0,htl,hits,rfl,rfl,rfl⟩ hoI hoC F N off
  conv=>pattern (occs:=*) (fScope _);all_goals whnf
  repeat' ((fail_if_success (with_reducible show wpAny _ _ (exec (Stmt.While _ _ _ _) _) _ _ _));(fail_if_success (with_reducible show wpAny _ _ (pyIter _) _ _ _));first|(k_unfold;(try dsimp only))|(k_end;wrow_close)|fail|walk1|(dsimp only;walk1)|(leave1;(try dsimp only))|fail "no step")
  have o3:=off.mem
  have oh:=o3 _ (.head _)
  show wpAny _ _ _ qk ek _
  refine' Spec.go F ?N C4 (item_ok (k:=k) (tk:=tk0) (n1:=n1) (n2:=n2) (dg:=dg) (data:=(I,oI)::(C0,oC)::(D,lst (ps.map (·.1)))::(tl++[(dg,listOf us.toArray n2),(L+1,oc)])) hk0 hus hds ?dgm hne ?hof) ?Q
  case dgm=>simp
  case hof =>
    intro q hq
    simp only [List.mem_cons,List.mem_append,List.not_mem_nil,or_false] at hq
    rcases hq with rfl|rfl|rfl|hq|rfl|rfl
    · exact Ne.symm oh.1
    · exact Ne.symm oh.2.1
    · exact Ne.symm oh.2.2
    · exact tups_ne N (by k_mem) notTup_list htl (by ((repeat' (first|with_reducible exact fun _ h=>h|with_reducible exact List.forall_mem_nil _|(with_reducible refine sub_cons ?_ ?_)|(with_reducible refine sub_app ?_ ?_)|(with_reducible refine sub_append ?_ ?_)|(intro q9 hq9;first|k_mem|(replace hq9:=hs _ hq9;k_mem))|k_mem));first|done|fail "left")) q hq
    · exact Ne.symm hne
    · exact hch
  case N=>exact news_sub N (by ((repeat' (first|with_reducible exact fun _ h=>h|with_reducible exact List.forall_mem_nil _|(with_reducible refine sub_cons ?_ ?_)|(with_reducible refine sub_app ?_ ?_)|(with_reducible refine sub_append ?_ ?_)|(intro q9 hq9;first|k_mem|(replace hq9:=hs _ hq9;k_mem))|k_mem));first|done|fail "left"))
  case Q =>
    rintro r h' tk' news' F' N' ⟨it,tl',k',tk'',hitok,hk',ht',hd9,rfl⟩
    have hs:∀ q∈seqPart tl',q∈tl':=seq_sub
    have hn:∀ q∈seqPart tl',q.1≠I∧q.1≠C0∧q.1≠D:=fun q hq=>by
      have hqN:q∈(hd,handO dg k' tk'' n1)::(tl'++((I,oI)::(C0,oC)::(D,lst (ps.map (·.1)))::(tl++[(dg,listOf us.toArray n2),(L+1,oc)]))):=.tail _ (List.mem_append_left _ (hs q hq))
      have hsq:isSeqO q.2=true:=(List.mem_filter.mp hq).2
      refine ⟨fun e=>?_,fun e=>?_,fun e=>?_⟩
      · have:=news_fun N' hqN (q:=(I,oI)) (by k_mem) e
        rw [this] at hsq
        simp [isSeqO,hoI] at hsq
      · obtain ⟨es,ep,h1,_⟩:=hoC
        have:=news_fun N' hqN (q:=(C0,oC)) (by k_mem) e
        rw [this] at hsq
        simp [isSeqO,h1] at hsq
      · have:=news_fun N' hqN (q:=(D,lst (ps.map (·.1)))) (by k_mem) e
        have h2:=ht' q (hs q hq)
        rw [this] at h2
        exact notTup_list (a:=(ps.map (·.1)).toArray) (n:=0) h2
    refine ⟨h',tk',(hd,handO dg k' tk'' n1)::((seqPart tl'++tl)++[(dg,listOf us.toArray n2),(L+1,oc)]),rfl,F',news_sub N' (by ((repeat' (first|with_reducible exact fun _ h=>h|with_reducible exact List.forall_mem_nil _|(with_reducible refine sub_cons ?_ ?_)|(with_reducible refine sub_app ?_ ?_)|(with_reducible refine sub_append ?_ ?_)|(intro q9 hq9;first|k_mem|(replace hq9:=hs _ hq9;k_mem))|k_mem));first|done|fail "left")),Off3.of fun q hq=>?_,k',tk'',seqPart tl'++tl,ps++[(r,it)],hk',tups_app (seq_tups ht') htl,fun q hq=>?_,by simp,by simp,rfl⟩
    · rcases List.mem_cons.mp hq with rfl|hq
      · exact oh
      · rcases List.mem_append.mp hq with hq|hq
        · rcases List.mem_append.mp hq with hq|hq
          · exact hn q hq
          · exact o3 q (.tail _ (List.mem_append_left _ hq))
        · exact o3 q (.tail _ (List.mem_append_right _ hq))
    · rcases List.mem_append.mp hq with hq|hq
      · exact ⟨DatIn.mono (fun _ h=>List.mem_append_right _ h) (hits q hq).1,(hits q hq).2⟩
      · rw [List.mem_singleton.mp hq]
        exact ⟨DatIn.mono (fun _ h=>List.mem_append_left _ h) (dat_seq hd9),hitok⟩
end
section
open PySem PySem.W PyProof.Rows PySem.Calls PyProof.Rows.LCg
theorem off1_mem {D:Addr}:∀ {l:Led},Off1 D l→∀ p∈l,p.1≠D
  | [],_,_,hp=>nomatch hp
  | _::_,h,p,hp=>by
    rcases List.mem_cons.mp hp with rfl|hp
    · exact h.1
    · exact off1_mem h.2 p hp
theorem law_s1 {prog:Program} {w:World} {A A₀:Around} {base h₀:Heap} {L fa cd:Addr} {p:Program} {loose:List Str} {mean:ExcName→Option Value} {mg mb:Str→Option Value} {m:Str→Option Value} {s:Shared} {Q:Flow→Shared→Prop} {E:Value→Shared→Prop} {us:List Value} {ds:List Int} {hd dg:Nat} {k:Int} {tk:Tok} {n1 n2:Nat} {oc:Obj}
    (C:Env0 w A A₀ (lawE L fa cd) [] base h₀ L 100 2000 p loose mean mg mb) (F:Fr h₀ L s.heap m) (N:News h₀ L s.heap ((hd,handO dg k tk n1)::(dg,listOf (List.toArray us) n2)::[(L+1,oc)])) (hoc:oc.data=.cell (some (.ref hd))) (hus:IntsAre us ds) (hds:ds.length≤63) (hk0:0≤k) (hne:hd≠dg) (hch:L+1≠hd) (hcd:L+1≠dg)
    (hQ:∀ il ps tl nI k tk h' tk',Tups tl→ItsIn tl ps→ps.length≤8→0≤k→(∀ p∈(hd,handO dg k tk n1)::(tl++[(dg,listOf (List.toArray us) n2),(L+1,oc)]),p.1≠il)→News h₀ L h' ((il,listOf (ps.map (·.1)).toArray nI)::(hd,handO dg k tk n1)::(tl++[(dg,listOf (List.toArray us) n2),(L+1,oc)]))→Fr h₀ L h' (fun z=>if z=Str.ofString "items" then some (.ref il) else m z)→Q .next { s with heap:=h',toks:=tk' }) :
    wpAny (model prog w) A (exec (lawS 1) (lawE L fa cd)) Q E s:=by
  have hC:=C
  obtain ⟨B,X,T,hA,hf,hk,hh,hd',hu⟩:=C
  (unfold lawS lawE;(conv=>pattern (Option.getD _ _);whnf);(conv=>pattern (occs:=*) (fScope _);all_goals whnf);(try k_fold))
  refine Assign_comp (h₀:=h₀) (L:=L) (m:=m) hh rfl (by with_unfolding_all rfl) (by with_unfolding_all rfl) (by decide) rfl (by decide) rfl rfl rfl ?_
  repeat' ((fail_if_success (with_reducible show wpAny _ _ (exec (Stmt.While _ _ _ _) _) _ _ _));(fail_if_success (with_reducible show wpAny _ _ (pyIter _) _ _ _));first|(k_unfold;(try dsimp only))|(k_end;wrow_close)|((with_reducible show wpAny _ _ (call (Value.ref (nat_lit 1345)) _) _ _ _);refine next_use (by k_asm) (by k_asm) (Env0.mk B X T hA hf hk hh (by first|exact room hd' rfl|omega) (by first|exact room hu rfl|omega)) (fun k9 t9=>by first|k_upd|fail) (by assumption) (by k_mem) (by omega) (by omega) (by omega) (by assumption) ?_;intro h9 tk9 i9 ti9 k9 t9 F' N' hk9 hi0 hi1;(try k_sweep);(try dsimp only))|walk1|(dsimp only;walk1)|(leave1;(try dsimp only))|fail "no step")
  rename_i F1 N1 h2 tk3 t1 u1 v1 R2 F2 N2 K2
  obtain ⟨n,rfl⟩:∃ n:Nat,i9=n:=⟨i9.toNat,by omega⟩
  have J0:ItemsJ hd dg n1 [(dg,listOf (List.toArray us) n2),(L+1,oc)] 0 [] ((hd,handO dg k9 t9 n1)::[(dg,listOf (List.toArray us) n2),(L+1,oc)]):=⟨k9,t9,[],[],hk9,tups_nil,by simp,rfl,rfl,rfl⟩
  refine ⟨_,n,t1,u1,v1,n,_,_,rfl,F2,N2,R2,small_one (by decide) (by decide) (by omega) (by omega),by rw [rangeSize_nat];omega,by rw [sizeLine_eq];omega,J0,?turn,?fin⟩
  case turn=>exact law_turn (by conv=>rhs;whnf) rfl hC hus hds hne hch hoc
  case fin =>
    rintro D ys nw h tk ⟨k',tk',tl,ps,hk',htl,hits,rfl,rfl,rfl⟩ F9 N9 o1
    exact hQ D ps tl _ k' tk' h tk htl hits (by omega) hk' (off1_mem o1) N9 F9
end
section
open PySem PySem.W PyProof.Rows PySem.Calls PyProof.Rows.LCg
/-- the law's data while the hand turns -/
structure LD (L hd dg il n2 nI:Nat) (us:List Value) (ds:List Int) (ps:List (Value × It)) (data:Led):Prop where
  hus:IntsAre us ds
  hds:ds.length≤63
  dgm:(dg,listOf us.toArray n2)∈data
  cm:∃ oc,(L+1,oc)∈data∧oc.data=.cell (some (.ref hd))
  ilm:(il,listOf (ps.map (·.1)).toArray nI)∈data
  its:ItsIn data ps
  len:ps.length≤8
  off:∀ p∈data,p.1≠hd
  hne:hd≠dg
theorem ite_name {m:Str→Option Value} {x:Str} {v:Value} (h:m x=some v):∀ z,(if z=x then some v else m z)=m z:=fun z=>by
  by_cases e:z=x
  · rw [if_pos e,e,h]
  · rw [if_neg e]
theorem law_s2 {prog:Program} {w:World} {A A₀:Around} {base h₀:Heap} {L fa cd:Addr} {p:Program} {loose:List Str} {mean:ExcName→Option Value} {mg mb:Str→Option Value} {m:Str→Option Value} {s:Shared} {Q:Flow→Shared→Prop} {E:Value→Shared→Prop} {l:Led}
    (C:Env0 w A A₀ (lawE L fa cd) [] base h₀ L 100 2000 p loose mean mg mb) (F:Fr h₀ L s.heap m) (N:News h₀ L s.heap l)
    (hQ:∀ (cl:Nat) h' tk',Fr h₀ L h' (fun z=>if z=Str.ofString "called" then some (.ref cl) else m z)→News h₀ L h' ((cl,listOf #[] 0)::l)→(∀ p∈l,p.1≠cl)→Q .next { s with heap:=h',toks:=tk' }) :
    wpAny (model prog w) A (exec (lawS 2) (lawE L fa cd)) Q E s:=by
  obtain ⟨B,X,T,hA,hf,hk,hh,hd',hu⟩:=C
  (unfold lawS lawE;(conv=>pattern (Option.getD _ _);whnf);(conv=>pattern (occs:=*) (fScope _);all_goals whnf);(try k_fold))
  repeat' ((fail_if_success (with_reducible show wpAny _ _ (exec (Stmt.While _ _ _ _) _) _ _ _));(fail_if_success (with_reducible show wpAny _ _ (pyIter _) _ _ _));first|(k_unfold;(try dsimp only))|(k_end;wrow_close)|((with_reducible show wpAny _ _ (call (Value.ref (nat_lit 1352)) _) _ _ _);refine expr_use (us:=[]) (ms:=[]) (expr_ok 4 (Nat.le_refl _)) (by k_asm) (by k_asm) (Env0.mk B X T hA hf hk hh (by first|exact room hd' rfl|omega) (by first|exact room hu rfl|omega)) hus hds hne hcl hcd (fun o9=>by first|k_upd|fail) (fun o9 c9=>by first|k_upd|fail) (by rfl) hk0 (by k_mem) .nil nsOk_nil ?_;intro r9 h9 tk9 tl9 e9 k9 t9 us9 n9 F' N' he9 hk9 ht9 hd9 hu9 hm9;(try k_sweep);(try dsimp only))|walk1|(dsimp only;walk1)|(leave1;(try dsimp only))|fail "no step")
  rename_i l9 h8 l1 h9 F9 N9
  exact hQ l9 _ _ F9 N9 fun q hq=>Nat.ne_of_lt (l1 q hq)
theorem law_s3 {prog:Program} {w:World} {A A₀:Around} {base h₀:Heap} {L fa cd:Addr} {p:Program} {loose:List Str} {mean:ExcName→Option Value} {mg mb:Str→Option Value} {m:Str→Option Value} {s:Shared} {Q:Flow→Shared→Prop} {E:Value→Shared→Prop} {hd dg il n1 n2 nI cl:Nat} {us:List Value} {ds:List Int} {ps:List (Value × It)} {k:Int} {tk:Tok} {data:Led}
    (C:Env0 w A A₀ (lawE L fa cd) [] base h₀ L 100 2000 p loose mean mg mb) (D:LD L hd dg il n2 nI us ds ps data) (hk0:0≤k) (F:Fr h₀ L s.heap m) (N:News h₀ L s.heap ((cl,listOf #[] 0)::(hd,handO dg k tk n1)::data)) (hcl:cl≠hd) (hoc:∀ p∈data,p.1≠cl) (hm:m (Str.ofString "called")=some (.ref cl))
    (hQ:∀ r e us' n3 k tk tl h' tk',exOk 4 e→0≤k→Tups tl→DatIn tl r (exD e)→DatAll [] us' ((names e []).map Dat.str)→Fr h₀ L h' (fun z=>if z=Str.ofString "tree" then some r else m z)→News h₀ L h' ((cl,listOf us'.toArray n3)::(hd,handO dg k tk n1)::(tl++data))→Q .next { s with heap:=h',toks:=tk' }) :
    wpAny (model prog w) A (exec (lawS 3) (lawE L fa cd)) Q E s:=by
  obtain ⟨B,X,T,hA,hf,hk,hh,hd',hu⟩:=C
  obtain ⟨hus,hds,dgm,⟨oc,cm,hoc'⟩,ilm,its,len,off,hne⟩:=D
  have hcd:cl≠dg:=Ne.symm (hoc _ dgm)
  replace F:=fr_name F hm
  (unfold lawS lawE;(conv=>pattern (Option.getD _ _);whnf);(conv=>pattern (occs:=*) (fScope _);all_goals whnf);(try k_fold))
  repeat' ((fail_if_success (with_reducible show wpAny _ _ (exec (Stmt.While _ _ _ _) _) _ _ _));(fail_if_success (with_reducible show wpAny _ _ (pyIter _) _ _ _));first|(k_unfold;(try dsimp only))|(k_end;wrow_close)|((with_reducible show wpAny _ _ (call (Value.ref (nat_lit 1352)) _) _ _ _);refine expr_use (us:=[]) (ms:=[]) (expr_ok 4 (Nat.le_refl _)) (by k_asm) (by k_asm) (Env0.mk B X T hA hf hk hh (by first|exact room hd' rfl|omega) (by first|exact room hu rfl|omega)) hus hds hne hcl hcd (fun o9=>by first|k_upd|fail) (fun o9 c9=>by first|k_upd|fail) (by rfl) hk0 (by k_mem) .nil nsOk_nil ?_;intro r9 h9 tk9 tl9 e9 k9 t9 us9 n9 F' N' he9 hk9 ht9 hd9 hu9 hm9;(try k_sweep);(try dsimp only))|walk1|(dsimp only;walk1)|(leave1;(try dsimp only))|fail "no step")
  (with_reducible rename Fr _ _ _ _=>F9)
  (with_reducible rename News _ _ _ _=>N9)
  simp only [ite_name hm] at F9
  exact hQ _ _ _ n9 _ t9 _ _ _ he9 hk9 ht9 hd9 hu9 F9 (news_sub N9 (by ((repeat' (first|with_reducible exact fun _ h=>h|with_reducible exact List.forall_mem_nil _|(with_reducible refine sub_cons ?_ ?_)|(with_reducible refine sub_app ?_ ?_)|(with_reducible refine sub_append ?_ ?_)|(intro q9 hq9;first|k_mem|(replace hq9:=hs _ hq9;k_mem))|k_mem));first|done|fail "left")))
end
section
open PySem PySem.W PyProof.Rows PySem.Calls PyProof.Rows.LCg
noncomputable def leS (a b:Str):Prop:=a.cps.toList≤b.cps.toList
theorem leS_of {a b:Str} (h:PySem.Spec.ltCps b.cps.toList a.cps.toList=false):leS a b:=by
  rw [ltCps_eq] at h
  exact List.not_lt.mp (of_decide_eq_false h)
theorem leS_trans {a b c:Str} (h:leS a b) (k:leS b c):leS a c:=List.le_trans h k
theorem leS_anti {a b:Str} (h:leS a b) (k:leS b a):a=b:=by
  have e:a.cps.toList=b.cps.toList:=List.le_antisymm h k
  cases a;cases b
  exact congrArg Str.mk (Array.ext' e)
theorem rising_pw:∀ (p:Str) (l:List Str),risingS p l=true→(p::l).Pairwise leS
  | p,[],_=>by simp
  | p,x::r,h=>by
    have h':(!PySem.Spec.ltCps x.cps.toList p.cps.toList && risingS x r)=true:=h
    rw [Bool.and_eq_true] at h'
    have h1:leS p x:=leS_of (by simpa using h'.1)
    have h2:=rising_pw x r h'.2
    refine List.pairwise_cons.mpr ⟨fun y hy=>?_,h2⟩
    rcases List.mem_cons.mp hy with rfl|hy
    · exact h1
    · exact leS_trans h1 ((List.pairwise_cons.mp h2).1 y hy)
theorem sorted_pw:∀ (l:List Str),sortedS l=true→l.Pairwise leS
  | [],_=>.nil
  | x::r,h=>rising_pw x r h
theorem sorted_one {a b:List Str} (ha:sortedS a=true) (hb:sortedS b=true) (p:a.Perm b):a=b :=
  List.Perm.eq_of_pairwise (fun _ _ _ _ h k=>leS_anti h k) (sorted_pw a ha) (sorted_pw b hb) p
noncomputable def sortS (ss:List Str):List Str:=Classical.epsilon fun l=>l.Perm ss∧sortedS l=true
theorem sortS_is {a ss:List Str} (p:a.Perm ss) (h:sortedS a=true):a=sortS ss:=by
  have q:=Classical.epsilon_spec (p:=fun l:List Str=>l.Perm ss∧sortedS l=true) ⟨a,p,h⟩
  exact sorted_one h q.2 (p.trans q.1.symm)
theorem strs_dat:∀ {vs:List Value} {ss:List Str},StrsAre vs ss→DatAll [] vs (ss.map Dat.str)
  | _,_,.nil=>.nil
  | _,_,.cons y t r=>.cons (.str y t) (strs_dat r)
theorem dat_strs:∀ {vs:List Value} (ss:List Str),DatAll [] vs (ss.map Dat.str)→StrsAre vs ss
  | _,[],h=>by cases h;exact .nil
  | _,y::ss,h=>by
    cases h with
    | cons h r=>cases h;exact .cons _ _ (dat_strs ss r)
section
variable {prog:Program} {w:World} {A:Around} {E:Value→Shared→Prop} {s:Shared} {h₀:Heap} {L a b:Nat} {m:Str→Option Value} {news:Led} {us ys:List Value} {n k:Nat} {ss:List Str} {Q:Value→Shared→Prop}
theorem sorted_ok (F:Fr h₀ L s.heap m) (N:News h₀ L s.heap news) (hm:(a,listOf us.toArray n)∈news) (hu:DatAll [] us (ss.map Dat.str)) (hss:nsOk ss)
    (h:∀ (D:Nat) (h':Heap) (ws:List Value) (e:Nat),Fr h₀ L h' m→News h₀ L h' ((D,listOf (List.toArray ws) e)::news)→DatAll [] ws ((sortS ss).map Dat.str)→(∀ x∈sortS ss,fnOk x)→Q (.ref D) { s with heap:=h' }) :
    wpAny (model prog w) A (call (.builtin "sorted") [.ref a]) Q E s:=by
  have hl:=hu.length
  rw [List.length_map] at hl
  have:=nsOk_len hss
  refine sorted_N_str F N (News.isList N hm) (dat_strs _ hu) (by omega) fun h' vs' ss' e F' N' hS hp hs=>?_
  have es:=sortS_is hp hs
  rw [es] at hS hp
  exact h _ h' vs' e F' N' (strs_dat hS) fun x hx=>hss.1 x (hp.mem_iff.mp hx)
open Classical in
theorem strs_ne (N:News h₀ L s.heap news) (ma:(a,listOf us.toArray n)∈news) (Da:DatAll [] us (ss.map Dat.str)) (mb:(b,listOf ys.toArray k)∈news) (Db:DatAll [] ys (ss.map Dat.str)) (hss:∀ x∈ss,fnOk x) (hu:A.units+64<cLine) (h:Q (.bool false) s) :
    wpAny (model prog w) A (compareOp .NotEq (.ref a) (.ref b)) Q E s:=by
  have hk:∀ d∈ss.map Dat.str,kqdOk 8 d=true:=fun d hd=>by
    obtain ⟨x,hx,rfl⟩:=List.mem_map.mp hd
    exact fn_strOk (hss x hx)
  refine kqd_ne (n₁:=[]) (n₂:=[]) N ma rfl rfl Da (fun _ h=>nomatch h) mb rfl rfl Db (fun _ h=>nomatch h) hk hk hu ?_
  rw [decide_eq_true rfl]
  exact h
theorem names_use {v:Value} {e:Ex} {d:Dat} {l:Led} (he:exOk 4 e) (hv:DatIn l v d) (hs:∀ p∈l,p∈news) (hd:d=exD e∨d=.tuple [exD e,.list [exD e],.str (Str.ofString "f0")]) :
    Spec prog w (nat_lit 1214) [v] 6 200 news (fun r news'=>∃ (l:Nat) (us:List Value) (n:Nat),r=.ref l∧DatAll [] us ((names e []).map Dat.str)∧news'=(l,listOf (List.toArray us) n)::news):=by
  have h1:=sz_ex e 4 he
  have h2:=dn_ex e []
  have h3:=nsOk_len (nsOk_names e he nsOk_nil)
  have h4:dn d []=names e []∧okD d=true∧szD d<900:=by
    rcases hd with rfl|rfl
    · exact ⟨h2,ok_ex e,by omega⟩
    · refine ⟨by simp [dn,dns,hitD,h2],by simp [okD,okDs,okHead,ok_ex e],?_⟩
      simp only [szD,szDs];omega
  have q:=called_ok (prog:=prog) (w:=w) (DatIn.mono hs hv) h4.2.1 h4.2.2 (by rw [h4.1];omega)
  rw [h4.1] at q
  exact q.mono fun r l' ⟨l,us,n,e1,e2,e3,_⟩=>⟨l,us,n,e1,e2,e3⟩
end
theorem law_s4 {prog:Program} {w:World} {A A₀:Around} {base h₀:Heap} {L fa cd:Addr} {p:Program} {loose:List Str} {mean:ExcName→Option Value} {mg mb:Str→Option Value} {m:Str→Option Value} {s:Shared} {Q:Flow→Shared→Prop} {E:Value→Shared→Prop} {news l:Led} {cl n3:Nat} {us:List Value} {r:Value} {e:Ex}
    (C:Env0 w A A₀ (lawE L fa cd) [] base h₀ L 100 2000 p loose mean mg mb) (F:Fr h₀ L s.heap m) (N:News h₀ L s.heap news) (hm1:m (Str.ofString "tree")=some r) (hm2:m (Str.ofString "called")=some (.ref cl)) (he:exOk 4 e) (hr:DatIn l r (exD e)) (hs:∀ p∈l,p∈news) (hc:(cl,listOf us.toArray n3)∈news) (hus:DatAll [] us ((names e []).map Dat.str))
    (hQ:∀ h' tk',Fr h₀ L h' m→News h₀ L h' news→Q .next { s with heap:=h',toks:=tk' }) :
    wpAny (model prog w) A (exec (lawS 4) (lawE L fa cd)) Q E s:=by
  obtain ⟨B,X,T,hA,hf,hk,hh,hd',hu⟩:=C
  replace F:=fr_name (fr_name F hm2) (x:=Str.ofString "tree") (v:=r) ((if_neg (by decide)).trans hm1)
  (unfold lawS lawE;(conv=>pattern (Option.getD _ _);whnf);(conv=>pattern (occs:=*) (fScope _);all_goals whnf);(try k_fold))
  repeat' ((fail_if_success (with_reducible show wpAny _ _ (exec (Stmt.While _ _ _ _) _) _ _ _));(fail_if_success (with_reducible show wpAny _ _ (pyIter _) _ _ _));first|(k_unfold;(try dsimp only))|(k_end;wrow_close)|((with_reducible show wpAny _ _ (call (Value.ref (nat_lit 1214)) _) _ _ _);(first|refine Spec.go (by k_asm) (by k_asm) (Env0.mk B X T hA hf hk hh (by first|exact room hd' rfl|omega) (by first|exact room hu rfl|omega)) (names_use he hr (fun q9 hq9=>by (have hq8:=hs q9 hq9;k_mem)) (.inl rfl)) ?_|refine Spec.go (by k_asm) (by k_asm) (Env0.mk B X T hA hf hk hh (by first|exact room hd' rfl|omega) (by first|exact room hu rfl|omega)) (names_use (d:=.tuple [exD e,.list [exD e],.str (Str.ofString "f0")]) he (DatIn.tuple (by k_mem) (.cons (DatIn.mono (fun q9 hq9=>by (have hq8:=hs q9 hq9;k_mem)) hr) (.cons (DatIn.list (by k_mem) (.cons (DatIn.mono (fun q9 hq9=>by (have hq8:=hs q9 hq9;k_mem)) hr) .nil)) (.cons (.str _ _) .nil)))) (fun _ h=>h) (.inr rfl)) ?_);rintro r9 h9 tk9 _ F9 N9 ⟨l9,us9,n9,rfl,hu9,rfl⟩;(try k_sweep))|((with_reducible show wpAny _ _ (call (Value.builtin "sorted") _) _ _ _);refine sorted_ok (by k_asm) (by k_asm) (by k_mem) (by assumption) (nsOk_names e he nsOk_nil) ?_;intro D9 h9 ws9 e9 F9 N9 hd9 hs9;(try k_sweep))|((with_reducible show wpAny _ _ (compareOp CmpOp.NotEq (Value.ref _) (Value.ref _)) _ _ _);refine strs_ne (by k_asm) (by k_mem) (by assumption) (by k_mem) (by assumption) (by first|assumption|exact (nsOk_names _ (by assumption) nsOk_nil).1) (by omega) ?_)|walk1|(dsimp only;walk1)|(leave1;(try dsimp only))|fail "no step")
  (with_reducible rename Fr _ _ _ _=>F9)
  (with_reducible rename News _ _ _ _=>N9)
  simp only [ite_name hm2,ite_name hm1] at F9
  exact hQ _ _ F9 (news_sub N9 fun q hq=>by k_mem)
end
section
theorem led_lt {l:Led} {D a:Addr} {o:Obj} (h:∀ p∈l,p.1<D) (m:(a,o)∈l):a<D:=h _ m
theorem add_ok {prog:Program} {w:World} {x dx ls n n2:Nat} {es:List DictEntry} {v:Value} {data:Led} (hx:(x,instObj 87 dx)∈data) (hdx:(dx,dictOf es n)∈data) (hls:getL (Str.ofString "scopes") es=some (some (.ref ls))) (hoff:∀ p∈data,p.1≠ls) :
    Spec prog w (nat_lit 56) [.ref x,v] 2 60 ((ls,listOf #[] n2)::data) (fun r news'=>∃ o' tl,(∃ i t,r=.int i t∧tl=[])∧news'=(ls,o')::(tl++data)):=by
  intro A A₀ env outer base h₀ L p loose mean mg mb m s Q E C F N hQ
  obtain ⟨B,X,T,hA,hf,hk,hh,hd',hu⟩:=C
  refine wpAny_call ?_
  (refine' code_def (binds:=[(Str.ofString "self",.ref x),(Str.ofString "path",v)]) B F X N T hA hf hk (by k_is) (by k_is) (by exact room0 hd') (by exact BindsTo.of_eq rfl) (by exact locs rfl) ?_ (by exact rfl) (by exact rfl) (by exact rfl) (by decide);k_whole;intro g' L' h' FG' F' N' B' X' T';clear F N B X T;(conv=>pattern (fBody _);whnf);(conv=>pattern (occs:=*) (fScope _);all_goals whnf);dsimp only [List.reverse,List.reverseAux,List.length] at F' ⊢;k_fold)
  repeat' (first|(k_unfold;(try dsimp only))|(k_end;kc_close)|((with_reducible show wpAny _ _ (getMethod (Value.ref _) _ _) _ _ _);refine' method_inst ?k1 ?k2 ?k3 ?k4 ?k5 ?k6 ?k7 ?_;(case k1=>k_asm);(case k2=>k_asm);(case k3=>k_inst);(case k4=>k_is);(case k5=>k_is);(case k6=>k_is);(case k7=>assumption);k_whole)|((with_reducible show wpAny _ _ (call (Value.builtin "list.append") _) _ _ _);refine' append_K ?k1 ?k2 ?k3 ?_ ?z;(case k1=>k_asm);(case k2=>k_asm);(case k3=>k_upd);(case z=>((try simp only [List.size_toArray]);rw [sizeLine_eq];omega));intro h' F' N';(try k_sweep))|((with_reducible show wpAny _ _ (call (Value.ref (nat_lit 56)) _) _ _ _);refine add_cps (by k_asm) (by k_asm) (Env0.deeper (by assumption) (by assumption) (by assumption) (by assumption) (by exact rfl) (by exact rfl) (by assumption) (by simp only [depth_under_make];omega) (by simp only [units_under_make];omega)) (by k_mem) (by k_mem) (by assumption) (fun o9=>by first|k_upd|fail) (by assumption) (by assumption) ?_;intro i9 t9 o9 h9 tk9 F9 N9;(try k_sweep))|((with_reducible show wpAny _ _ (call (Value.ref (nat_lit 87)) _) _ _ _);refine design2 (Env0.mk B X T hA hf hk hh (by first|exact room hd' rfl|omega) (by first|exact room hu rfl|omega)) (by k_asm) (by k_asm) ?_;intro x9 dx9 ls9 es9 n9 n29 h9 tk9 F9 N9 hdes9 hls9 hadd9 hlt9 hx9 hls8;(try k_sweep))|((with_reducible show wpAny _ _ (call (Value.ref (nat_lit 1327)) _) _ _ _);refine' scope_ok ?C ?F ?N ?h1 ?h2 ?h3 ?h4 ?h5 ?h6 ?_;(case F=>k_asm);(case N=>k_asm);(case C=>exact (Env0.mk B X T hA hf hk hh (by first|exact room hd' rfl|omega) (by first|exact room hu rfl|omega)));(case h1=>assumption);(case h2=>assumption);(case h3=>exact hdes9.2);(case h4=>exact fun q hq=>Nat.ne_of_lt (Nat.lt_trans (hlt9 q hq) (Nat.lt_trans hx9 hls8)));(case h5=>omega);(case h6=>omega));intro sc9 dsc9 es19 n19 h9 tk9 t39 F9 N9 hg19 hg29 hz9 hlt8 hsc9;(try k_sweep)|((with_reducible show wpAny _ _ (getAttr (Value.ref _) _ _) _ _ _);refine' get_own ?k1 ?k2 ?k3 ?k4 ?k5 ?k6 ?k7 ?k8 ?k9 ?_;(case k1=>k_asm);(case k2=>k_asm);(case k3=>k_inst);(case k4=>k_is);(case k5=>k_is);(case k6=>k_is);(case k7=>k_is);(case k8=>assumption);(case k9=>k_handed);k_whole)|((with_reducible show wpAny _ _ (setAttr (Value.ref _) _ _) _ _ _);refine' set_put ?k1 ?k2 ?k3 ?k4 ?k5 ?k6 ?k7 ?k8 ?k9 ?k10 ?k13 ?k12 ?_;(case k1=>k_asm);(case k2=>k_asm);(case k3=>k_asm);(case k4=>k_inst);(case k5=>exact rfl);(case k6=>k_is);(case k7=>k_is);(case k8=>k_is);(case k9=>k_is);(case k10=>assumption);(case k13=>assumption);(case k12=>intro es9;k_upd);intro h' es9 hg9 ho9 hz9 F' N';(try k_sweep))|((with_reducible show wpAny _ _ (call (Value.builtin "len") [Value.ref _]) _ _ _);refine PyProof.Rows.len_list (News.isList (by k_asm) (by k_mem)) (by (simp only [List.size_toArray];omega)) ?_)|walk1|(dsimp only;walk1)|(leave1;(try dsimp only))|fail "no step")
  (show LeaveK _ _ _ _ _ _ _;refine leaveK_ (by k_asm) (by k_asm) ?_;intro kF kN)
  exact hQ _ _ _ _ kF kN ⟨_,[],⟨_,_,rfl,rfl⟩,rfl⟩
theorem add_use {prog:Program} {w:World} {x dx ls n n2:Nat} {es:List DictEntry} {v:Value} {news:Led} {news2:Obj→Led} (U:∀ o',Upd ls (listOf #[] n2) o' news (news2 o')) (hx:(x,instObj 87 dx)∈news) (hdx:(dx,dictOf es n)∈news) (hls:getL (Str.ofString "scopes") es=some (some (.ref ls))) (h1:x≠ls) (h2:dx≠ls) :
    Spec prog w (nat_lit 56) [.ref x,v] 2 60 news (fun r news'=>∃ o' tl,(∃ i t,r=.int i t∧tl=[])∧news'=tl++news2 o') :=
  Spec.use1 U fun _ hs ht=>add_ok (ht _ hx h1) (ht _ hdx h2) hls fun p hp=>(hs p hp).2
theorem add_cps {prog:Program} {w:World} {x dx ls n n2:Nat} {es:List DictEntry} {v:Value} {news:Led} {news2:Obj→Led} {A A₀:Around} {env:Env} {outer:List Env} {base h₀:Heap} {L:Addr} {p:Program} {loose:List Str} {mean:ExcName→Option Value} {mg mb:Str→Option Value} {m:Str→Option Value} {s:Shared} {Q E:Value→Shared→Prop}
    (F:Fr h₀ L s.heap m) (N:News h₀ L s.heap news) (C:Env0 w A A₀ env outer base h₀ L 2 60 p loose mean mg mb) (hx:(x,instObj 87 dx)∈news) (hdx:(dx,dictOf es n)∈news) (hls:getL (Str.ofString "scopes") es=some (some (.ref ls))) (U:∀ o',Upd ls (listOf #[] n2) o' news (news2 o')) (h1:x≠ls) (h2:dx≠ls)
    (hQ:∀ i t o' h' tk',Fr h₀ L h' m→News h₀ L h' (news2 o')→Q (.int i t) { s with heap:=h',toks:=tk' }):wpAny (model prog w) A (call (.ref (nat_lit 56)) [.ref x,v]) Q E s :=
  Spec.go F N C (add_use U hx hdx hls h1 h2) fun r h' tk' _ F' N' ⟨o',tl,⟨i,t,er,et⟩,e⟩=>by
    subst er et e
    exact hQ i t o' h' tk' F' N'
theorem scope_ok {prog:Program} {w:World} {A A₀:Around} {env:Env} {outer:List Env} {base h₀:Heap} {L:Addr} {p:Program} {loose:List Str} {mean:ExcName→Option Value} {mg mb:Str→Option Value} {m:Str→Option Value} {s:Shared} {Q E:Value→Shared→Prop} {data:Led} {x dx ls n n2:Nat} {es:List DictEntry} {t1 t2:Tok}
    (C:Env0 w A A₀ env outer base h₀ L 6 400 p loose mean mg mb) (F:Fr h₀ L s.heap m) (N:News h₀ L s.heap ((x,instObj 87 dx)::(dx,dictOf es n)::(ls,listOf #[] n2)::data)) (hls:getL (Str.ofString "scopes") es=some (some (.ref ls))) (hadd:getL (Str.ofString "add_scope") es=some none) (hz:es.length≤100) (hd:∀ p∈data,p.1≠ls) (h1:dx≠ls) (h2:x≠ls)
    (hQ:∀ (sc dsc:Nat) es1 n1 h' tk' t3,Fr h₀ L h' m→News h₀ L h' ((sc,instObj 1327 dsc)::(dsc,dictOf es1 n1)::(x,instObj 87 dx)::(dx,dictOf es n)::data)→getL (Str.ofString "design") es1=some (some (.ref x))→getL (Str.ofString "nettype") es1=some (some (.str (Str.ofString "wire") t3))→es1.length≤100→(∀ p∈(x,instObj 87 dx)::(dx,dictOf es n)::data,p.1<dsc)→dsc<sc→Q (.ref sc) { s with heap:=h',toks:=tk' }) :
    wpAny (model prog w) A (call (.ref (nat_lit 1327)) [.ref x,.str (Str.ofString "top") t1,.none,.str (Str.ofString "module") t2]) Q E s:=by
  obtain ⟨B,X,T,hA,hf,hk,hh,hd',hu⟩:=C
  refine call_cls F X N (by k_is) (by k_is) (by k_is) ?_
  intro sc dsc h' F' N' l1 l2
  have lm:=l1
  have e8:dsc≠ls:=led_ne l1 (by k_mem)
  have e9:sc≠ls:=led_ne (fun q hq=>Nat.lt_trans (l1 q hq) l2) (by k_mem)
  k_lt2 l2
  (refine' code_def (binds:=[(Str.ofString "self",.ref sc),(Str.ofString "design",.ref x),(Str.ofString "name",.str (Str.ofString "top") t1),(Str.ofString "parent",.none),(Str.ofString "kind",.str (Str.ofString "module") t2)]) (by k_asm) (by k_asm) (by k_asm) (by k_asm) (by k_asm) (by assumption) (by assumption) (by assumption) (by k_is) (by k_is) (by simp only [depth_under_make];omega) (by exact BindsTo.of_eq rfl) (by exact locs rfl) ?_ (by exact rfl) (by exact rfl) (by exact rfl) (by decide);k_whole)
  intro g' L' h' FG' F' N' B' X' T'
  clear F N B X T
  conv=>pattern (fBody _);whnf
  conv=>pattern (occs:=*) (fScope _);all_goals whnf
  dsimp only [List.reverse,List.reverseAux,List.length] at F' ⊢
  k_fold
  repeat' ((fail_if_success (with_reducible show wpAny _ _ (exec (Stmt.While _ _ _ _) _) _ _ _));(fail_if_success (with_reducible show wpAny _ _ (pyIter _) _ _ _));first|(k_unfold;(try dsimp only))|(k_end;wrow_close)|((with_reducible show wpAny _ _ (getMethod (Value.ref _) _ _) _ _ _);refine' method_inst ?k1 ?k2 ?k3 ?k4 ?k5 ?k6 ?k7 ?_;(case k1=>k_asm);(case k2=>k_asm);(case k3=>k_inst);(case k4=>k_is);(case k5=>k_is);(case k6=>k_is);(case k7=>assumption);k_whole)|((with_reducible show wpAny _ _ (call (Value.builtin "list.append") _) _ _ _);refine' append_K ?k1 ?k2 ?k3 ?_ ?z;(case k1=>k_asm);(case k2=>k_asm);(case k3=>k_upd);(case z=>((try simp only [List.size_toArray]);rw [sizeLine_eq];omega));intro h' F' N';(try k_sweep))|((with_reducible show wpAny _ _ (call (Value.ref (nat_lit 56)) _) _ _ _);refine add_cps (by k_asm) (by k_asm) (Env0.deeper (by assumption) (by assumption) (by assumption) (by assumption) (by exact rfl) (by exact rfl) (by assumption) (by simp only [depth_under_make];omega) (by simp only [units_under_make];omega)) (by k_mem) (by k_mem) (by assumption) (fun o9=>by first|k_upd|fail) (by assumption) (by assumption) ?_;intro i9 t9 o9 h9 tk9 F9 N9;(try k_sweep))|((with_reducible show wpAny _ _ (call (Value.ref (nat_lit 87)) _) _ _ _);refine design2 (Env0.mk B X T hA hf hk hh (by first|exact room hd' rfl|omega) (by first|exact room hu rfl|omega)) (by k_asm) (by k_asm) ?_;intro x9 dx9 ls9 es9 n9 n29 h9 tk9 F9 N9 hdes9 hls9 hadd9 hlt9 hx9 hls8;(try k_sweep))|((with_reducible show wpAny _ _ (call (Value.ref (nat_lit 1327)) _) _ _ _);refine' scope_ok ?C ?F ?N ?h1 ?h2 ?h3 ?h4 ?h5 ?h6 ?_;(case F=>k_asm);(case N=>k_asm);(case C=>exact (Env0.mk B X T hA hf hk hh (by first|exact room hd' rfl|omega) (by first|exact room hu rfl|omega)));(case h1=>assumption);(case h2=>assumption);(case h3=>exact hdes9.2);(case h4=>exact fun q hq=>Nat.ne_of_lt (Nat.lt_trans (hlt9 q hq) (Nat.lt_trans hx9 hls8)));(case h5=>omega);(case h6=>omega));intro sc9 dsc9 es19 n19 h9 tk9 t39 F9 N9 hg19 hg29 hz9 hlt8 hsc9;(try k_sweep)|((with_reducible show wpAny _ _ (getAttr (Value.ref _) _ _) _ _ _);refine' get_own ?k1 ?k2 ?k3 ?k4 ?k5 ?k6 ?k7 ?k8 ?k9 ?_;(case k1=>k_asm);(case k2=>k_asm);(case k3=>k_inst);(case k4=>k_is);(case k5=>k_is);(case k6=>k_is);(case k7=>k_is);(case k8=>assumption);(case k9=>k_handed);k_whole)|((with_reducible show wpAny _ _ (setAttr (Value.ref _) _ _) _ _ _);refine' set_put ?k1 ?k2 ?k3 ?k4 ?k5 ?k6 ?k7 ?k8 ?k9 ?k10 ?k13 ?k12 ?_;(case k1=>k_asm);(case k2=>k_asm);(case k3=>k_asm);(case k4=>k_inst);(case k5=>exact rfl);(case k6=>k_is);(case k7=>k_is);(case k8=>k_is);(case k9=>k_is);(case k10=>assumption);(case k13=>assumption);(case k12=>intro es9;k_upd);intro h' es9 hg9 ho9 hz9 F' N';(try k_sweep))|((with_reducible show wpAny _ _ (call (Value.builtin "len") [Value.ref _]) _ _ _);refine PyProof.Rows.len_list (News.isList (by k_asm) (by k_mem)) (by (simp only [List.size_toArray];omega)) ?_)|walk1|(dsimp only;walk1)|(leave1;(try dsimp only))|fail "no step")
  (show LeaveK _ _ _ _ _ _ _;refine leaveK_ (by k_asm) (by k_asm) ?_;intro kF kN)
  refine ⟨rfl,?_⟩
  refine' hQ _ _ _ _ _ _ _ kF (news_sub kN (List.forall_mem_cons.mpr ⟨?m1,List.forall_mem_cons.mpr ⟨?m2,List.forall_mem_cons.mpr ⟨?m3,List.forall_mem_cons.mpr ⟨?m4,?m5⟩⟩⟩⟩)) ?g1 ?g2 ?g3 ?g4 ?g5
  case m1=>k_mem
  case m2=>k_mem
  case g1=>exact rfl
  case g2=>exact rfl
  case m3=>k_mem
  case m4=>k_mem
  case m5=>((repeat' (first|with_reducible exact fun _ h=>h|with_reducible exact List.forall_mem_nil _|(with_reducible refine sub_cons ?_ ?_)|(with_reducible refine sub_app ?_ ?_)|(with_reducible refine sub_append ?_ ?_)|(intro q9 hq9;first|k_mem|(replace hq9:=hs _ hq9;k_mem))|k_mem));first|done|fail "left")
  case g3=>exact Nat.le_of_ble_eq_true rfl
  case g4=>exact List.forall_mem_cons.mpr ⟨lm _ (.head _),List.forall_mem_cons.mpr ⟨lm _ (.tail _ (.head _)),fun q hq=>lm q (.tail _ (.tail _ (.tail _ hq)))⟩⟩
  case g5=>exact l2
theorem design2 {prog:Program} {w:World} {A A₀:Around} {env:Env} {outer:List Env} {base h₀:Heap} {L:Addr} {p:Program} {loose:List Str} {mean:ExcName→Option Value} {mg mb:Str→Option Value} {m:Str→Option Value} {s:Shared} {Q E:Value→Shared→Prop} {data:Led}
    (C:Env0 w A A₀ env outer base h₀ L 4 200 p loose mean mg mb) (F:Fr h₀ L s.heap m) (N:News h₀ L s.heap data)
    (hQ:∀ (x dx ls:Nat) es n n2 h' tk',Fr h₀ L h' m→News h₀ L h' ((x,instObj 87 dx)::(dx,dictOf es n)::(ls,listOf #[] n2)::data)→desOk es→getL (Str.ofString "scopes") es=some (some (.ref ls))→getL (Str.ofString "add_scope") es=some none→(∀ p∈data,p.1<dx)→dx<x→x<ls→Q (.ref x) { s with heap:=h',toks:=tk' }) :
    wpAny (model prog w) A (call (.ref (nat_lit 87)) []) Q E s:=by
  obtain ⟨B,X,T,hA,hf,hk,hh,hd',hu⟩:=C
  refine call_cls F X N (by k_is) (by k_is) (by k_is) ?_
  intro x dx h' F' N' l1 l2
  k_lt2 l2
  (refine' code_def (binds:=[(Str.ofString "self",.ref x)]) (by k_asm) (by k_asm) (by k_asm) (by k_asm) (by k_asm) (by assumption) (by assumption) (by assumption) (by k_is) (by k_is) (by simp only [depth_under_make];omega) (by exact BindsTo.of_eq rfl) (by exact locs rfl) ?_ (by exact rfl) (by exact rfl) (by exact rfl) (by decide);k_whole)
  intro g' L' h' FG' F' N' B' X' T'
  clear F N B X T
  conv=>pattern (fBody _);whnf
  conv=>pattern (occs:=*) (fScope _);all_goals whnf
  dsimp only [List.reverse,List.reverseAux,List.length] at F' ⊢
  k_fold
  repeat' ((fail_if_success (with_reducible show wpAny _ _ (exec (Stmt.While _ _ _ _) _) _ _ _));(fail_if_success (with_reducible show wpAny _ _ (pyIter _) _ _ _));first|(k_unfold;(try dsimp only))|(k_end;wrow_close)|((with_reducible show wpAny _ _ (getMethod (Value.ref _) _ _) _ _ _);refine' method_inst ?k1 ?k2 ?k3 ?k4 ?k5 ?k6 ?k7 ?_;(case k1=>k_asm);(case k2=>k_asm);(case k3=>k_inst);(case k4=>k_is);(case k5=>k_is);(case k6=>k_is);(case k7=>assumption);k_whole)|((with_reducible show wpAny _ _ (call (Value.builtin "list.append") _) _ _ _);refine' append_K ?k1 ?k2 ?k3 ?_ ?z;(case k1=>k_asm);(case k2=>k_asm);(case k3=>k_upd);(case z=>((try simp only [List.size_toArray]);rw [sizeLine_eq];omega));intro h' F' N';(try k_sweep))|((with_reducible show wpAny _ _ (call (Value.ref (nat_lit 56)) _) _ _ _);refine add_cps (by k_asm) (by k_asm) (Env0.deeper (by assumption) (by assumption) (by assumption) (by assumption) (by exact rfl) (by exact rfl) (by assumption) (by simp only [depth_under_make];omega) (by simp only [units_under_make];omega)) (by k_mem) (by k_mem) (by assumption) (fun o9=>by first|k_upd|fail) (by assumption) (by assumption) ?_;intro i9 t9 o9 h9 tk9 F9 N9;(try k_sweep))|((with_reducible show wpAny _ _ (call (Value.ref (nat_lit 87)) _) _ _ _);refine design2 (Env0.mk B X T hA hf hk hh (by first|exact room hd' rfl|omega) (by first|exact room hu rfl|omega)) (by k_asm) (by k_asm) ?_;intro x9 dx9 ls9 es9 n9 n29 h9 tk9 F9 N9 hdes9 hls9 hadd9 hlt9 hx9 hls8;(try k_sweep))|((with_reducible show wpAny _ _ (call (Value.ref (nat_lit 1327)) _) _ _ _);refine' scope_ok ?C ?F ?N ?h1 ?h2 ?h3 ?h4 ?h5 ?h6 ?_;(case F=>k_asm);(case N=>k_asm);(case C=>exact (Env0.mk B X T hA hf hk hh (by first|exact room hd' rfl|omega) (by first|exact room hu rfl|omega)));(case h1=>assumption);(case h2=>assumption);(case h3=>exact hdes9.2);(case h4=>exact fun q hq=>Nat.ne_of_lt (Nat.lt_trans (hlt9 q hq) (Nat.lt_trans hx9 hls8)));(case h5=>omega);(case h6=>omega));intro sc9 dsc9 es19 n19 h9 tk9 t39 F9 N9 hg19 hg29 hz9 hlt8 hsc9;(try k_sweep)|((with_reducible show wpAny _ _ (getAttr (Value.ref _) _ _) _ _ _);refine' get_own ?k1 ?k2 ?k3 ?k4 ?k5 ?k6 ?k7 ?k8 ?k9 ?_;(case k1=>k_asm);(case k2=>k_asm);(case k3=>k_inst);(case k4=>k_is);(case k5=>k_is);(case k6=>k_is);(case k7=>k_is);(case k8=>assumption);(case k9=>k_handed);k_whole)|((with_reducible show wpAny _ _ (setAttr (Value.ref _) _ _) _ _ _);refine' set_put ?k1 ?k2 ?k3 ?k4 ?k5 ?k6 ?k7 ?k8 ?k9 ?k10 ?k13 ?k12 ?_;(case k1=>k_asm);(case k2=>k_asm);(case k3=>k_asm);(case k4=>k_inst);(case k5=>exact rfl);(case k6=>k_is);(case k7=>k_is);(case k8=>k_is);(case k9=>k_is);(case k10=>assumption);(case k13=>assumption);(case k12=>intro es9;k_upd);intro h' es9 hg9 ho9 hz9 F' N';(try k_sweep))|((with_reducible show wpAny _ _ (call (Value.builtin "len") [Value.ref _]) _ _ _);refine PyProof.Rows.len_list (News.isList (by k_asm) (by k_mem)) (by (simp only [List.size_toArray];omega)) ?_)|walk1|(dsimp only;walk1)|(leave1;(try dsimp only))|fail "no step")
  (show LeaveK _ _ _ _ _ _ _;refine leaveK_ (by k_asm) (by k_asm) ?_;intro kF kN)
  refine ⟨rfl,?_⟩
  refine' hQ _ _ _ _ _ _ _ _ kF (news_sub kN (List.forall_mem_cons.mpr ⟨?m1,List.forall_mem_cons.mpr ⟨?m2,List.forall_mem_cons.mpr ⟨?m3,?m4⟩⟩⟩)) ⟨⟨_,?g1⟩,?g2⟩ ?g3 ?g5 l1 l2 ?g4
  case m1=>k_mem
  case m2=>k_mem
  case g1=>exact rfl
  case g3=>exact rfl
  case g5=>exact rfl
  case m3=>k_mem
  case m4=>((repeat' (first|with_reducible exact fun _ h=>h|with_reducible exact List.forall_mem_nil _|(with_reducible refine sub_cons ?_ ?_)|(with_reducible refine sub_app ?_ ?_)|(with_reducible refine sub_append ?_ ?_)|(intro q9 hq9;first|k_mem|(replace hq9:=hs _ hq9;k_mem))|k_mem));first|done|fail "left")
  case g2=>exact Nat.le_of_ble_eq_true rfl
  case g4=>exact led_lt (by assumption) (by k_mem)
theorem law_s5 {prog:Program} {w:World} {A A₀:Around} {base h₀:Heap} {L fa cd:Addr} {p:Program} {loose:List Str} {mean:ExcName→Option Value} {mg mb:Str→Option Value} {m:Str→Option Value} {s:Shared} {Q:Flow→Shared→Prop} {E:Value→Shared→Prop} {l:Led}
    (C:Env0 w A A₀ (lawE L fa cd) [] base h₀ L 100 2000 p loose mean mg mb) (F:Fr h₀ L s.heap m) (N:News h₀ L s.heap l)
    (hQ:∀ (sc dsc x dx:Nat) es es1 n n1 t3 h' tk',Fr h₀ L h' (fun z=>if z=Str.ofString "scope" then some (.ref sc) else m z)→News h₀ L h' ((sc,instObj 1327 dsc)::(dsc,dictOf es1 n1)::(x,instObj 87 dx)::(dx,dictOf es n)::l)→desOk es→getL (Str.ofString "design") es1=some (some (.ref x))→getL (Str.ofString "nettype") es1=some (some (.str (Str.ofString "wire") t3))→es1.length≤100→(∀ p∈l,p.1<dx)→dx<x→x<dsc→dsc<sc→Q .next { s with heap:=h',toks:=tk' }) :
    wpAny (model prog w) A (exec (lawS 5) (lawE L fa cd)) Q E s:=by
  obtain ⟨B,X,T,hA,hf,hk,hh,hd',hu⟩:=C
  (unfold lawS lawE;(conv=>pattern (Option.getD _ _);whnf);(conv=>pattern (occs:=*) (fScope _);all_goals whnf);(try k_fold))
  repeat' ((fail_if_success (with_reducible show wpAny _ _ (exec (Stmt.While _ _ _ _) _) _ _ _));(fail_if_success (with_reducible show wpAny _ _ (pyIter _) _ _ _));first|(k_unfold;(try dsimp only))|(k_end;wrow_close)|((with_reducible show wpAny _ _ (getMethod (Value.ref _) _ _) _ _ _);refine' method_inst ?k1 ?k2 ?k3 ?k4 ?k5 ?k6 ?k7 ?_;(case k1=>k_asm);(case k2=>k_asm);(case k3=>k_inst);(case k4=>k_is);(case k5=>k_is);(case k6=>k_is);(case k7=>assumption);k_whole)|((with_reducible show wpAny _ _ (call (Value.builtin "list.append") _) _ _ _);refine' append_K ?k1 ?k2 ?k3 ?_ ?z;(case k1=>k_asm);(case k2=>k_asm);(case k3=>k_upd);(case z=>((try simp only [List.size_toArray]);rw [sizeLine_eq];omega));intro h' F' N';(try k_sweep))|((with_reducible show wpAny _ _ (call (Value.ref (nat_lit 56)) _) _ _ _);refine add_cps (by k_asm) (by k_asm) (Env0.deeper (by assumption) (by assumption) (by assumption) (by assumption) (by exact rfl) (by exact rfl) (by assumption) (by simp only [depth_under_make];omega) (by simp only [units_under_make];omega)) (by k_mem) (by k_mem) (by assumption) (fun o9=>by first|k_upd|fail) (by assumption) (by assumption) ?_;intro i9 t9 o9 h9 tk9 F9 N9;(try k_sweep))|((with_reducible show wpAny _ _ (call (Value.ref (nat_lit 87)) _) _ _ _);refine design2 (Env0.mk B X T hA hf hk hh (by first|exact room hd' rfl|omega) (by first|exact room hu rfl|omega)) (by k_asm) (by k_asm) ?_;intro x9 dx9 ls9 es9 n9 n29 h9 tk9 F9 N9 hdes9 hls9 hadd9 hlt9 hx9 hls8;(try k_sweep))|((with_reducible show wpAny _ _ (call (Value.ref (nat_lit 1327)) _) _ _ _);refine' scope_ok ?C ?F ?N ?h1 ?h2 ?h3 ?h4 ?h5 ?h6 ?_;(case F=>k_asm);(case N=>k_asm);(case C=>exact (Env0.mk B X T hA hf hk hh (by first|exact room hd' rfl|omega) (by first|exact room hu rfl|omega)));(case h1=>assumption);(case h2=>assumption);(case h3=>exact hdes9.2);(case h4=>exact fun q hq=>Nat.ne_of_lt (Nat.lt_trans (hlt9 q hq) (Nat.lt_trans hx9 hls8)));(case h5=>omega);(case h6=>omega));intro sc9 dsc9 es19 n19 h9 tk9 t39 F9 N9 hg19 hg29 hz9 hlt8 hsc9;(try k_sweep)|((with_reducible show wpAny _ _ (getAttr (Value.ref _) _ _) _ _ _);refine' get_own ?k1 ?k2 ?k3 ?k4 ?k5 ?k6 ?k7 ?k8 ?k9 ?_;(case k1=>k_asm);(case k2=>k_asm);(case k3=>k_inst);(case k4=>k_is);(case k5=>k_is);(case k6=>k_is);(case k7=>k_is);(case k8=>assumption);(case k9=>k_handed);k_whole)|((with_reducible show wpAny _ _ (setAttr (Value.ref _) _ _) _ _ _);refine' set_put ?k1 ?k2 ?k3 ?k4 ?k5 ?k6 ?k7 ?k8 ?k9 ?k10 ?k13 ?k12 ?_;(case k1=>k_asm);(case k2=>k_asm);(case k3=>k_asm);(case k4=>k_inst);(case k5=>exact rfl);(case k6=>k_is);(case k7=>k_is);(case k8=>k_is);(case k9=>k_is);(case k10=>assumption);(case k13=>assumption);(case k12=>intro es9;k_upd);intro h' es9 hg9 ho9 hz9 F' N';(try k_sweep))|((with_reducible show wpAny _ _ (call (Value.builtin "len") [Value.ref _]) _ _ _);refine PyProof.Rows.len_list (News.isList (by k_asm) (by k_mem)) (by (simp only [List.size_toArray];omega)) ?_)|walk1|(dsimp only;walk1)|(leave1;(try dsimp only))|fail "no step")
  rename_i h8 F8 N8
  exact hQ _ _ _ _ _ _ _ _ _ _ _ F8 N8 hdes9 hg19 hg29 hz9 hlt9 hx9 (hlt8 _ (.head _)) hsc9
end
section
open PySem PySem.W PyProof.Rows PySem.Calls PyProof.Rows.LCg
theorem pick_nt {a b c d:Str} {ta tb tc td:Tok} {v:Value} (hv:v∈[Value.str a ta,Value.str b tb,Value.str c tc,Value.str d td]):∃ x t,(x=a∨x=b∨x=c∨x=d)∧v=.str x t:=by
  simp only [List.mem_cons,List.not_mem_nil,or_false] at hv
  rcases hv with rfl|rfl|rfl|rfl
  · exact ⟨_,_,.inl rfl,rfl⟩
  · exact ⟨_,_,.inr (.inl rfl),rfl⟩
  · exact ⟨_,_,.inr (.inr (.inl rfl)),rfl⟩
  · exact ⟨_,_,.inr (.inr (.inr rfl)),rfl⟩
theorem law_s6 {prog:Program} {w:World} {A A₀:Around} {base h₀:Heap} {L fa cd:Addr} {p:Program} {loose:List Str} {mean:ExcName→Option Value} {mg mb:Str→Option Value} {m:Str→Option Value} {s:Shared} {Q:Flow→Shared→Prop} {E:Value→Shared→Prop} {hd dg il n1 n2 nI sc dsc x dx n nd:Nat} {us:List Value} {ds:List Int} {ps:List (Value × It)} {k:Int} {tk t3:Tok} {data:Led} {es es1:List DictEntry}
    (C:Env0 w A A₀ (lawE L fa cd) [] base h₀ L 100 2000 p loose mean mg mb) (F:Fr h₀ L s.heap m) (D:LD L hd dg il n2 nI us ds ps data) (hk0:0≤k) (N:News h₀ L s.heap ((sc,instObj 1327 dsc)::(dsc,dictOf es1 nd)::(x,instObj 87 dx)::(dx,dictOf es n)::(hd,handO dg k tk n1)::data)) (hm:m (Str.ofString "scope")=some (.ref sc))
    (hg1:getL (Str.ofString "design") es1=some (some (.ref x))) (hg2:getL (Str.ofString "nettype") es1=some (some (.str (Str.ofString "wire") t3))) (hz:es1.length≤100) (hlt:∀ p∈(hd,handO dg k tk n1)::data,p.1<dx) (h1:dx<x) (h2:x<dsc) (h3:dsc<sc)
    (hQ:∀ es1' nt h' tk',ntOk nt→Sco ((sc,instObj 1327 dsc)::(dsc,dictOf es1' nd)::(x,instObj 87 dx)::data) sc dsc x dx es1' nd nt→Fr h₀ L h' m→News h₀ L h' ((dx,dictOf es n)::(sc,instObj 1327 dsc)::(dsc,dictOf es1' nd)::(x,instObj 87 dx)::data)→Q .next { s with heap:=h',toks:=tk' }) :
    wpAny (model prog w) A (exec (lawS 6) (lawE L fa cd)) Q E s:=by
  obtain ⟨B,X,T,hA,hf,hk,hh,hd',hu⟩:=C
  obtain ⟨hus,hds,dgm,⟨oc,cm,hoc'⟩,ilm,its,len,off,hne⟩:=D
  have hhd:hd<dx:=hlt _ (.head _)
  have hdx:∀ p∈data,p.1≠dx:=fun q hq=>Nat.ne_of_lt (hlt q (.tail _ hq))
  have hdsc:∀ p∈data,p.1≠dsc:=fun q hq=>Nat.ne_of_lt (Nat.lt_trans (hlt q (.tail _ hq)) (Nat.lt_trans h1 h2))
  have hlen':=hus.length
  replace F:=fr_name F hm
  (unfold lawS lawE;(conv=>pattern (Option.getD _ _);whnf);(conv=>pattern (occs:=*) (fScope _);all_goals whnf);(try k_fold))
  repeat' ((fail_if_success (with_reducible show wpAny _ _ (exec (Stmt.While _ _ _ _) _) _ _ _));(fail_if_success (with_reducible show wpAny _ _ (pyIter _) _ _ _));first|(k_unfold;(try dsimp only))|(k_end;wrow_close)|((with_reducible show wpAny _ _ (subscriptTail (PySem.Expr.List _ _) _ (Value.ref _) (Value.int _ _)) _ _ _);refine pick_list (by k_asm) (by k_mem) (by omega) (by (simp only [List.length_cons,List.length_nil];omega)) (by (simp only [List.length_cons,List.length_nil];omega)) ?_ (by with_unfolding_all rfl);intro v9 hv9)|((with_reducible show wpAny _ _ (call (Value.ref (nat_lit 1345)) _) _ _ _);refine next_use (by k_asm) (by k_asm) (Env0.mk B X T hA hf hk hh (by first|exact room hd' rfl|omega) (by first|exact room hu rfl|omega)) (fun k9 t9=>by first|k_upd|fail) (by assumption) (by k_mem) (by omega) (by omega) (by omega) (by assumption) ?_;intro h9 tk9 i9 ti9 k9 t9 F' N' hk9 hi0 hi1;(try k_sweep);(try dsimp only))|((with_reducible show wpAny _ _ (setAttr (Value.ref _) _ _) _ _ _);refine' set_put ?k1 ?k2 ?k3 ?k4 ?k5 ?k6 ?k7 ?k8 ?k9 ?k10 ?k13 ?k12 ?_;(case k1=>k_asm);(case k2=>k_asm);(case k3=>k_asm);(case k4=>k_inst);(case k5=>exact rfl);(case k6=>k_is);(case k7=>k_is);(case k8=>k_is);(case k9=>k_is);(case k10=>assumption);(case k13=>assumption);(case k12=>intro es9;k_upd);intro h' es9 hg9 ho9 hz9 F' N';(try k_sweep))|walk1|(dsimp only;walk1)|(leave1;(try dsimp only))|fail "no step")
  (with_reducible rename Fr _ _ _ _=>F8)
  (with_reducible rename News _ _ _ _=>N8)
  simp only [ite_name hm] at F8
  obtain ⟨nt,t,hnt,rfl⟩:=pick_nt hv9
  refine hQ es9 nt _ _ hnt ⟨.head _,.tail _ (.head _),.tail _ (.tail _ (.head _)),(ho9 _ (by decide)).trans hg1,⟨t,hg9⟩,?_⟩ F8 (news_sub N8 (by ((repeat' (first|with_reducible exact fun _ h=>h|with_reducible exact List.forall_mem_nil _|(with_reducible refine sub_cons ?_ ?_)|(with_reducible refine sub_app ?_ ?_)|(with_reducible refine sub_append ?_ ?_)|(intro q9 hq9;first|k_mem|(replace hq9:=hs _ hq9;k_mem))|k_mem));first|done|fail "left")))
  refine List.forall_mem_cons.mpr ⟨Ne.symm (Nat.ne_of_lt (by omega)),List.forall_mem_cons.mpr ⟨Ne.symm (Nat.ne_of_lt (by omega)),List.forall_mem_cons.mpr ⟨Ne.symm (Nat.ne_of_lt h1),hdx⟩⟩⟩
end
section
open PySem PySem.W PyProof.Rows PySem.Calls PyProof.Rows.LCg
theorem law_s7 {prog:Program} {w:World} {A A₀:Around} {base h₀:Heap} {L fa cd:Addr} {p:Program} {loose:List Str} {mean:ExcName→Option Value} {mg mb:Str→Option Value} {m:Str→Option Value} {s:Shared} {Q:Flow→Shared→Prop} {E:Value→Shared→Prop} {l:Led}
    (C:Env0 w A A₀ (lawE L fa cd) [] base h₀ L 100 2000 p loose mean mg mb) (F:Fr h₀ L s.heap m) (N:News h₀ L s.heap l)
    (hQ:∀ (pd:Nat) po h' tk',Fr h₀ L h' (fun z=>if z=Str.ofString "ports" then some (.ref pd) else m z)→News h₀ L h' ((pd,po)::l)→(∀ p∈l,p.1≠pd)→po.IsDictOf (PySem.strKind prog w) []→Q .next { s with heap:=h',toks:=tk' }) :
    wpAny (model prog w) A (exec (lawS 7) (lawE L fa cd)) Q E s:=by
  obtain ⟨B,X,T,hA,hf,hk,hh,hd',hu⟩:=C
  (unfold lawS lawE;(conv=>pattern (Option.getD _ _);whnf);(conv=>pattern (occs:=*) (fScope _);all_goals whnf);(try k_fold))
  repeat' ((fail_if_success (with_reducible show wpAny _ _ (exec (Stmt.While _ _ _ _) _) _ _ _));(fail_if_success (with_reducible show wpAny _ _ (pyIter _) _ _ _));first|(k_unfold;(try dsimp only))|(k_end;wrow_close)|fail|walk1|(dsimp only;walk1)|(leave1;(try dsimp only))|fail "no step")
  rename_i d8 h7 o8 l8 lo8 hs8 fs8 hi8 fi8 h8 F8 N8
  exact hQ _ _ _ _ F8 N8 (fun q hq=>Nat.ne_of_lt (l8 q hq)) hs8
theorem law_s8 {prog:Program} {w:World} {A A₀:Around} {base h₀:Heap} {L fa cd:Addr} {p:Program} {loose:List Str} {mean:ExcName→Option Value} {mg mb:Str→Option Value} {m:Str→Option Value} {s:Shared} {Q:Flow→Shared→Prop} {E:Value→Shared→Prop} {l:Led}
    (C:Env0 w A A₀ (lawE L fa cd) [] base h₀ L 100 2000 p loose mean mg mb) (F:Fr h₀ L s.heap m) (N:News h₀ L s.heap l)
    (hQ:∀ (pd:Nat) po h' tk',Fr h₀ L h' (fun z=>if z=Str.ofString "partners" then some (.ref pd) else m z)→News h₀ L h' ((pd,po)::l)→(∀ p∈l,p.1≠pd)→po.IsDictOf (PySem.strKind prog w) []→Q .next { s with heap:=h',toks:=tk' }) :
    wpAny (model prog w) A (exec (lawS 8) (lawE L fa cd)) Q E s:=by
  obtain ⟨B,X,T,hA,hf,hk,hh,hd',hu⟩:=C
  (unfold lawS lawE;(conv=>pattern (Option.getD _ _);whnf);(conv=>pattern (occs:=*) (fScope _);all_goals whnf);(try k_fold))
  repeat' ((fail_if_success (with_reducible show wpAny _ _ (exec (Stmt.While _ _ _ _) _) _ _ _));(fail_if_success (with_reducible show wpAny _ _ (pyIter _) _ _ _));first|(k_unfold;(try dsimp only))|(k_end;wrow_close)|fail|walk1|(dsimp only;walk1)|(leave1;(try dsimp only))|fail "no step")
  rename_i d8 h7 o8 l8 lo8 hs8 fs8 hi8 fi8 h8 F8 N8
  exact hQ _ _ _ _ F8 N8 (fun q hq=>Nat.ne_of_lt (l8 q hq)) hs8
theorem law_s13 {prog:Program} {w:World} {A A₀:Around} {base h₀:Heap} {L fa cd:Addr} {p:Program} {loose:List Str} {mean:ExcName→Option Value} {mg mb:Str→Option Value} {m:Str→Option Value} {s:Shared} {Q:Flow→Shared→Prop} {E:Value→Shared→Prop}
    (C:Env0 w A A₀ (lawE L fa cd) [] base h₀ L 100 2000 p loose mean mg mb) (F:Fr h₀ L s.heap m) (hQ:Q (.ret (.bool true)) s) :
    wpAny (model prog w) A (exec (lawS 13) (lawE L fa cd)) Q E s:=by
  obtain ⟨B,X,T,hA,hf,hk,hh,hd',hu⟩:=C
  (unfold lawS lawE;(conv=>pattern (Option.getD _ _);whnf);(conv=>pattern (occs:=*) (fScope _);all_goals whnf);(try k_fold))
  repeat' ((fail_if_success (with_reducible show wpAny _ _ (exec (Stmt.While _ _ _ _) _) _ _ _));(fail_if_success (with_reducible show wpAny _ _ (pyIter _) _ _ _));first|(k_unfold;(try dsimp only))|(k_end;wrow_close)|fail|walk1|(dsimp only;walk1)|(leave1;(try dsimp only))|fail "no step")
  exact hQ
end
section
open PySem PySem.W PyProof.Rows PySem.Calls PyProof.Rows.LCg
theorem stored_len (kvs:List (Str × Value)) (k:Str) (v:Value):(stored kvs k v).length≤kvs.length+1:=by
  unfold stored
  split <;> simp
theorem pkv_len:∀ (n:Nat) (ps:List (Value × It)),ps.length=n→(pkv ps).length≤ps.length
  | n,ps,hn=>by
    rcases nil_snoc ps with rfl|⟨r,p,rfl⟩
    · exact Nat.le_refl _
    · have hlt:r.length<n:=by simp at hn;omega
      have ih:=pkv_len r.length r rfl
      rw [pkv_snoc]
      unfold stP
      split
      · have:=stored_len (pkv r) (nameOf p.2) p.1
        simp;omega
      · simp;omega
termination_by n=>n
theorem take_next {ps:List (Value × It)} {i:Nat} {p:Value × It} (h:ps[i]?=some p):pkv (ps.take (i+1))=stP (pkv (ps.take i)) p:=by
  rw [List.take_add_one,h]
  exact pkv_snoc _ _
theorem law_s9 {prog:Program} {w:World} {A A₀:Around} {base h₀:Heap} {L fa cd:Addr} {p:Program} {loose:List Str} {mean:ExcName→Option Value} {mg mb:Str→Option Value} {m:Str→Option Value} {s:Shared} {Q:Flow→Shared→Prop} {E:Value→Shared→Prop} {l data:Led} {pd il nI:Nat} {po:Obj} {ps:List (Value × It)}
    (C:Env0 w A A₀ (lawE L fa cd) [] base h₀ L 100 2000 p loose mean mg mb) (F:Fr h₀ L s.heap m) (hE:PassesOwn (model prog w) A (lawE L fa cd) E) (N:News h₀ L s.heap ((pd,po)::l)) (hpo:po.IsDictOf (PySem.strKind prog w) []) (hoff:∀ p∈l,p.1≠pd) (hil:(il,listOf (ps.map (·.1)).toArray nI)∈l) (hI:ItsIn data ps) (hs:∀ p∈data,p∈l) (hz:ps.length≤8) (hm1:m (Str.ofString "items")=some (.ref il)) (hm2:m (Str.ofString "ports")=some (.ref pd))
    (hQ:∀ po m' h' tk',Fr h₀ L h' m'→(∀ y,y≠Str.ofString "item"→m' y=m y)→News h₀ L h' ((pd,po)::l)→po.IsDictOf (PySem.strKind prog w) (pkv ps)→Q .next { s with heap:=h',toks:=tk' }) :
    wpAny (model prog w) A (exec (lawS 9) (lawE L fa cd)) Q E s:=by
  obtain ⟨B,X,T,hA,hf,hk,hh,hd',hu⟩:=C
  replace F:=fr_name F hm1
  simp only [ite_name hm1] at F
  have F0:=fr_name F hm1
  clear F
  (unfold lawS lawE;(conv=>pattern (Option.getD _ _);whnf);(conv=>pattern (occs:=*) (fScope _);all_goals whnf);(try k_fold))
  repeat' ((fail_if_success (with_reducible show wpAny _ _ (exec (Stmt.While _ _ _ _) _) _ _ _));(fail_if_success (with_reducible show wpAny _ _ (pyIter _) _ _ _));first|(k_unfold;(try dsimp only))|(k_end;wrow_close)|((with_reducible show wpAny _ _ (exec (Stmt.For (PySem.Expr.Name _ _) _ _ [] _) _) _ _ _);(with_reducible rename Fr _ _ _ _=>kF9);refine For_invVF kF9 (by rfl) (by rfl) ?_ (by intro _;with_unfolding_all rfl) (by assumption))|((with_reducible show wpAny _ _ (setItem (Value.ref _) (Value.str _ _) _) _ _ _);refine set_D (by k_asm) (by k_asm) (fun o9=>by first|k_upd|fail) (by assumption) (by omega) ?_;intro h9 o9 F9 N9 hd9;(try simp only [List.append_eq] at N9);(try k_sweep))|((with_reducible show wpAny _ _ (subscriptTail _ _ (Value.ref _) (Value.int _ _)) _ _ _);first|(refine item_litK (News.isList (by k_asm) (by k_mem)) (by decide) (by decide) (by exact rfl) ?_ (by with_unfolding_all rfl))|(refine item_tupleT (News.isTup (by k_asm) (by k_mem)) (by decide) (by decide) (by exact rfl) (by exact rfl) ?_ (by with_unfolding_all rfl)))|walk1|(dsimp only;walk1)|(leave1;(try dsimp only))|fail "no step")
  simp only [ite_name hm1] at kF9
  refine kdl_iter (fun i m' nx=>∃ o,nx=(pd,o)::l∧o.IsDictOf (PySem.strKind prog w) (pkv (ps.take i))∧∀ y,y≠Str.ofString "item"→m' y=m y) hh (.tail _ hil) kF9 N ⟨po,rfl,hpo,fun _ _=>rfl⟩ ?_ ?_
  · rintro i v m₁ nx h4 tk4 own hv hoff9 _ ⟨o,rfl,hd,hmm⟩ F9 N9
    have hi:i<ps.length:=by simpa using (List.getElem?_eq_some_iff.mp hv).1
    obtain ⟨pv,hpv⟩:∃ pv,ps[i]?=some pv:=⟨ps[i],List.getElem?_eq_getElem hi⟩
    obtain ⟨v',it⟩:=pv
    have hv':v=v':=by rw [List.getElem?_map,hpv] at hv;exact (Option.some.inj hv).symm
    subst hv'
    obtain ⟨hit,hok⟩:=hI _ (List.mem_of_getElem? hpv)
    have e1:=(hmm _ (by decide)).trans hm1
    have e2:=(hmm _ (by decide)).trans hm2
    have F:=fr_name (x:=Str.ofString "item") (fr_name (x:=Str.ofString "ports") F9 ((if_neg (by decide)).trans e2)) rfl
    clear F9
    have hkl:(pkv (ps.take i)).length≤100:=by have:=pkv_len _ (ps.take i) rfl;have:=List.length_take_le i ps;omega
    have hnx:=take_next hpv
    have hfin:∀ y,y≠Str.ofString "item"→(if y=Str.ofString "item" then some v else if y=Str.ofString "ports" then some (Value.ref pd) else if y=Str.ofString "item" then some v else m₁ y)=m y:=fun y hy=>by
      rw [if_neg hy,if_neg hy]
      by_cases e:y=Str.ofString "ports"
      · rw [if_pos e,e,hm2]
      · rw [if_neg e,hmm y hy]
    cases it with
    | port i5 dir sg b nm =>
      obtain ⟨a5,n5,t50,t51,t52,t53,vb,rfl,hm,hb⟩:=port_at hit
      have hm:=hs _ hm
      repeat' ((fail_if_success (with_reducible show wpAny _ _ (exec (Stmt.While _ _ _ _) _) _ _ _));(fail_if_success (with_reducible show wpAny _ _ (pyIter _) _ _ _));first|(k_unfold;(try dsimp only))|(k_end;wrow_close)|((with_reducible show wpAny _ _ (exec (Stmt.For (PySem.Expr.Name _ _) _ _ [] _) _) _ _ _);(with_reducible rename Fr _ _ _ _=>kF9);refine For_invVF kF9 (by rfl) (by rfl) ?_ (by intro _;with_unfolding_all rfl) (by assumption))|((with_reducible show wpAny _ _ (setItem (Value.ref _) (Value.str _ _) _) _ _ _);refine set_D (by k_asm) (by k_asm) (fun o9=>by first|k_upd|fail) (by assumption) (by omega) ?_;intro h9 o9 F9 N9 hd9;(try simp only [List.append_eq] at N9);(try k_sweep))|((with_reducible show wpAny _ _ (subscriptTail _ _ (Value.ref _) (Value.int _ _)) _ _ _);first|(refine item_litK (News.isList (by k_asm) (by k_mem)) (by decide) (by decide) (by exact rfl) ?_ (by with_unfolding_all rfl))|(refine item_tupleT (News.isTup (by k_asm) (by k_mem)) (by decide) (by decide) (by exact rfl) (by exact rfl) ?_ (by with_unfolding_all rfl)))|walk1|(dsimp only;walk1)|(leave1;(try dsimp only))|fail "no step")
      have hdn:o9.IsDictOf (PySem.strKind prog w) (pkv (ps.take (i+1))):=by rw [hnx];exact hd9
      ((with_reducible rename News _ _ _ _=>N5);(with_reducible rename Fr _ _ _ _=>F5);refine InvEndG.intro F5 N5 ⟨.tail _ hil,_,rfl,hdn,hfin⟩ hoff9 (by ((repeat' (first|with_reducible exact fun _ h=>h|with_reducible exact List.forall_mem_nil _|(with_reducible refine sub_cons ?_ ?_)|(with_reducible refine sub_app ?_ ?_)|(with_reducible refine sub_append ?_ ?_)|(intro q9 hq9;first|k_mem|(replace hq9:=hs _ hq9;k_mem))|k_mem));first|done|fail "left")) (by ((repeat' (first|with_reducible exact fun _ h=>h|with_reducible exact List.forall_mem_nil _|(with_reducible refine sub_cons ?_ ?_)|(with_reducible refine sub_app ?_ ?_)|(with_reducible refine sub_append ?_ ?_)|(intro q9 hq9;first|k_mem|(replace hq9:=hs _ hq9;k_mem))|k_mem));first|done|fail "left")))
    | par sg b nm =>
      obtain ⟨a5,n5,t50,t51,t52,t53,vb,rfl,hm,hb⟩:=par_at hit
      have hm:=hs _ hm
      repeat' ((fail_if_success (with_reducible show wpAny _ _ (exec (Stmt.While _ _ _ _) _) _ _ _));(fail_if_success (with_reducible show wpAny _ _ (pyIter _) _ _ _));first|(k_unfold;(try dsimp only))|(k_end;wrow_close)|((with_reducible show wpAny _ _ (exec (Stmt.For (PySem.Expr.Name _ _) _ _ [] _) _) _ _ _);(with_reducible rename Fr _ _ _ _=>kF9);refine For_invVF kF9 (by rfl) (by rfl) ?_ (by intro _;with_unfolding_all rfl) (by assumption))|((with_reducible show wpAny _ _ (setItem (Value.ref _) (Value.str _ _) _) _ _ _);refine set_D (by k_asm) (by k_asm) (fun o9=>by first|k_upd|fail) (by assumption) (by omega) ?_;intro h9 o9 F9 N9 hd9;(try simp only [List.append_eq] at N9);(try k_sweep))|((with_reducible show wpAny _ _ (subscriptTail _ _ (Value.ref _) (Value.int _ _)) _ _ _);first|(refine item_litK (News.isList (by k_asm) (by k_mem)) (by decide) (by decide) (by exact rfl) ?_ (by with_unfolding_all rfl))|(refine item_tupleT (News.isTup (by k_asm) (by k_mem)) (by decide) (by decide) (by exact rfl) (by exact rfl) ?_ (by with_unfolding_all rfl)))|walk1|(dsimp only;walk1)|(leave1;(try dsimp only))|fail "no step")
      have hdn:o.IsDictOf (PySem.strKind prog w) (pkv (ps.take (i+1))):=by rw [hnx];exact hd
      ((with_reducible rename News _ _ _ _=>N5);(with_reducible rename Fr _ _ _ _=>F5);refine InvEndG.intro F5 N5 ⟨.tail _ hil,_,rfl,hdn,hfin⟩ hoff9 (by ((repeat' (first|with_reducible exact fun _ h=>h|with_reducible exact List.forall_mem_nil _|(with_reducible refine sub_cons ?_ ?_)|(with_reducible refine sub_app ?_ ?_)|(with_reducible refine sub_append ?_ ?_)|(intro q9 hq9;first|k_mem|(replace hq9:=hs _ hq9;k_mem))|k_mem));first|done|fail "left")) (by ((repeat' (first|with_reducible exact fun _ h=>h|with_reducible exact List.forall_mem_nil _|(with_reducible refine sub_cons ?_ ?_)|(with_reducible refine sub_app ?_ ?_)|(with_reducible refine sub_append ?_ ?_)|(intro q9 hq9;first|k_mem|(replace hq9:=hs _ hq9;k_mem))|k_mem));first|done|fail "left")))
    | net kd sg b nm arr =>
      obtain ⟨a5,n5,t50,t51,t52,t53,vb,va,rfl,hm,hb,ha⟩:=net_at hit
      have hm:=hs _ hm
      repeat' ((fail_if_success (with_reducible show wpAny _ _ (exec (Stmt.While _ _ _ _) _) _ _ _));(fail_if_success (with_reducible show wpAny _ _ (pyIter _) _ _ _));first|(k_unfold;(try dsimp only))|(k_end;wrow_close)|((with_reducible show wpAny _ _ (exec (Stmt.For (PySem.Expr.Name _ _) _ _ [] _) _) _ _ _);(with_reducible rename Fr _ _ _ _=>kF9);refine For_invVF kF9 (by rfl) (by rfl) ?_ (by intro _;with_unfolding_all rfl) (by assumption))|((with_reducible show wpAny _ _ (setItem (Value.ref _) (Value.str _ _) _) _ _ _);refine set_D (by k_asm) (by k_asm) (fun o9=>by first|k_upd|fail) (by assumption) (by omega) ?_;intro h9 o9 F9 N9 hd9;(try simp only [List.append_eq] at N9);(try k_sweep))|((with_reducible show wpAny _ _ (subscriptTail _ _ (Value.ref _) (Value.int _ _)) _ _ _);first|(refine item_litK (News.isList (by k_asm) (by k_mem)) (by decide) (by decide) (by exact rfl) ?_ (by with_unfolding_all rfl))|(refine item_tupleT (News.isTup (by k_asm) (by k_mem)) (by decide) (by decide) (by exact rfl) (by exact rfl) ?_ (by with_unfolding_all rfl)))|walk1|(dsimp only;walk1)|(leave1;(try dsimp only))|fail "no step")
      have hdn:o.IsDictOf (PySem.strKind prog w) (pkv (ps.take (i+1))):=by rw [hnx];exact hd
      ((with_reducible rename News _ _ _ _=>N5);(with_reducible rename Fr _ _ _ _=>F5);refine InvEndG.intro F5 N5 ⟨.tail _ hil,_,rfl,hdn,hfin⟩ hoff9 (by ((repeat' (first|with_reducible exact fun _ h=>h|with_reducible exact List.forall_mem_nil _|(with_reducible refine sub_cons ?_ ?_)|(with_reducible refine sub_app ?_ ?_)|(with_reducible refine sub_append ?_ ?_)|(intro q9 hq9;first|k_mem|(replace hq9:=hs _ hq9;k_mem))|k_mem));first|done|fail "left")) (by ((repeat' (first|with_reducible exact fun _ h=>h|with_reducible exact List.forall_mem_nil _|(with_reducible refine sub_cons ?_ ?_)|(with_reducible refine sub_app ?_ ?_)|(with_reducible refine sub_append ?_ ?_)|(intro q9 hq9;first|k_mem|(replace hq9:=hs _ hq9;k_mem))|k_mem));first|done|fail "left")))
    | var kd sg b nm arr =>
      obtain ⟨a5,n5,t50,t51,t52,t53,vb,va,rfl,hm,hb,ha⟩:=var_at hit
      have hm:=hs _ hm
      repeat' ((fail_if_success (with_reducible show wpAny _ _ (exec (Stmt.While _ _ _ _) _) _ _ _));(fail_if_success (with_reducible show wpAny _ _ (pyIter _) _ _ _));first|(k_unfold;(try dsimp only))|(k_end;wrow_close)|((with_reducible show wpAny _ _ (exec (Stmt.For (PySem.Expr.Name _ _) _ _ [] _) _) _ _ _);(with_reducible rename Fr _ _ _ _=>kF9);refine For_invVF kF9 (by rfl) (by rfl) ?_ (by intro _;with_unfolding_all rfl) (by assumption))|((with_reducible show wpAny _ _ (setItem (Value.ref _) (Value.str _ _) _) _ _ _);refine set_D (by k_asm) (by k_asm) (fun o9=>by first|k_upd|fail) (by assumption) (by omega) ?_;intro h9 o9 F9 N9 hd9;(try simp only [List.append_eq] at N9);(try k_sweep))|((with_reducible show wpAny _ _ (subscriptTail _ _ (Value.ref _) (Value.int _ _)) _ _ _);first|(refine item_litK (News.isList (by k_asm) (by k_mem)) (by decide) (by decide) (by exact rfl) ?_ (by with_unfolding_all rfl))|(refine item_tupleT (News.isTup (by k_asm) (by k_mem)) (by decide) (by decide) (by exact rfl) (by exact rfl) ?_ (by with_unfolding_all rfl)))|walk1|(dsimp only;walk1)|(leave1;(try dsimp only))|fail "no step")
      have hdn:o.IsDictOf (PySem.strKind prog w) (pkv (ps.take (i+1))):=by rw [hnx];exact hd
      ((with_reducible rename News _ _ _ _=>N5);(with_reducible rename Fr _ _ _ _=>F5);refine InvEndG.intro F5 N5 ⟨.tail _ hil,_,rfl,hdn,hfin⟩ hoff9 (by ((repeat' (first|with_reducible exact fun _ h=>h|with_reducible exact List.forall_mem_nil _|(with_reducible refine sub_cons ?_ ?_)|(with_reducible refine sub_app ?_ ?_)|(with_reducible refine sub_append ?_ ?_)|(intro q9 hq9;first|k_mem|(replace hq9:=hs _ hq9;k_mem))|k_mem));first|done|fail "left")) (by ((repeat' (first|with_reducible exact fun _ h=>h|with_reducible exact List.forall_mem_nil _|(with_reducible refine sub_cons ?_ ?_)|(with_reducible refine sub_app ?_ ?_)|(with_reducible refine sub_append ?_ ?_)|(intro q9 hq9;first|k_mem|(replace hq9:=hs _ hq9;k_mem))|k_mem));first|done|fail "left")))
  · rintro m₁ nx h4 tk4 ⟨o,rfl,hd,hmm⟩ F9 N9
    rw [List.length_map,List.take_length] at hd
    exact hQ o m₁ h4 tk4 F9 hmm N9 hd
end
section
open PySem PySem.W PyProof.Rows PySem.Calls PyProof.Rows.LCg
theorem law_s10 {prog:Program} {w:World} {A A₀:Around} {base h₀:Heap} {L fa cd:Addr} {p:Program} {loose:List Str} {mean:ExcName→Option Value} {mg mb:Str→Option Value} {m:Str→Option Value} {s:Shared} {Q:Flow→Shared→Prop} {E:Value→Shared→Prop} {l data:Led} {pd qd il nI:Nat} {po qo:Obj} {pk:List (Str × Value)} {ps:List (Value × It)}
    (C:Env0 w A A₀ (lawE L fa cd) [] base h₀ L 100 2000 p loose mean mg mb) (F:Fr h₀ L s.heap m) (hE:PassesOwn (model prog w) A (lawE L fa cd) E) (N:News h₀ L s.heap ((qd,qo)::l)) (hqo:qo.IsDictOf (PySem.strKind prog w) []) (hoff:∀ p∈l,p.1≠qd) (hpd:(pd,po)∈l) (hpo:po.IsDictOf (PySem.strKind prog w) pk) (hil:(il,listOf (ps.map (·.1)).toArray nI)∈l) (hI:ItsIn data ps) (hs:∀ p∈data,p∈l) (hz:ps.length≤8) (hm1:m (Str.ofString "items")=some (.ref il)) (hm2:m (Str.ofString "ports")=some (.ref pd)) (hm3:m (Str.ofString "partners")=some (.ref qd))
    (hQ:∀ qo kvs m' h' tk',Fr h₀ L h' m'→(∀ y,y≠Str.ofString "spot"→y≠Str.ofString "item"→y≠Str.ofString "name"→m' y=m y)→News h₀ L h' ((qd,qo)::l)→qo.IsDictOf (PySem.strKind prog w) kvs→QR kvs (qto (pk.map (·.1)) ps ps.length)→Q .next { s with heap:=h',toks:=tk' }) :
    wpAny (model prog w) A (exec (lawS 10) (lawE L fa cd)) Q E s:=by
  have hzl:(ps.map (·.1)).length≤100:=by simp;omega
  obtain ⟨B,X,T,hA,hf,hk,hh,hd',hu⟩:=C
  have F0:=fr_name F hm1
  clear F
  (unfold lawS lawE;(conv=>pattern (Option.getD _ _);whnf);(conv=>pattern (occs:=*) (fScope _);all_goals whnf);(try k_fold))
  repeat' ((fail_if_success (with_reducible show wpAny _ _ (exec (Stmt.While _ _ _ _) _) _ _ _));(fail_if_success (with_reducible show wpAny _ _ (pyIter _) _ _ _));first|(k_unfold;(try dsimp only))|(k_end;wrow_close)|((with_reducible show wpAny _ _ (exec (Stmt.For (PySem.Expr.Name _ _) _ _ [] _) _) _ _ _);(with_reducible rename Fr _ _ _ _=>kF9);refine For_invVF kF9 (by rfl) (by rfl) ?_ (by intro _;with_unfolding_all rfl) (by assumption))|((with_reducible show wpAny _ _ (call (Value.builtin "len") [Value.ref _]) _ _ _);refine PyProof.Rows.len_list (News.isList (by k_asm) (by k_mem)) (by (simp only [List.size_toArray];omega)) ?_)|((with_reducible show wpAny _ _ (call (Value.ref (nat_lit 1221)) _) _ _ _);refine Spec.go (by k_asm) (by k_asm) (Env0.mk B X T hA hf hk hh (by first|exact room hd' rfl|omega) (by first|exact room hu rfl|omega)) (decl_ok (by assumption) (by ((repeat' (first|with_reducible exact fun _ h=>h|with_reducible exact List.forall_mem_nil _|(with_reducible refine sub_cons ?_ ?_)|(with_reducible refine sub_app ?_ ?_)|(with_reducible refine sub_append ?_ ?_)|(intro q9 hq9;first|k_mem|(replace hq9:=hs _ hq9;k_mem))|k_mem));first|done|fail "left")) (by exact rfl)) ?_;rintro r9 h9 tk9 news9 F' N' ⟨t9,rfl,rfl⟩;(try k_sweep);(try dsimp only [nameOf]))|((with_reducible show wpAny _ _ (compareOp CmpOp.In (Value.str _ _) (Value.ref _)) _ _ _);refine in_D (by k_asm) (by k_mem) (by assumption) (by k_asm) ?_ ?_ <;> intro hin9)|((with_reducible show wpAny _ _ (compareOp CmpOp.NotIn (Value.str _ _) (Value.ref _)) _ _ _);refine nin_D (by k_asm) (by k_mem) (by assumption) (by k_asm) ?_ ?_ <;> intro hold9)|((with_reducible show wpAny _ _ (subscriptTail (PySem.Expr.Name _ _) (PySem.Expr.Name _ _) (Value.ref _) (Value.int _ _)) _ _ _);refine item_at (by k_asm) (by k_mem) (by assumption) (by assumption) ?_ (by with_unfolding_all rfl))|((with_reducible show wpAny _ _ (setItem (Value.ref _) (Value.str _ _) _) _ _ _);refine set_D (by k_asm) (by k_asm) (fun o9=>by first|k_upd|fail) (by assumption) (by omega) ?_;intro h9 o9 F9 N9 hd9;(try simp only [List.append_eq] at N9);(try k_sweep))|((with_reducible show wpAny _ _ (subscriptTail _ _ (Value.ref _) (Value.int _ _)) _ _ _);first|(refine item_litK (News.isList (by k_asm) (by k_mem)) (by decide) (by decide) (by exact rfl) ?_ (by with_unfolding_all rfl))|(refine item_tupleT (News.isTup (by k_asm) (by k_mem)) (by decide) (by decide) (by exact rfl) (by exact rfl) ?_ (by with_unfolding_all rfl)))|walk1|(dsimp only;walk1)|(leave1;(try dsimp only))|fail "no step")
  rename_i N3 h3 tk3 t3 u3 v3 R3 F3 N3' k3
  clear k3 N3
  simp only [ite_name hm1] at F3
  have hsz:(List.toArray (ps.map (·.1))).size=ps.length:=by simp
  rw [hsz] at R3
  refine rng_iter (n:=ps.length) (fun i m' nx=>∃ o kvs,nx=(qd,o)::l∧o.IsDictOf (PySem.strKind prog w) kvs∧QR kvs (qto (pk.map (·.1)) ps i)∧∀ y,y≠Str.ofString "spot"→y≠Str.ofString "item"→y≠Str.ofString "name"→m' y=m y) hh R3
    (small_one (by decide) (by decide) (by omega) (by omega)) (by rw [rangeSize_nat];omega) F3 N3' ⟨qo,[],rfl,hqo,.nil,fun _ _ _ _=>rfl⟩ ?_ ?_
  · rintro i t m₁ nx h4 tk4 own hi hoff9 ⟨o,kvs,rfl,hd,hq,hmm⟩ F9 N9
    obtain ⟨pv,hpv⟩:∃ pv,ps[i]?=some pv:=⟨ps[i],List.getElem?_eq_getElem hi⟩
    obtain ⟨v,it⟩:=pv
    have hv:(ps.map (·.1))[i]?=some v:=by rw [List.getElem?_map,hpv];rfl
    obtain ⟨hit,hok⟩:=hI _ (List.mem_of_getElem? hpv)
    have e1:=(hmm _ (by decide) (by decide) (by decide)).trans hm1
    have e2:=(hmm _ (by decide) (by decide) (by decide)).trans hm2
    have e3:=(hmm _ (by decide) (by decide) (by decide)).trans hm3
    generalize hmx:(fun y=>if y=Str.ofString "spot" then some (Value.int (i:Int) t) else m₁ y)=mx at F9
    have x1:mx (Str.ofString "items")=some (.ref il):=by rw [← hmx];exact (if_neg (by decide)).trans e1
    have x2:mx (Str.ofString "ports")=some (.ref pd):=by rw [← hmx];exact (if_neg (by decide)).trans e2
    have x3:mx (Str.ofString "partners")=some (.ref qd):=by rw [← hmx];exact (if_neg (by decide)).trans e3
    have x4:mx (Str.ofString "spot")=some (.int (i:Int) t):=by rw [← hmx];exact if_pos rfl
    have F:=fr_name (x:=Str.ofString "spot") (v:=.int (i:Int) t) (fr_name (x:=Str.ofString "partners") (v:=.ref qd) (fr_name (x:=Str.ofString "ports") (v:=.ref pd) (fr_name F9 x1) (by simp only [ite_name x1];exact x2)) (by simp only [ite_name x1,ite_name x2];exact x3)) (by simp only [ite_name x1,ite_name x2,ite_name x3];exact x4)
    clear F9
    have hkl:kvs.length≤100:=by have:=qto_len (pk.map (·.1)) ps i;have:=hq.length;omega
    cases it with
    | port i5 dir sg b nm =>
      obtain ⟨a5,n5,t50,t51,t52,t53,vb,rfl,hm,hb⟩:=port_at hit
      have hm:=hs _ hm
      repeat' ((fail_if_success (with_reducible show wpAny _ _ (exec (Stmt.While _ _ _ _) _) _ _ _));(fail_if_success (with_reducible show wpAny _ _ (pyIter _) _ _ _));first|(k_unfold;(try dsimp only))|(k_end;wrow_close)|((with_reducible show wpAny _ _ (exec (Stmt.For (PySem.Expr.Name _ _) _ _ [] _) _) _ _ _);(with_reducible rename Fr _ _ _ _=>kF9);refine For_invVF kF9 (by rfl) (by rfl) ?_ (by intro _;with_unfolding_all rfl) (by assumption))|((with_reducible show wpAny _ _ (call (Value.builtin "len") [Value.ref _]) _ _ _);refine PyProof.Rows.len_list (News.isList (by k_asm) (by k_mem)) (by (simp only [List.size_toArray];omega)) ?_)|((with_reducible show wpAny _ _ (call (Value.ref (nat_lit 1221)) _) _ _ _);refine Spec.go (by k_asm) (by k_asm) (Env0.mk B X T hA hf hk hh (by first|exact room hd' rfl|omega) (by first|exact room hu rfl|omega)) (decl_ok (by assumption) (by ((repeat' (first|with_reducible exact fun _ h=>h|with_reducible exact List.forall_mem_nil _|(with_reducible refine sub_cons ?_ ?_)|(with_reducible refine sub_app ?_ ?_)|(with_reducible refine sub_append ?_ ?_)|(intro q9 hq9;first|k_mem|(replace hq9:=hs _ hq9;k_mem))|k_mem));first|done|fail "left")) (by exact rfl)) ?_;rintro r9 h9 tk9 news9 F' N' ⟨t9,rfl,rfl⟩;(try k_sweep);(try dsimp only [nameOf]))|((with_reducible show wpAny _ _ (compareOp CmpOp.In (Value.str _ _) (Value.ref _)) _ _ _);refine in_D (by k_asm) (by k_mem) (by assumption) (by k_asm) ?_ ?_ <;> intro hin9)|((with_reducible show wpAny _ _ (compareOp CmpOp.NotIn (Value.str _ _) (Value.ref _)) _ _ _);refine nin_D (by k_asm) (by k_mem) (by assumption) (by k_asm) ?_ ?_ <;> intro hold9)|((with_reducible show wpAny _ _ (subscriptTail (PySem.Expr.Name _ _) (PySem.Expr.Name _ _) (Value.ref _) (Value.int _ _)) _ _ _);refine item_at (by k_asm) (by k_mem) (by assumption) (by assumption) ?_ (by with_unfolding_all rfl))|((with_reducible show wpAny _ _ (setItem (Value.ref _) (Value.str _ _) _) _ _ _);refine set_D (by k_asm) (by k_asm) (fun o9=>by first|k_upd|fail) (by assumption) (by omega) ?_;intro h9 o9 F9 N9 hd9;(try simp only [List.append_eq] at N9);(try k_sweep))|((with_reducible show wpAny _ _ (subscriptTail _ _ (Value.ref _) (Value.int _ _)) _ _ _);first|(refine item_litK (News.isList (by k_asm) (by k_mem)) (by decide) (by decide) (by exact rfl) ?_ (by with_unfolding_all rfl))|(refine item_tupleT (News.isTup (by k_asm) (by k_mem)) (by decide) (by decide) (by exact rfl) (by exact rfl) ?_ (by with_unfolding_all rfl)))|walk1|(dsimp only;walk1)|(leave1;(try dsimp only))|fail "no step")
      have hqn:QR kvs (qto (pk.map (·.1)) ps (i+1)):=by rw [qto_next hpv,qstep_not rfl];exact hq
      have hdn:=hd
      ((with_reducible rename News _ _ _ _=>N5);(with_reducible rename Fr _ _ _ _=>F5);refine InvEndG.intro F5 N5 ⟨_,_,rfl,hdn,hqn,fun y y1 y2 y3=>?_⟩ hoff9 (by ((repeat' (first|with_reducible exact fun _ h=>h|with_reducible exact List.forall_mem_nil _|(with_reducible refine sub_cons ?_ ?_)|(with_reducible refine sub_app ?_ ?_)|(with_reducible refine sub_append ?_ ?_)|(intro q9 hq9;first|k_mem|(replace hq9:=hs _ hq9;k_mem))|k_mem));first|done|fail "left")) (by ((repeat' (first|with_reducible exact fun _ h=>h|with_reducible exact List.forall_mem_nil _|(with_reducible refine sub_cons ?_ ?_)|(with_reducible refine sub_app ?_ ?_)|(with_reducible refine sub_append ?_ ?_)|(intro q9 hq9;first|k_mem|(replace hq9:=hs _ hq9;k_mem))|k_mem));first|done|fail "left"));simp only [if_neg y1,if_neg y2,if_neg y3,ite_name x1,ite_name x2,ite_name x3];rw [← hmx];exact (if_neg y1).trans (hmm y y1 y2 y3))
    | par sg b nm =>
      obtain ⟨a5,n5,t50,t51,t52,t53,vb,rfl,hm,hb⟩:=par_at hit
      have hm:=hs _ hm
      repeat' ((fail_if_success (with_reducible show wpAny _ _ (exec (Stmt.While _ _ _ _) _) _ _ _));(fail_if_success (with_reducible show wpAny _ _ (pyIter _) _ _ _));first|(k_unfold;(try dsimp only))|(k_end;wrow_close)|((with_reducible show wpAny _ _ (exec (Stmt.For (PySem.Expr.Name _ _) _ _ [] _) _) _ _ _);(with_reducible rename Fr _ _ _ _=>kF9);refine For_invVF kF9 (by rfl) (by rfl) ?_ (by intro _;with_unfolding_all rfl) (by assumption))|((with_reducible show wpAny _ _ (call (Value.builtin "len") [Value.ref _]) _ _ _);refine PyProof.Rows.len_list (News.isList (by k_asm) (by k_mem)) (by (simp only [List.size_toArray];omega)) ?_)|((with_reducible show wpAny _ _ (call (Value.ref (nat_lit 1221)) _) _ _ _);refine Spec.go (by k_asm) (by k_asm) (Env0.mk B X T hA hf hk hh (by first|exact room hd' rfl|omega) (by first|exact room hu rfl|omega)) (decl_ok (by assumption) (by ((repeat' (first|with_reducible exact fun _ h=>h|with_reducible exact List.forall_mem_nil _|(with_reducible refine sub_cons ?_ ?_)|(with_reducible refine sub_app ?_ ?_)|(with_reducible refine sub_append ?_ ?_)|(intro q9 hq9;first|k_mem|(replace hq9:=hs _ hq9;k_mem))|k_mem));first|done|fail "left")) (by exact rfl)) ?_;rintro r9 h9 tk9 news9 F' N' ⟨t9,rfl,rfl⟩;(try k_sweep);(try dsimp only [nameOf]))|((with_reducible show wpAny _ _ (compareOp CmpOp.In (Value.str _ _) (Value.ref _)) _ _ _);refine in_D (by k_asm) (by k_mem) (by assumption) (by k_asm) ?_ ?_ <;> intro hin9)|((with_reducible show wpAny _ _ (compareOp CmpOp.NotIn (Value.str _ _) (Value.ref _)) _ _ _);refine nin_D (by k_asm) (by k_mem) (by assumption) (by k_asm) ?_ ?_ <;> intro hold9)|((with_reducible show wpAny _ _ (subscriptTail (PySem.Expr.Name _ _) (PySem.Expr.Name _ _) (Value.ref _) (Value.int _ _)) _ _ _);refine item_at (by k_asm) (by k_mem) (by assumption) (by assumption) ?_ (by with_unfolding_all rfl))|((with_reducible show wpAny _ _ (setItem (Value.ref _) (Value.str _ _) _) _ _ _);refine set_D (by k_asm) (by k_asm) (fun o9=>by first|k_upd|fail) (by assumption) (by omega) ?_;intro h9 o9 F9 N9 hd9;(try simp only [List.append_eq] at N9);(try k_sweep))|((with_reducible show wpAny _ _ (subscriptTail _ _ (Value.ref _) (Value.int _ _)) _ _ _);first|(refine item_litK (News.isList (by k_asm) (by k_mem)) (by decide) (by decide) (by exact rfl) ?_ (by with_unfolding_all rfl))|(refine item_tupleT (News.isTup (by k_asm) (by k_mem)) (by decide) (by decide) (by exact rfl) (by exact rfl) ?_ (by with_unfolding_all rfl)))|walk1|(dsimp only;walk1)|(leave1;(try dsimp only))|fail "no step")
      have hqn:QR kvs (qto (pk.map (·.1)) ps (i+1)):=by rw [qto_next hpv,qstep_not rfl];exact hq
      have hdn:=hd
      ((with_reducible rename News _ _ _ _=>N5);(with_reducible rename Fr _ _ _ _=>F5);refine InvEndG.intro F5 N5 ⟨_,_,rfl,hdn,hqn,fun y y1 y2 y3=>?_⟩ hoff9 (by ((repeat' (first|with_reducible exact fun _ h=>h|with_reducible exact List.forall_mem_nil _|(with_reducible refine sub_cons ?_ ?_)|(with_reducible refine sub_app ?_ ?_)|(with_reducible refine sub_append ?_ ?_)|(intro q9 hq9;first|k_mem|(replace hq9:=hs _ hq9;k_mem))|k_mem));first|done|fail "left")) (by ((repeat' (first|with_reducible exact fun _ h=>h|with_reducible exact List.forall_mem_nil _|(with_reducible refine sub_cons ?_ ?_)|(with_reducible refine sub_app ?_ ?_)|(with_reducible refine sub_append ?_ ?_)|(intro q9 hq9;first|k_mem|(replace hq9:=hs _ hq9;k_mem))|k_mem));first|done|fail "left"));simp only [if_neg y1,if_neg y2,if_neg y3,ite_name x1,ite_name x2,ite_name x3];rw [← hmx];exact (if_neg y1).trans (hmm y y1 y2 y3))
    | net kd sg b nm arr =>
      obtain ⟨a5,n5,t50,t51,t52,t53,vb,va,rfl,hm,hb,ha⟩:=net_at hit
      have hm:=hs _ hm
      repeat' ((fail_if_success (with_reducible show wpAny _ _ (exec (Stmt.While _ _ _ _) _) _ _ _));(fail_if_success (with_reducible show wpAny _ _ (pyIter _) _ _ _));first|(k_unfold;(try dsimp only))|(k_end;wrow_close)|((with_reducible show wpAny _ _ (exec (Stmt.For (PySem.Expr.Name _ _) _ _ [] _) _) _ _ _);(with_reducible rename Fr _ _ _ _=>kF9);refine For_invVF kF9 (by rfl) (by rfl) ?_ (by intro _;with_unfolding_all rfl) (by assumption))|((with_reducible show wpAny _ _ (call (Value.builtin "len") [Value.ref _]) _ _ _);refine PyProof.Rows.len_list (News.isList (by k_asm) (by k_mem)) (by (simp only [List.size_toArray];omega)) ?_)|((with_reducible show wpAny _ _ (call (Value.ref (nat_lit 1221)) _) _ _ _);refine Spec.go (by k_asm) (by k_asm) (Env0.mk B X T hA hf hk hh (by first|exact room hd' rfl|omega) (by first|exact room hu rfl|omega)) (decl_ok (by assumption) (by ((repeat' (first|with_reducible exact fun _ h=>h|with_reducible exact List.forall_mem_nil _|(with_reducible refine sub_cons ?_ ?_)|(with_reducible refine sub_app ?_ ?_)|(with_reducible refine sub_append ?_ ?_)|(intro q9 hq9;first|k_mem|(replace hq9:=hs _ hq9;k_mem))|k_mem));first|done|fail "left")) (by exact rfl)) ?_;rintro r9 h9 tk9 news9 F' N' ⟨t9,rfl,rfl⟩;(try k_sweep);(try dsimp only [nameOf]))|((with_reducible show wpAny _ _ (compareOp CmpOp.In (Value.str _ _) (Value.ref _)) _ _ _);refine in_D (by k_asm) (by k_mem) (by assumption) (by k_asm) ?_ ?_ <;> intro hin9)|((with_reducible show wpAny _ _ (compareOp CmpOp.NotIn (Value.str _ _) (Value.ref _)) _ _ _);refine nin_D (by k_asm) (by k_mem) (by assumption) (by k_asm) ?_ ?_ <;> intro hold9)|((with_reducible show wpAny _ _ (subscriptTail (PySem.Expr.Name _ _) (PySem.Expr.Name _ _) (Value.ref _) (Value.int _ _)) _ _ _);refine item_at (by k_asm) (by k_mem) (by assumption) (by assumption) ?_ (by with_unfolding_all rfl))|((with_reducible show wpAny _ _ (setItem (Value.ref _) (Value.str _ _) _) _ _ _);refine set_D (by k_asm) (by k_asm) (fun o9=>by first|k_upd|fail) (by assumption) (by omega) ?_;intro h9 o9 F9 N9 hd9;(try simp only [List.append_eq] at N9);(try k_sweep))|((with_reducible show wpAny _ _ (subscriptTail _ _ (Value.ref _) (Value.int _ _)) _ _ _);first|(refine item_litK (News.isList (by k_asm) (by k_mem)) (by decide) (by decide) (by exact rfl) ?_ (by with_unfolding_all rfl))|(refine item_tupleT (News.isTup (by k_asm) (by k_mem)) (by decide) (by decide) (by exact rfl) (by exact rfl) ?_ (by with_unfolding_all rfl)))|walk1|(dsimp only;walk1)|(leave1;(try dsimp only))|fail "no step")
      · rename_i e9
        simp at e9
      · have hqn:QR kvs (qto (pk.map (·.1)) ps (i+1)):=by rw [qto_next hpv,qstep_had (by rw [← hq.keys];exact hold9)];exact hq
        have hdn:=hd
        ((with_reducible rename News _ _ _ _=>N5);(with_reducible rename Fr _ _ _ _=>F5);refine InvEndG.intro F5 N5 ⟨_,_,rfl,hdn,hqn,fun y y1 y2 y3=>?_⟩ hoff9 (by ((repeat' (first|with_reducible exact fun _ h=>h|with_reducible exact List.forall_mem_nil _|(with_reducible refine sub_cons ?_ ?_)|(with_reducible refine sub_app ?_ ?_)|(with_reducible refine sub_append ?_ ?_)|(intro q9 hq9;first|k_mem|(replace hq9:=hs _ hq9;k_mem))|k_mem));first|done|fail "left")) (by ((repeat' (first|with_reducible exact fun _ h=>h|with_reducible exact List.forall_mem_nil _|(with_reducible refine sub_cons ?_ ?_)|(with_reducible refine sub_app ?_ ?_)|(with_reducible refine sub_append ?_ ?_)|(intro q9 hq9;first|k_mem|(replace hq9:=hs _ hq9;k_mem))|k_mem));first|done|fail "left"));simp only [if_neg y1,if_neg y2,if_neg y3,ite_name x1,ite_name x2,ite_name x3];rw [← hmx];exact (if_neg y1).trans (hmm y y1 y2 y3))
      · rw [stored_new hold9] at hd9
        have hqn:QR (kvs++[(nm,.int (i:Int) t)]) (qto (pk.map (·.1)) ps (i+1)):=by rw [qto_next hpv,qstep_new rfl hin9 (by rw [← hq.keys];exact hold9)];exact hq.snoc
        have hdn:=hd9
        ((with_reducible rename News _ _ _ _=>N5);(with_reducible rename Fr _ _ _ _=>F5);refine InvEndG.intro F5 N5 ⟨_,_,rfl,hdn,hqn,fun y y1 y2 y3=>?_⟩ hoff9 (by ((repeat' (first|with_reducible exact fun _ h=>h|with_reducible exact List.forall_mem_nil _|(with_reducible refine sub_cons ?_ ?_)|(with_reducible refine sub_app ?_ ?_)|(with_reducible refine sub_append ?_ ?_)|(intro q9 hq9;first|k_mem|(replace hq9:=hs _ hq9;k_mem))|k_mem));first|done|fail "left")) (by ((repeat' (first|with_reducible exact fun _ h=>h|with_reducible exact List.forall_mem_nil _|(with_reducible refine sub_cons ?_ ?_)|(with_reducible refine sub_app ?_ ?_)|(with_reducible refine sub_append ?_ ?_)|(intro q9 hq9;first|k_mem|(replace hq9:=hs _ hq9;k_mem))|k_mem));first|done|fail "left"));simp only [if_neg y1,if_neg y2,if_neg y3,ite_name x1,ite_name x2,ite_name x3];rw [← hmx];exact (if_neg y1).trans (hmm y y1 y2 y3))
      · have hqn:QR kvs (qto (pk.map (·.1)) ps (i+1)):=by rw [qto_next hpv,qstep_out hin9];exact hq
        have hdn:=hd
        ((with_reducible rename News _ _ _ _=>N5);(with_reducible rename Fr _ _ _ _=>F5);refine InvEndG.intro F5 N5 ⟨_,_,rfl,hdn,hqn,fun y y1 y2 y3=>?_⟩ hoff9 (by ((repeat' (first|with_reducible exact fun _ h=>h|with_reducible exact List.forall_mem_nil _|(with_reducible refine sub_cons ?_ ?_)|(with_reducible refine sub_app ?_ ?_)|(with_reducible refine sub_append ?_ ?_)|(intro q9 hq9;first|k_mem|(replace hq9:=hs _ hq9;k_mem))|k_mem));first|done|fail "left")) (by ((repeat' (first|with_reducible exact fun _ h=>h|with_reducible exact List.forall_mem_nil _|(with_reducible refine sub_cons ?_ ?_)|(with_reducible refine sub_app ?_ ?_)|(with_reducible refine sub_append ?_ ?_)|(intro q9 hq9;first|k_mem|(replace hq9:=hs _ hq9;k_mem))|k_mem));first|done|fail "left"));simp only [if_neg y1,if_neg y2,if_neg y3,ite_name x1,ite_name x2,ite_name x3];rw [← hmx];exact (if_neg y1).trans (hmm y y1 y2 y3))
    | var kd sg b nm arr =>
      obtain ⟨a5,n5,t50,t51,t52,t53,vb,va,rfl,hm,hb,ha⟩:=var_at hit
      have hm:=hs _ hm
      repeat' ((fail_if_success (with_reducible show wpAny _ _ (exec (Stmt.While _ _ _ _) _) _ _ _));(fail_if_success (with_reducible show wpAny _ _ (pyIter _) _ _ _));first|(k_unfold;(try dsimp only))|(k_end;wrow_close)|((with_reducible show wpAny _ _ (exec (Stmt.For (PySem.Expr.Name _ _) _ _ [] _) _) _ _ _);(with_reducible rename Fr _ _ _ _=>kF9);refine For_invVF kF9 (by rfl) (by rfl) ?_ (by intro _;with_unfolding_all rfl) (by assumption))|((with_reducible show wpAny _ _ (call (Value.builtin "len") [Value.ref _]) _ _ _);refine PyProof.Rows.len_list (News.isList (by k_asm) (by k_mem)) (by (simp only [List.size_toArray];omega)) ?_)|((with_reducible show wpAny _ _ (call (Value.ref (nat_lit 1221)) _) _ _ _);refine Spec.go (by k_asm) (by k_asm) (Env0.mk B X T hA hf hk hh (by first|exact room hd' rfl|omega) (by first|exact room hu rfl|omega)) (decl_ok (by assumption) (by ((repeat' (first|with_reducible exact fun _ h=>h|with_reducible exact List.forall_mem_nil _|(with_reducible refine sub_cons ?_ ?_)|(with_reducible refine sub_app ?_ ?_)|(with_reducible refine sub_append ?_ ?_)|(intro q9 hq9;first|k_mem|(replace hq9:=hs _ hq9;k_mem))|k_mem));first|done|fail "left")) (by exact rfl)) ?_;rintro r9 h9 tk9 news9 F' N' ⟨t9,rfl,rfl⟩;(try k_sweep);(try dsimp only [nameOf]))|((with_reducible show wpAny _ _ (compareOp CmpOp.In (Value.str _ _) (Value.ref _)) _ _ _);refine in_D (by k_asm) (by k_mem) (by assumption) (by k_asm) ?_ ?_ <;> intro hin9)|((with_reducible show wpAny _ _ (compareOp CmpOp.NotIn (Value.str _ _) (Value.ref _)) _ _ _);refine nin_D (by k_asm) (by k_mem) (by assumption) (by k_asm) ?_ ?_ <;> intro hold9)|((with_reducible show wpAny _ _ (subscriptTail (PySem.Expr.Name _ _) (PySem.Expr.Name _ _) (Value.ref _) (Value.int _ _)) _ _ _);refine item_at (by k_asm) (by k_mem) (by assumption) (by assumption) ?_ (by with_unfolding_all rfl))|((with_reducible show wpAny _ _ (setItem (Value.ref _) (Value.str _ _) _) _ _ _);refine set_D (by k_asm) (by k_asm) (fun o9=>by first|k_upd|fail) (by assumption) (by omega) ?_;intro h9 o9 F9 N9 hd9;(try simp only [List.append_eq] at N9);(try k_sweep))|((with_reducible show wpAny _ _ (subscriptTail _ _ (Value.ref _) (Value.int _ _)) _ _ _);first|(refine item_litK (News.isList (by k_asm) (by k_mem)) (by decide) (by decide) (by exact rfl) ?_ (by with_unfolding_all rfl))|(refine item_tupleT (News.isTup (by k_asm) (by k_mem)) (by decide) (by decide) (by exact rfl) (by exact rfl) ?_ (by with_unfolding_all rfl)))|walk1|(dsimp only;walk1)|(leave1;(try dsimp only))|fail "no step")
      · rename_i e9
        simp at e9
      · have hqn:QR kvs (qto (pk.map (·.1)) ps (i+1)):=by rw [qto_next hpv,qstep_had (by rw [← hq.keys];exact hold9)];exact hq
        have hdn:=hd
        ((with_reducible rename News _ _ _ _=>N5);(with_reducible rename Fr _ _ _ _=>F5);refine InvEndG.intro F5 N5 ⟨_,_,rfl,hdn,hqn,fun y y1 y2 y3=>?_⟩ hoff9 (by ((repeat' (first|with_reducible exact fun _ h=>h|with_reducible exact List.forall_mem_nil _|(with_reducible refine sub_cons ?_ ?_)|(with_reducible refine sub_app ?_ ?_)|(with_reducible refine sub_append ?_ ?_)|(intro q9 hq9;first|k_mem|(replace hq9:=hs _ hq9;k_mem))|k_mem));first|done|fail "left")) (by ((repeat' (first|with_reducible exact fun _ h=>h|with_reducible exact List.forall_mem_nil _|(with_reducible refine sub_cons ?_ ?_)|(with_reducible refine sub_app ?_ ?_)|(with_reducible refine sub_append ?_ ?_)|(intro q9 hq9;first|k_mem|(replace hq9:=hs _ hq9;k_mem))|k_mem));first|done|fail "left"));simp only [if_neg y1,if_neg y2,if_neg y3,ite_name x1,ite_name x2,ite_name x3];rw [← hmx];exact (if_neg y1).trans (hmm y y1 y2 y3))
      · rw [stored_new hold9] at hd9
        have hqn:QR (kvs++[(nm,.int (i:Int) t)]) (qto (pk.map (·.1)) ps (i+1)):=by rw [qto_next hpv,qstep_new rfl hin9 (by rw [← hq.keys];exact hold9)];exact hq.snoc
        have hdn:=hd9
        ((with_reducible rename News _ _ _ _=>N5);(with_reducible rename Fr _ _ _ _=>F5);refine InvEndG.intro F5 N5 ⟨_,_,rfl,hdn,hqn,fun y y1 y2 y3=>?_⟩ hoff9 (by ((repeat' (first|with_reducible exact fun _ h=>h|with_reducible exact List.forall_mem_nil _|(with_reducible refine sub_cons ?_ ?_)|(with_reducible refine sub_app ?_ ?_)|(with_reducible refine sub_append ?_ ?_)|(intro q9 hq9;first|k_mem|(replace hq9:=hs _ hq9;k_mem))|k_mem));first|done|fail "left")) (by ((repeat' (first|with_reducible exact fun _ h=>h|with_reducible exact List.forall_mem_nil _|(with_reducible refine sub_cons ?_ ?_)|(with_reducible refine sub_app ?_ ?_)|(with_reducible refine sub_append ?_ ?_)|(intro q9 hq9;first|k_mem|(replace hq9:=hs _ hq9;k_mem))|k_mem));first|done|fail "left"));simp only [if_neg y1,if_neg y2,if_neg y3,ite_name x1,ite_name x2,ite_name x3];rw [← hmx];exact (if_neg y1).trans (hmm y y1 y2 y3))
      · have hqn:QR kvs (qto (pk.map (·.1)) ps (i+1)):=by rw [qto_next hpv,qstep_out hin9];exact hq
        have hdn:=hd
        ((with_reducible rename News _ _ _ _=>N5);(with_reducible rename Fr _ _ _ _=>F5);refine InvEndG.intro F5 N5 ⟨_,_,rfl,hdn,hqn,fun y y1 y2 y3=>?_⟩ hoff9 (by ((repeat' (first|with_reducible exact fun _ h=>h|with_reducible exact List.forall_mem_nil _|(with_reducible refine sub_cons ?_ ?_)|(with_reducible refine sub_app ?_ ?_)|(with_reducible refine sub_append ?_ ?_)|(intro q9 hq9;first|k_mem|(replace hq9:=hs _ hq9;k_mem))|k_mem));first|done|fail "left")) (by ((repeat' (first|with_reducible exact fun _ h=>h|with_reducible exact List.forall_mem_nil _|(with_reducible refine sub_cons ?_ ?_)|(with_reducible refine sub_app ?_ ?_)|(with_reducible refine sub_append ?_ ?_)|(intro q9 hq9;first|k_mem|(replace hq9:=hs _ hq9;k_mem))|k_mem));first|done|fail "left"));simp only [if_neg y1,if_neg y2,if_neg y3,ite_name x1,ite_name x2,ite_name x3];rw [← hmx];exact (if_neg y1).trans (hmm y y1 y2 y3))
  · rintro m₁ nx h4 tk4 ⟨o,kvs,rfl,hd,hq,hmm⟩ F9 N9
    exact hQ o kvs m₁ h4 tk4 F9 hmm N9 hd hq
end
section
open PySem PySem.W PyProof.Rows PySem.Calls PyProof.Rows.LCg
theorem valueAt_mem {k:Str} {v:Value}:∀ {kvs:List (Str × Value)},(kvs.map (·.1)).Nodup→(k,v)∈kvs→valueAt kvs k=some v
  | [],_,h=>nomatch h
  | q::r,hn,h=>by
    rw [List.map_cons,List.nodup_cons] at hn
    unfold valueAt
    rcases List.mem_cons.mp h with e|h
    · rw [← e,List.find?_cons_of_pos (by simp)];rfl
    · have hne:¬ q.1=k:=fun e=>hn.1 (List.mem_map.mpr ⟨(k,v),h,e.symm⟩)
      rw [List.find?_cons_of_neg (by simpa using hne)]
      exact valueAt_mem hn.2 h
theorem ins_nodup {n:Str} {l:List Str} (h:l.Nodup):(ins n l).Nodup:=by
  unfold ins
  split
  · exact h
  · rename_i hn
    exact List.nodup_append.mpr ⟨h,by simp,fun a ha b hb e=>hn (by rw [List.mem_singleton.mp hb] at e;exact e ▸ ha)⟩
theorem pkv_nodup:∀ (n:Nat) (ps:List (Value × It)),ps.length=n→((pkv ps).map (·.1)).Nodup
  | n,ps,hn=>by
    rcases nil_snoc ps with rfl|⟨r,p,rfl⟩
    · exact .nil
    · have hlt:r.length<n:=by simp at hn;omega
      have ih:=pkv_nodup r.length r rfl
      rw [pkv_snoc]
      unfold stP
      split
      · rw [keys_stored];exact ins_nodup ih
      · exact ih
termination_by n=>n
theorem qto_nodup (pk:List Str) (ps:List (Value × It)):∀ i,((qto pk ps i).map (·.1)).Nodup
  | 0=>.nil
  | i+1=>by
    have ih:=qto_nodup pk ps i
    unfold qto
    cases ps[i]? with
    | none=>exact ih
    | some q =>
      dsimp only
      unfold qstep
      split
      · rename_i hq
        rw [List.map_append]
        exact List.nodup_append.mpr ⟨ih,by simp,fun a ha b hb e=>hq.2.2 (by simp at hb;rw [← hb,← e];exact ha)⟩
      · exact ih
theorem QR.get {k:Str} {i:Nat} {r:List (Str × Value)} {q:List (Str × Nat)} (h:QR r q) (hm:(k,i)∈q):∃ t,(k,Value.int (i:Int) t)∈r:=by
  induction h with
  | nil=>exact nomatch hm
  | cons _ ih =>
    rcases List.mem_cons.mp hm with e|hm
    · cases e;exact ⟨_,.head _⟩
    · obtain ⟨t,ht⟩:=ih hm;exact ⟨t,.tail _ ht⟩
theorem QR.mem {k:Str} {v:Value} {r:List (Str × Value)} {q:List (Str × Nat)} (h:QR r q) (hm:(k,v)∈r):∃ i t,v=Value.int ((i:Nat):Int) t∧(k,i)∈q:=by
  induction h with
  | nil=>exact nomatch hm
  | cons _ ih =>
    rcases List.mem_cons.mp hm with e|hm
    · cases e;exact ⟨_,_,rfl,.head _⟩
    · obtain ⟨i,t,e,ht⟩:=ih hm;exact ⟨i,t,e,.tail _ ht⟩
theorem hits_all {A:Around} {s:Shared} {kb:List (Str × Value)}:∀ {ka:List (Str × Value)},(∀ q∈ka,∃ y,valueAt kb q.1=some y∧SeqAt.EqAt A s q.2 y true)→KeqHits A s kb ka true
  | [],_=>.nil
  | q::r,h=>by
    obtain ⟨y,h1,h2⟩:=h q (.head _)
    exact KeqHits.hit (e:=true) (b:=true) h1 h2 (hits_all fun p hp=>h p (.tail _ hp))
section
variable {prog:Program} {w:World} {A:Around} {E:Value→Shared→Prop} {s:Shared} {h₀:Heap} {L a b:Nat} {news:Led} {oa ob:Obj} {ka kb:List (Str × Value)} {Q:Value→Shared→Prop}
theorem dict_ne (X:(K0 w.params).In h₀) (N:News h₀ L s.heap news) (ma:(a,oa)∈news) (da:oa.IsDictOf (PySem.strKind prog w) ka) (mb:(b,ob)∈news) (db:ob.IsDictOf (PySem.strKind prog w) kb) (hl:ka.length=kb.length) (hits:KeqHits A.in1 s kb ka true) (hu:A.units<cLine) (h:Q (.bool false) s) :
    wpAny (model prog w) A (compareOp .NotEq (.ref a) (.ref b)) Q E s:=by
  refine keq_ne (knd:=PySem.strKind prog w) (not_mod X (N _ ma).2.2) (not_mod X (N _ mb).2.2) (Heap.dictOf_iff.mpr ⟨_,(N _ ma).1,da⟩) (Heap.dictOf_iff.mpr ⟨_,(N _ mb).1,db⟩) hu (fun _=>hits) ?_
  rw [hl,beq_self_eq_true]
  exact h
theorem dict_ne_p {ps:List (Value × It)} (X:(K0 w.params).In h₀) (N:News h₀ L s.heap news) (ma:(a,oa)∈news) (da:oa.IsDictOf (PySem.strKind prog w) (pkv ps)) (mb:(b,ob)∈news) (db:ob.IsDictOf (PySem.strKind prog w) (pkv ps)) (hu:A.units<cLine) (h:Q (.bool false) s) :
    wpAny (model prog w) A (compareOp .NotEq (.ref a) (.ref b)) Q E s :=
  dict_ne X N ma da mb db rfl (hits_all fun q hq=>⟨q.2,valueAt_mem (pkv_nodup _ ps rfl) hq,SeqAt.EqAt.same _⟩) hu h
theorem dict_ne_q {q:List (Str × Nat)} (hn:(q.map (·.1)).Nodup) (X:(K0 w.params).In h₀) (N:News h₀ L s.heap news) (ma:(a,oa)∈news) (da:oa.IsDictOf (PySem.strKind prog w) ka) (qa:QR ka q) (mb:(b,ob)∈news) (db:ob.IsDictOf (PySem.strKind prog w) kb) (qb:QR kb q) (hu:A.units<cLine) (h:Q (.bool false) s) :
    wpAny (model prog w) A (compareOp .NotEq (.ref a) (.ref b)) Q E s:=by
  refine dict_ne X N ma da mb db (qa.length.trans qb.length.symm) (hits_all fun p hp=>?_) hu h
  obtain ⟨i,t,e,hm⟩:=qa.mem (k:=p.1) (v:=p.2) hp
  obtain ⟨u,hu⟩:=qb.get hm
  refine ⟨_,valueAt_mem (by rw [qb.keys];exact hn) hu,?_⟩
  rw [e]
  have:=SeqAt.EqAt.int_int (A:=A.in1) (s:=s) (i:Int) t (i:Int) u
  simpa using this
end
theorem law_s11 {prog:Program} {w:World} {A A₀:Around} {base h₀:Heap} {L fa cd:Addr} {p:Program} {loose:List Str} {mean:ExcName→Option Value} {mg mb:Str→Option Value} {m:Str→Option Value} {s:Shared} {Q:Flow→Shared→Prop} {E:Value→Shared→Prop} {news data:Led} {pd qd il nI:Nat} {po qo:Obj} {kvs:List (Str × Value)} {ps:List (Value × It)}
    (C:Env0 w A A₀ (lawE L fa cd) [] base h₀ L 100 2000 p loose mean mg mb) (F:Fr h₀ L s.heap m) (N:News h₀ L s.heap news) (hpd:(pd,po)∈news) (hpo:po.IsDictOf (PySem.strKind prog w) (pkv ps)) (hqd:(qd,qo)∈news) (hqo:qo.IsDictOf (PySem.strKind prog w) kvs) (hqr:QR kvs (qto ((pkv ps).map (·.1)) ps ps.length)) (hil:(il,listOf (ps.map (·.1)).toArray nI)∈news) (hI:ItsIn data ps) (hs:∀ p∈data,p∈news) (hz:ps.length≤8) (hm1:m (Str.ofString "items")=some (.ref il)) (hm2:m (Str.ofString "ports")=some (.ref pd)) (hm3:m (Str.ofString "partners")=some (.ref qd))
    (hQ:∀ h' tk',Fr h₀ L h' m→News h₀ L h' news→Q .next { s with heap:=h',toks:=tk' }) :
    wpAny (model prog w) A (exec (lawS 11) (lawE L fa cd)) Q E s:=by
  obtain ⟨B,X,T,hA,hf,hk,hh,hd',hu⟩:=C
  have F0:=fr_name (x:=Str.ofString "partners") (v:=.ref qd) (fr_name (x:=Str.ofString "ports") (v:=.ref pd) (fr_name F hm1) (by simp only [ite_name hm1];exact hm2)) (by simp only [ite_name hm1,ite_name hm2];exact hm3)
  clear F
  (unfold lawS lawE;(conv=>pattern (Option.getD _ _);whnf);(conv=>pattern (occs:=*) (fScope _);all_goals whnf);(try k_fold))
  repeat' ((fail_if_success (with_reducible show wpAny _ _ (exec (Stmt.While _ _ _ _) _) _ _ _));(fail_if_success (with_reducible show wpAny _ _ (pyIter _) _ _ _));first|(k_unfold;(try dsimp only))|(k_end;wrow_close)|((with_reducible show wpAny _ _ (call (Value.ref (nat_lit 1226)) _) _ _ _);refine pi_ok (Env0.mk B X T hA hf hk hh (by first|exact room hd' rfl|omega) (by first|exact room hu rfl|omega)) (by k_asm) (by k_asm) (by k_mem) (by assumption) (fun q9 hq9=>by (have hq8:=hs q9 hq9;k_mem)) (by omega) ?_;intro D9 o9 h9 tk9 F9 N9 hoff9 hd9;(try k_sweep))|((with_reducible show wpAny _ _ (call (Value.ref (nat_lit 1233)) _) _ _ _);refine pp_ok (Env0.mk B X T hA hf hk hh (by first|exact room hd' rfl|omega) (by first|exact room hu rfl|omega)) (by k_asm) (by k_asm) (by k_mem) (by k_mem) (by assumption) (by assumption) (fun q9 hq9=>by (have hq8:=hs q9 hq9;k_mem)) (by omega) ?_;intro D9 o9 h9 tk9 kvs9 F9 N9 hoff9 hd9 hq9;(try k_sweep))|((with_reducible show wpAny _ _ (compareOp CmpOp.NotEq (Value.ref _) (Value.ref _)) _ _ _);first|(refine' dict_ne_p ?X ?N ?ma ?da ?mb ?db ?hu ?_;(case X=>k_asm);(case N=>k_asm);(case ma=>k_mem);(case da=>assumption);(case mb=>k_mem);(case db=>assumption);(case hu=>omega);k_whole)|(refine' dict_ne_q ?hn ?X ?N ?ma ?da ?qa ?mb ?db ?qb ?hu ?_;(case X=>k_asm);(case N=>k_asm);(case ma=>k_mem);(case da=>assumption);(case mb=>k_mem);(case db=>assumption);(case qa=>assumption);(case qb=>assumption);(case hn=>exact qto_nodup _ _ _);(case hu=>omega);k_whole))|walk1|(dsimp only;walk1)|(leave1;(try dsimp only))|fail "no step")
  simp only [ite_name hm1,ite_name hm2,ite_name hm3] at F9
  exact hQ _ _ F9 (news_sub N9 fun q hq=>by k_mem)
end
section
open PySem PySem.W PyProof.Rows PySem.Calls PyProof.Rows.LCg
theorem stored_mem {kvs:List (Str × Value)} {n k:Str} {v y:Value} (h:(k,y)∈stored kvs n v):(k=n∧y=v)∨(k,y)∈kvs:=by
  unfold stored at h
  split at h
  · obtain ⟨q,hq,e⟩:=List.mem_map.mp h
    split at e
    · rename_i e1
      cases e
      exact .inl ⟨e1,rfl⟩
    · exact .inr (e ▸ hq)
  · rcases List.mem_append.mp h with h|h
    · exact .inr h
    · cases List.mem_singleton.mp h
      exact .inl ⟨rfl,rfl⟩
theorem pkv_mem:∀ (n:Nat) (ps:List (Value × It)) (k:Str) (v:Value),ps.length=n→(k,v)∈pkv ps→∃ it,(v,it)∈ps∧isPort it=true∧nameOf it=k
  | n,ps,k,v,hn,hm=>by
    rcases nil_snoc ps with rfl|⟨r,q,rfl⟩
    · exact nomatch hm
    · have hlt:r.length<n:=by simp at hn;omega
      rw [pkv_snoc] at hm
      unfold stP at hm
      split at hm
      · rename_i hp
        rcases stored_mem hm with ⟨e1,e2⟩|hm
        · exact ⟨q.2,List.mem_append_right _ (by rw [e2];exact .head _),hp,e1.symm⟩
        · obtain ⟨it,h1,h2,h3⟩:=pkv_mem r.length r k v rfl hm
          exact ⟨it,List.mem_append_left _ h1,h2,h3⟩
      · obtain ⟨it,h1,h2,h3⟩:=pkv_mem r.length r k v rfl hm
        exact ⟨it,List.mem_append_left _ h1,h2,h3⟩
termination_by n=>n
theorem qto_mem {pk:List Str} {ps:List (Value × It)} {k:Str} {j:Nat}:∀ i,(k,j)∈qto pk ps i→∃ v it,ps[j]?=some (v,it)∧isNV it=true∧nameOf it=k
  | 0,h=>nomatch h
  | i+1,h=>by
    unfold qto at h
    cases hp:ps[i]? with
    | none=>rw [hp] at h;exact qto_mem i h
    | some q =>
      rw [hp] at h
      dsimp only at h
      unfold qstep at h
      split at h
      · rename_i hq
        rcases List.mem_append.mp h with h|h
        · exact qto_mem i h
        · cases List.mem_singleton.mp h
          exact ⟨q.1,q.2,hp,hq.1,rfl⟩
      · exact qto_mem i h
section
variable {prog:Program} {w:World} {A:Around} {E:Value→Shared→Prop} {s:Shared} {h₀:Heap} {L d:Addr} {news:Led} {o:Obj} {kvs:List (Str × Value)} {k:Str} {t:Tok} {Q:Value→Shared→Prop}
theorem in_Dt (h:k∈kvs.map (·.1)) (N:News h₀ L s.heap news) (hp:(d,o)∈news) (hd:o.IsDictOf (PySem.strKind prog w) kvs) (X:(K0 w.params).In h₀) (h1:Q (.bool true) { s with toks:=s.toks+1 }) :
    wpAny (model prog w) A (compareOp .In (.str k t) (.ref d)) Q E s:=in_D N hp hd X (fun _=>h1) fun n=>absurd h n
theorem in_Df (h:k ∉ kvs.map (·.1)) (N:News h₀ L s.heap news) (hp:(d,o)∈news) (hd:o.IsDictOf (PySem.strKind prog w) kvs) (X:(K0 w.params).In h₀) (h1:Q (.bool false) { s with toks:=s.toks+1 }) :
    wpAny (model prog w) A (compareOp .In (.str k t) (.ref d)) Q E s:=in_D N hp hd X (fun n=>absurd n h) fun _=>h1
end
theorem law_t0 {prog:Program} {w:World} {A A₀:Around} {base h₀:Heap} {L fa cd:Addr} {p:Program} {loose:List Str} {mean:ExcName→Option Value} {mg mb:Str→Option Value} {m:Str→Option Value} {s:Shared} {Q:Flow→Shared→Prop} {E:Value→Shared→Prop} {news:Led} {pd:Nat} {po:Obj} {kvs:List (Str × Value)} {nm:Str} {t:Tok} {v:Value}
    (C:Env0 w A A₀ (lawE L fa cd) [] base h₀ L 100 2000 p loose mean mg mb) (F:Fr h₀ L s.heap m) (N:News h₀ L s.heap news) (hpd:(pd,po)∈news) (hpo:po.IsDictOf (PySem.strKind prog w) kvs) (hv:valueAt kvs nm=some v) (hm1:m (Str.ofString "ports")=some (.ref pd)) (hm2:m (Str.ofString "name")=some (.str nm t))
    (hQ:∀ h' tk',Fr h₀ L h' (fun z=>if z=Str.ofString "port" then some v else m z)→News h₀ L h' news→Q .next { s with heap:=h',toks:=tk' }) :
    wpAny (model prog w) A (exec (loopS 0) (lawE L fa cd)) Q E s:=by
  obtain ⟨B,X,T,hA,hf,hk,hh,hd',hu⟩:=C
  have F0:=fr_name (x:=Str.ofString "name") (v:=.str nm t) (fr_name F hm1) (by simp only [ite_name hm1];exact hm2)
  clear F
  (unfold loopS loopB lawS lawE;(conv=>pattern (Option.getD _ _);whnf);(conv=>pattern (occs:=*) (fScope _);all_goals whnf);(try k_fold))
  repeat' ((fail_if_success (with_reducible show wpAny _ _ (exec (Stmt.While _ _ _ _) _) _ _ _));(fail_if_success (with_reducible show wpAny _ _ (pyIter _) _ _ _));first|(k_unfold;(try dsimp only))|(k_end;wrow_close)|((with_reducible show wpAny _ _ (compareOp CmpOp.In (Value.str _ _) (Value.ref _)) _ _ _);refine' in_Dt ?h ?N ?m ?d ?X ?_;(case N=>k_asm);(case m=>k_mem);(case d=>assumption);(case h=>assumption);(case X=>k_asm);k_whole)|((with_reducible show wpAny _ _ (compareOp CmpOp.In (Value.str _ _) (Value.ref _)) _ _ _);refine' in_Df ?h ?N ?m ?d ?X ?_;(case N=>k_asm);(case m=>k_mem);(case d=>assumption);(case h=>assumption);(case X=>k_asm);k_whole)|((with_reducible show wpAny _ _ (subscriptTail (PySem.Expr.Name _ _) (PySem.Expr.Name _ _) (Value.ref _) (Value.str _ _)) _ _ _);refine' kda_item (knd:=PySem.strKind _ _) ?N ?m ?d ?k ?hl ?_ ?hs ?hg;(case N=>k_asm);(case m=>k_mem);(case d=>assumption);(case k=>exact strKind_is _ _ _ _);(case hl=>assumption);(case hs=>with_unfolding_all rfl);(case hg=>intro _;with_unfolding_all rfl);k_whole)|((with_reducible show wpAny _ _ (subscriptTail (PySem.Expr.Name _ _) (PySem.Expr.Subscript _ _ _) (Value.ref _) (Value.int _ _)) _ _ _);refine' item_at ?N ?m ?hv ?z ?_ ?hs;(case N=>k_asm);(case m=>k_mem);(case hv=>assumption);(case z=>assumption);(case hs=>with_unfolding_all rfl);k_whole)|((with_reducible show wpAny _ _ (getAttr (Value.ref _) _ _) _ _ _);refine' get_own ?k1 ?k2 ?k3 ?k4 ?k5 ?k6 ?k7 ?k8 ?k9 ?_;(case k1=>k_asm);(case k2=>k_asm);(case k3=>k_inst);(case k4=>k_is);(case k5=>k_is);(case k6=>k_is);(case k7=>k_is);(case k8=>assumption);(case k9=>k_handed);k_whole)|((with_reducible show wpAny _ _ (subscriptTail _ _ (Value.ref _) (Value.int _ _)) _ _ _);first|(refine item_litK (News.isList (by k_asm) (by k_mem)) (by decide) (by decide) (by exact rfl) ?_ (by with_unfolding_all rfl))|(refine item_tupleT (News.isTup (by k_asm) (by k_mem)) (by decide) (by decide) (by exact rfl) (by exact rfl) ?_ (by with_unfolding_all rfl)))|walk1|(dsimp only;walk1)|(leave1;(try dsimp only))|fail "no step")
  rename_i h8 F8 N8
  simp only [ite_name hm1,ite_name hm2] at F8
  exact hQ _ _ F8 N8
theorem law_t1 {prog:Program} {w:World} {A A₀:Around} {base h₀:Heap} {L fa cd:Addr} {p:Program} {loose:List Str} {mean:ExcName→Option Value} {mg mb:Str→Option Value} {m:Str→Option Value} {s:Shared} {Q:Flow→Shared→Prop} {E:Value→Shared→Prop} {news data:Led} {qd il nI:Nat} {qo:Obj} {kvs:List (Str × Value)} {pk:List Str} {ps:List (Value × It)} {nm:Str} {t:Tok}
    (C:Env0 w A A₀ (lawE L fa cd) [] base h₀ L 100 2000 p loose mean mg mb) (F:Fr h₀ L s.heap m) (N:News h₀ L s.heap news) (hqd:(qd,qo)∈news) (hqo:qo.IsDictOf (PySem.strKind prog w) kvs) (hqr:QR kvs (qto pk ps ps.length)) (hil:(il,listOf (ps.map (·.1)).toArray nI)∈news) (hI:ItsIn data ps) (hz:ps.length≤8) (hm1:m (Str.ofString "items")=some (.ref il)) (hm2:m (Str.ofString "partners")=some (.ref qd)) (hm3:m (Str.ofString "name")=some (.str nm t))
    (hQ:∀ v q h' tk',PartIn data v q→Fr h₀ L h' (fun z=>if z=Str.ofString "partner" then some v else m z)→News h₀ L h' news→Q .next { s with heap:=h',toks:=tk' }) :
    wpAny (model prog w) A (exec (loopS 1) (lawE L fa cd)) Q E s:=by
  obtain ⟨B,X,T,hA,hf,hk,hh,hd',hu⟩:=C
  have hzl:(ps.map (·.1)).length≤100:=by simp;omega
  have F0:=fr_name (x:=Str.ofString "name") (v:=.str nm t) (fr_name (x:=Str.ofString "partners") (v:=.ref qd) (fr_name F hm1) (by simp only [ite_name hm1];exact hm2)) (by simp only [ite_name hm1,ite_name hm2];exact hm3)
  clear F
  by_cases hin:nm∈kvs.map (·.1)
  · obtain ⟨⟨k',v'⟩,hkv,e⟩:=List.mem_map.mp hin
    dsimp only at e
    subst e
    obtain ⟨i,t8,rfl,hq⟩:=hqr.mem hkv
    obtain ⟨v,it,hp,hnv,hn⟩:=qto_mem _ hq
    have hval:=valueAt_mem (by rw [hqr.keys];exact qto_nodup _ _ _) hkv
    have hv:(ps.map (·.1))[i]?=some v:=by rw [List.getElem?_map,hp];rfl
    have hip:=hI _ (List.mem_of_getElem? hp)
    (unfold loopS loopB lawS lawE;(conv=>pattern (Option.getD _ _);whnf);(conv=>pattern (occs:=*) (fScope _);all_goals whnf);(try k_fold))
    repeat' ((fail_if_success (with_reducible show wpAny _ _ (exec (Stmt.While _ _ _ _) _) _ _ _));(fail_if_success (with_reducible show wpAny _ _ (pyIter _) _ _ _));first|(k_unfold;(try dsimp only))|(k_end;wrow_close)|((with_reducible show wpAny _ _ (compareOp CmpOp.In (Value.str _ _) (Value.ref _)) _ _ _);refine' in_Dt ?h ?N ?m ?d ?X ?_;(case N=>k_asm);(case m=>k_mem);(case d=>assumption);(case h=>assumption);(case X=>k_asm);k_whole)|((with_reducible show wpAny _ _ (compareOp CmpOp.In (Value.str _ _) (Value.ref _)) _ _ _);refine' in_Df ?h ?N ?m ?d ?X ?_;(case N=>k_asm);(case m=>k_mem);(case d=>assumption);(case h=>assumption);(case X=>k_asm);k_whole)|((with_reducible show wpAny _ _ (subscriptTail (PySem.Expr.Name _ _) (PySem.Expr.Name _ _) (Value.ref _) (Value.str _ _)) _ _ _);refine' kda_item (knd:=PySem.strKind _ _) ?N ?m ?d ?k ?hl ?_ ?hs ?hg;(case N=>k_asm);(case m=>k_mem);(case d=>assumption);(case k=>exact strKind_is _ _ _ _);(case hl=>assumption);(case hs=>with_unfolding_all rfl);(case hg=>intro _;with_unfolding_all rfl);k_whole)|((with_reducible show wpAny _ _ (subscriptTail (PySem.Expr.Name _ _) (PySem.Expr.Subscript _ _ _) (Value.ref _) (Value.int _ _)) _ _ _);refine' item_at ?N ?m ?hv ?z ?_ ?hs;(case N=>k_asm);(case m=>k_mem);(case hv=>assumption);(case z=>assumption);(case hs=>with_unfolding_all rfl);k_whole)|((with_reducible show wpAny _ _ (getAttr (Value.ref _) _ _) _ _ _);refine' get_own ?k1 ?k2 ?k3 ?k4 ?k5 ?k6 ?k7 ?k8 ?k9 ?_;(case k1=>k_asm);(case k2=>k_asm);(case k3=>k_inst);(case k4=>k_is);(case k5=>k_is);(case k6=>k_is);(case k7=>k_is);(case k8=>assumption);(case k9=>k_handed);k_whole)|((with_reducible show wpAny _ _ (subscriptTail _ _ (Value.ref _) (Value.int _ _)) _ _ _);first|(refine item_litK (News.isList (by k_asm) (by k_mem)) (by decide) (by decide) (by exact rfl) ?_ (by with_unfolding_all rfl))|(refine item_tupleT (News.isTup (by k_asm) (by k_mem)) (by decide) (by decide) (by exact rfl) (by exact rfl) ?_ (by with_unfolding_all rfl)))|walk1|(dsimp only;walk1)|(leave1;(try dsimp only))|fail "no step")
    rename_i h8 F8 N8
    simp only [ite_name hm1,ite_name hm2,ite_name hm3] at F8
    exact hQ _ (some it) _ _ ⟨hip.1,hip.2,hnv⟩ F8 N8
  · (unfold loopS loopB lawS lawE;(conv=>pattern (Option.getD _ _);whnf);(conv=>pattern (occs:=*) (fScope _);all_goals whnf);(try k_fold))
    repeat' ((fail_if_success (with_reducible show wpAny _ _ (exec (Stmt.While _ _ _ _) _) _ _ _));(fail_if_success (with_reducible show wpAny _ _ (pyIter _) _ _ _));first|(k_unfold;(try dsimp only))|(k_end;wrow_close)|((with_reducible show wpAny _ _ (compareOp CmpOp.In (Value.str _ _) (Value.ref _)) _ _ _);refine' in_Dt ?h ?N ?m ?d ?X ?_;(case N=>k_asm);(case m=>k_mem);(case d=>assumption);(case h=>assumption);(case X=>k_asm);k_whole)|((with_reducible show wpAny _ _ (compareOp CmpOp.In (Value.str _ _) (Value.ref _)) _ _ _);refine' in_Df ?h ?N ?m ?d ?X ?_;(case N=>k_asm);(case m=>k_mem);(case d=>assumption);(case h=>assumption);(case X=>k_asm);k_whole)|((with_reducible show wpAny _ _ (subscriptTail (PySem.Expr.Name _ _) (PySem.Expr.Name _ _) (Value.ref _) (Value.str _ _)) _ _ _);refine' kda_item (knd:=PySem.strKind _ _) ?N ?m ?d ?k ?hl ?_ ?hs ?hg;(case N=>k_asm);(case m=>k_mem);(case d=>assumption);(case k=>exact strKind_is _ _ _ _);(case hl=>assumption);(case hs=>with_unfolding_all rfl);(case hg=>intro _;with_unfolding_all rfl);k_whole)|((with_reducible show wpAny _ _ (subscriptTail (PySem.Expr.Name _ _) (PySem.Expr.Subscript _ _ _) (Value.ref _) (Value.int _ _)) _ _ _);refine' item_at ?N ?m ?hv ?z ?_ ?hs;(case N=>k_asm);(case m=>k_mem);(case hv=>assumption);(case z=>assumption);(case hs=>with_unfolding_all rfl);k_whole)|((with_reducible show wpAny _ _ (getAttr (Value.ref _) _ _) _ _ _);refine' get_own ?k1 ?k2 ?k3 ?k4 ?k5 ?k6 ?k7 ?k8 ?k9 ?_;(case k1=>k_asm);(case k2=>k_asm);(case k3=>k_inst);(case k4=>k_is);(case k5=>k_is);(case k6=>k_is);(case k7=>k_is);(case k8=>assumption);(case k9=>k_handed);k_whole)|((with_reducible show wpAny _ _ (subscriptTail _ _ (Value.ref _) (Value.int _ _)) _ _ _);first|(refine item_litK (News.isList (by k_asm) (by k_mem)) (by decide) (by decide) (by exact rfl) ?_ (by with_unfolding_all rfl))|(refine item_tupleT (News.isTup (by k_asm) (by k_mem)) (by decide) (by decide) (by exact rfl) (by exact rfl) ?_ (by with_unfolding_all rfl)))|walk1|(dsimp only;walk1)|(leave1;(try dsimp only))|fail "no step")
    rename_i h8 F8 N8
    simp only [ite_name hm1,ite_name hm2,ite_name hm3] at F8
    exact hQ _ none _ _ rfl F8 N8
theorem law_t2 {prog:Program} {w:World} {A A₀:Around} {base h₀:Heap} {L fa cd:Addr} {p:Program} {loose:List Str} {mean:ExcName→Option Value} {mg mb:Str→Option Value} {m:Str→Option Value} {s:Shared} {Q:Flow→Shared→Prop} {E:Value→Shared→Prop} {news data:Led} {sc dsc x dx n1:Nat} {es1:List DictEntry} {nt:Str}
    (C:Env0 w A A₀ (lawE L fa cd) [] base h₀ L 100 2000 p loose mean mg mb) (F:Fr h₀ L s.heap m) (N:News h₀ L s.heap news) (S:Sco data sc dsc x dx es1 n1 nt) (hs:∀ p∈data,p∈news) (hm1:m (Str.ofString "scope")=some (.ref sc))
    (hQ:∀ t h' tk',Fr h₀ L h' (fun z=>if z=Str.ofString "usual" then some (.str (usual nt) t) else m z)→News h₀ L h' news→Q .next { s with heap:=h',toks:=tk' }) :
    wpAny (model prog w) A (exec (loopS 2) (lawE L fa cd)) Q E s:=by
  obtain ⟨B,X,T,hA,hf,hk,hh,hd',hu⟩:=C
  have F0:=fr_name F hm1
  clear F
  have hsc:=hs _ S.hsc
  have hdsc:=hs _ S.hdsc
  obtain ⟨tn,hnt⟩:=S.g2
  (unfold loopS loopB lawS lawE;(conv=>pattern (Option.getD _ _);whnf);(conv=>pattern (occs:=*) (fScope _);all_goals whnf);(try k_fold))
  repeat' ((fail_if_success (with_reducible show wpAny _ _ (exec (Stmt.While _ _ _ _) _) _ _ _));(fail_if_success (with_reducible show wpAny _ _ (pyIter _) _ _ _));first|(k_unfold;(try dsimp only))|(k_end;wrow_close)|((with_reducible show wpAny _ _ (compareOp CmpOp.In (Value.str _ _) (Value.ref _)) _ _ _);refine' in_Dt ?h ?N ?m ?d ?X ?_;(case N=>k_asm);(case m=>k_mem);(case d=>assumption);(case h=>assumption);(case X=>k_asm);k_whole)|((with_reducible show wpAny _ _ (compareOp CmpOp.In (Value.str _ _) (Value.ref _)) _ _ _);refine' in_Df ?h ?N ?m ?d ?X ?_;(case N=>k_asm);(case m=>k_mem);(case d=>assumption);(case h=>assumption);(case X=>k_asm);k_whole)|((with_reducible show wpAny _ _ (subscriptTail (PySem.Expr.Name _ _) (PySem.Expr.Name _ _) (Value.ref _) (Value.str _ _)) _ _ _);refine' kda_item (knd:=PySem.strKind _ _) ?N ?m ?d ?k ?hl ?_ ?hs ?hg;(case N=>k_asm);(case m=>k_mem);(case d=>assumption);(case k=>exact strKind_is _ _ _ _);(case hl=>assumption);(case hs=>with_unfolding_all rfl);(case hg=>intro _;with_unfolding_all rfl);k_whole)|((with_reducible show wpAny _ _ (subscriptTail (PySem.Expr.Name _ _) (PySem.Expr.Subscript _ _ _) (Value.ref _) (Value.int _ _)) _ _ _);refine' item_at ?N ?m ?hv ?z ?_ ?hs;(case N=>k_asm);(case m=>k_mem);(case hv=>assumption);(case z=>assumption);(case hs=>with_unfolding_all rfl);k_whole)|((with_reducible show wpAny _ _ (getAttr (Value.ref _) _ _) _ _ _);refine' get_own ?k1 ?k2 ?k3 ?k4 ?k5 ?k6 ?k7 ?k8 ?k9 ?_;(case k1=>k_asm);(case k2=>k_asm);(case k3=>k_inst);(case k4=>k_is);(case k5=>k_is);(case k6=>k_is);(case k7=>k_is);(case k8=>assumption);(case k9=>k_handed);k_whole)|((with_reducible show wpAny _ _ (subscriptTail _ _ (Value.ref _) (Value.int _ _)) _ _ _);first|(refine item_litK (News.isList (by k_asm) (by k_mem)) (by decide) (by decide) (by exact rfl) ?_ (by with_unfolding_all rfl))|(refine item_tupleT (News.isTup (by k_asm) (by k_mem)) (by decide) (by decide) (by exact rfl) (by exact rfl) ?_ (by with_unfolding_all rfl)))|walk1|(dsimp only;walk1)|(leave1;(try dsimp only))|fail "no step")
  · rename_i e8 h8 F8 N8
    simp only [ite_name hm1] at F8
    have eu:usual nt=Str.ofString "wire":=if_pos (eq_of_beq e8)
    rw [eu] at hQ
    exact hQ _ _ _ F8 N8
  · rename_i e8 h8 F8 N8
    simp only [ite_name hm1] at F8
    have eu:usual nt=nt:=if_neg fun q=>by rw [q,beq_self_eq_true] at e8;cases e8
    rw [eu] at hQ
    exact hQ _ _ _ F8 N8
end
section
open PySem PySem.W PyProof.Rows PySem.Calls PyProof.Rows.LCg
theorem span_eqv (t u:Int):PyData.eqv (kqdP (spanD t)) (kqdP (spanD u))=decide (t=u):=by
  by_cases h:t=u
  · simp [kqdP,kqdPs,PyData.eqv,PyData.eqvAll,h]
  · simp [kqdP,kqdPs,PyData.eqv,PyData.eqvAll,h]
theorem span_lay (t:Int):(kqdP (spanD t)).canLay0=true∧(kqdP (spanD t)).depth≤3:=by
  have h:PyData.strOk (Str.ofString "num")=true:=by decide +kernel
  simp [kqdP,kqdPs,PyData.canLay0,PyData.canLayAll0,PyData.depth,PyData.depthAll,h]
theorem shaped_of {d:PyData} {n:Nat} (h:d.canLay0=true∧d.depth≤n) (hn:n≤64):SeqAt.shaped d=true:=by
  unfold SeqAt.shaped
  rw [h.1,Bool.true_and]
  exact decide_eq_true (Nat.le_trans h.2 hn)
theorem bd_lay (b:Option Int):(kqdP (bdD b)).canLay0=true∧(kqdP (bdD b)).depth≤3:=by
  cases b with
  | none=>simp [bdD,kqdP,PyData.canLay0,PyData.depth]
  | some t=>exact span_lay t
theorem res_lay {k:Str} (hk:PyData.strOk k=true) (sg:Bool) (b:Option Int):(kqdP (.tuple [.str k,.bool sg,bdD b])).canLay0=true∧(kqdP (.tuple [.str k,.bool sg,bdD b])).depth≤4:=by
  have:=bd_lay b
  simp [kqdP,kqdPs,PyData.canLay0,PyData.canLayAll0,PyData.depth,PyData.depthAll,hk,this.1]
  omega
theorem err_lay {k nm:Str} (hk:PyData.strOk k=true) (hn:PyData.strOk nm=true) (i:Int):(kqdP (.tuple [.str k,.int i,.str nm])).canLay0=true∧(kqdP (.tuple [.str k,.int i,.str nm])).depth≤4:=by
  simp [kqdP,kqdPs,PyData.canLay0,PyData.canLayAll0,PyData.depth,PyData.depthAll,hk,hn]
theorem noB_bd (b:Option Int):noB (bdD b)=true:=by cases b <;> rfl
theorem nm_strOk {x:Str} (h:nmOk x):PyData.strOk x=true:=by
  rcases h with rfl|rfl|rfl|rfl <;> decide +kernel
theorem usual_strOk {x:Str} (h:ntOk x):PyData.strOk (usual x)=true:=by
  rcases h with rfl|rfl|rfl|rfl <;> decide +kernel
noncomputable def GoodD (d:Dat):Prop:=noB d=true∧(kqdP d).canLay0=true∧(kqdP d).depth≤4∧noList d=true
theorem good_res {k:Str} (hk:PyData.strOk k=true) (sg:Bool) (b:Option Int):GoodD (.tuple [.str k,.bool sg,bdD b]) :=
  ⟨by simp [noB,noBs,noB_bd],(res_lay hk sg b).1,(res_lay hk sg b).2,noList_res _ _ _⟩
theorem good_err {k nm:Str} (hk:PyData.strOk k=true) (hn:PyData.strOk nm=true) (i:Int):GoodD (.tuple [.str k,.int i,.str nm]) :=
  ⟨rfl,(err_lay hk hn i).1,(err_lay hk hn i).2,rfl⟩
theorem good_rest {nm kd:Str} {i:Int} {sg sg2:Bool} {b b2:Option Int} {it:It} (hn:nmOk nm) (hk:PyData.strOk kd=true):GoodD (match restR sg b it kd sg2 b2 with|.inl d=>d|.inr k=>.tuple [.str k,.int i,.str nm]):=by
  unfold restR
  cases b with
  | none=>exact good_res hk _ _
  | some t =>
    dsimp only
    split
    · rename_i h
      split at h
      · cases h;exact good_res hk _ _
      · cases h
    · rename_i h
      split at h
      · cases h
      · cases h;exact good_err (by decide +kernel) (nm_strOk hn) _
theorem good_told {nt dir nm:Str} {i:Int} {sg:Bool} {b:Option Int} {data:Led} {vq:Value} {q:Option It} (hnt:ntOk nt) (hn:nmOk nm) (hq:PartIn data vq q):GoodD (toldD nt dir nm i sg b q):=by
  have e1:PyData.strOk (Str.ofString "array_port")=true:=by decide +kernel
  have e2:PyData.strOk (Str.ofString "variable_port_input")=true:=by decide +kernel
  unfold toldD
  cases q with
  | none=>exact good_res (usual_strOk hnt) _ _
  | some it =>
    obtain ⟨_,hok,hnv⟩:=hq
    cases it with
    | net kd sg2 b2 nm2 arr =>
      have hk:PyData.strOk kd=true:=by rcases hok.1 with rfl|rfl <;> decide +kernel
      cases arr with
      | true=>exact good_err e1 (nm_strOk hn) _
      | false=>exact good_rest hn hk
    | var kd sg2 b2 nm2 arr =>
      have hk:PyData.strOk kd=true:=by rcases hok.1 with rfl|rfl <;> decide +kernel
      unfold toldR
      dsimp only
      by_cases hd:dir=Str.ofString "output"
      · rw [if_pos hd]
        cases arr with
        | true=>exact good_err e1 (nm_strOk hn) _
        | false=>exact good_rest hn hk
      · rw [if_neg hd]
        exact good_err e2 (nm_strOk hn) _
    | port=>cases hnv
    | par=>cases hnv
theorem good_ne {prog:Program} {w:World} {A:Around} {E:Value→Shared→Prop} {s:Shared} {h₀:Heap} {L:Addr} {news l1 l2:Led} {a b:Value} {d:Dat} {Q:Value→Shared→Prop} (g:GoodD d) (N:News h₀ L s.heap news) (Da:DatIn l1 a d) (sa:∀ p∈l1,p∈news) (Db:DatIn l2 b d) (sb:∀ p∈l2,p∈news) (hu:A.units+64<cLine) (h:Q (.bool false) s) :
    wpAny (model prog w) A (compareOp .NotEq a b) Q E s:=by
  have hs:=shaped_of ⟨g.2.1,g.2.2.1⟩ (by decide)
  refine cmp_ne N Da sa Db sb g.1 g.1 hs hs hu ?_
  rw [SeqAt.eqv_refl _ g.2.1]
  exact h
theorem part_mono {l l':Led} {v:Value} {q:Option It} (hs:∀ p∈l,p∈l') (h:PartIn l v q):PartIn l' v q:=by
  cases q with
  | none=>exact h
  | some it=>exact ⟨DatIn.mono hs h.1,h.2⟩
theorem law_t4 {prog:Program} {w:World} {A A₀:Around} {base h₀:Heap} {L fa cd:Addr} {p:Program} {loose:List Str} {mean:ExcName→Option Value} {mg mb:Str→Option Value} {m:Str→Option Value} {s:Shared} {Q:Flow→Shared→Prop} {E:Value→Shared→Prop} {data:Led} {sc dsc x dx n1 n2:Nat} {es1 es2:List DictEntry} {nt dir nm:Str} {i:Int} {sg:Bool} {b:Option Int} {vp vq r:Value} {q:Option It}
    (C:Env0 w A A₀ (lawE L fa cd) [] base h₀ L 100 2000 p loose mean mg mb) (F:Fr h₀ L s.heap m) (Xb:(K0 w.params).In base) (Tb:Top p loose mean mg mb base) (N:News h₀ L s.heap ((dx,dictOf es2 n2)::data)) (S:Sco data sc dsc x dx es1 n1 nt) (g2:desOk es2) (hnt:ntOk nt)
    (hp:DatIn data vp (itemD (.port i dir sg b nm))) (hpo:itOk (.port i dir sg b nm)) (hq:PartIn data vq q) (hr:DatIn data r (toldD nt dir nm i sg b q))
    (hm1:m (Str.ofString "scope")=some (.ref sc)) (hm2:m (Str.ofString "port")=some vp) (hm3:m (Str.ofString "partner")=some vq) (hm4:m (Str.ofString "due")=some r)
    (hQ:∀ es2' h' tk',desOk es2'→Fr h₀ L h' m→News h₀ L h' ((dx,dictOf es2' n2)::data)→Q .next { s with heap:=h',toks:=tk' }) :
    wpAny (model prog w) A (exec (loopS 4) (lawE L fa cd)) Q E s:=by
  have gd:GoodD (toldD nt dir nm i sg b q):=good_told hnt hpo.2.2 hq
  obtain ⟨B,X,T,hA,hf,hk,hh,hd',hu⟩:=C
  have F0:=fr_name (x:=Str.ofString "due") (v:=r) (fr_name (x:=Str.ofString "partner") (v:=vq) (fr_name (x:=Str.ofString "port") (v:=vp) (fr_name F hm1) (by simp only [ite_name hm1];exact hm2)) (by simp only [ite_name hm1,ite_name hm2];exact hm3)) (by simp only [ite_name hm1,ite_name hm2,ite_name hm3];exact hm4)
  clear F
  (unfold loopS loopB lawS lawE;(conv=>pattern (Option.getD _ _);whnf);(conv=>pattern (occs:=*) (fScope _);all_goals whnf);(try k_fold))
  repeat' ((fail_if_success (with_reducible show wpAny _ _ (exec (Stmt.While _ _ _ _) _) _ _ _));(fail_if_success (with_reducible show wpAny _ _ (pyIter _) _ _ _));first|(k_unfold;(try dsimp only))|(k_end;wrow_close)|((with_reducible show wpAny _ _ (call (Value.ref (nat_lit 1373)) _) _ _ _);refine told_ok (Env0.mk B X T hA hf hk hh (by first|exact room hd' rfl|omega) (by first|exact room hu rfl|omega)) Xb Tb (by k_asm) (by k_asm) S g2 hnt hp hpo hq ?_;intro r9 h9 tk9 es9 tl9 F9 N9 ht9 hd9 hdes9;(try k_sweep))|((with_reducible show wpAny _ _ (compareOp CmpOp.NotEq _ _) _ _ _);refine good_ne gd (by k_asm) hd9 (by ((repeat' (first|with_reducible exact fun _ h=>h|with_reducible exact List.forall_mem_nil _|(with_reducible refine sub_cons ?_ ?_)|(with_reducible refine sub_app ?_ ?_)|(with_reducible refine sub_append ?_ ?_)|(intro q9 hq9;first|k_mem|(replace hq9:=hs _ hq9;k_mem))|k_mem));first|done|fail "left")) hr (by ((repeat' (first|with_reducible exact fun _ h=>h|with_reducible exact List.forall_mem_nil _|(with_reducible refine sub_cons ?_ ?_)|(with_reducible refine sub_app ?_ ?_)|(with_reducible refine sub_append ?_ ?_)|(intro q9 hq9;first|k_mem|(replace hq9:=hs _ hq9;k_mem))|k_mem));first|done|fail "left")) (by omega) ?_)|((with_reducible show wpAny _ _ (subscriptTail _ _ (Value.ref _) (Value.int _ _)) _ _ _);first|(refine item_litK (News.isList (by k_asm) (by k_mem)) (by decide) (by decide) (by exact rfl) ?_ (by with_unfolding_all rfl))|(refine item_tupleT (News.isTup (by k_asm) (by k_mem)) (by decide) (by decide) (by exact rfl) (by exact rfl) ?_ (by with_unfolding_all rfl)))|walk1|(dsimp only;walk1)|(leave1;(try dsimp only))|fail "no step")
  simp only [ite_name hm1,ite_name hm2,ite_name hm3,ite_name hm4] at F9
  exact hQ _ _ _ hdes9 F9 (news_sub N9 (by ((repeat' (first|with_reducible exact fun _ h=>h|with_reducible exact List.forall_mem_nil _|(with_reducible refine sub_cons ?_ ?_)|(with_reducible refine sub_app ?_ ?_)|(with_reducible refine sub_append ?_ ?_)|(intro q9 hq9;first|k_mem|(replace hq9:=hs _ hq9;k_mem))|k_mem));first|done|fail "left")))
end
section
open PySem PySem.W PyProof.Rows PySem.Calls PyProof.Rows.LCg
theorem law_s12 {prog:Program} {w:World} {A A₀:Around} {base h₀:Heap} {L fa cd:Addr} {p:Program} {loose:List Str} {mean:ExcName→Option Value} {mg mb:Str→Option Value} {m:Str→Option Value} {s:Shared} {Q:Flow→Shared→Prop} {E:Value→Shared→Prop} {data:Led} {sc dsc x dx n1 n2 pd qd il nI:Nat} {es1 es2:List DictEntry} {nt:Str} {po qo:Obj} {kvs:List (Str × Value)} {pk:List Str} {ps:List (Value × It)}
    (C:Env0 w A A₀ (lawE L fa cd) [] base h₀ L 100 2000 p loose mean mg mb) (F:Fr h₀ L s.heap m) (hE:PassesOwn (model prog w) A (lawE L fa cd) E) (Xb:(K0 w.params).In base) (Tb:Top p loose mean mg mb base) (N:News h₀ L s.heap ((dx,dictOf es2 n2)::data)) (S:Sco data sc dsc x dx es1 n1 nt) (g2:desOk es2) (hnt:ntOk nt)
    (hpd:(pd,po)∈data) (hpo:po.IsDictOf (PySem.strKind prog w) (pkv ps)) (hqd:(qd,qo)∈data) (hqo:qo.IsDictOf (PySem.strKind prog w) kvs) (hqr:QR kvs (qto pk ps ps.length)) (hil:(il,listOf (ps.map (·.1)).toArray nI)∈data) (hI:ItsIn data ps) (hz:ps.length≤8)
    (hm1:m (Str.ofString "items")=some (.ref il)) (hm2:m (Str.ofString "ports")=some (.ref pd)) (hm3:m (Str.ofString "partners")=some (.ref qd)) (hm4:m (Str.ofString "scope")=some (.ref sc))
    (hQ:∀ m' nx h' tk',Fr h₀ L h' m'→News h₀ L h' nx→Q .next { s with heap:=h',toks:=tk' }) :
    wpAny (model prog w) A (exec (lawS 12) (lawE L fa cd)) Q E s:=by
  have hC:=C
  obtain ⟨B,X,T,hA,hf,hk,hh,hd',hu⟩:=C
  have F0:=fr_name F hm2
  clear F
  (unfold lawS lawE;(conv=>pattern (Option.getD _ _);whnf);(conv=>pattern (occs:=*) (fScope _);all_goals whnf);(try k_fold))
  repeat' ((fail_if_success (with_reducible show wpAny _ _ (exec (Stmt.While _ _ _ _) _) _ _ _));(fail_if_success (with_reducible show wpAny _ _ (pyIter _) _ _ _));first|(k_unfold;(try dsimp only))|(k_end;wrow_close)|((with_reducible show wpAny _ _ (exec (Stmt.For (PySem.Expr.Name _ _) _ _ [] _) _) _ _ _);(with_reducible rename Fr _ _ _ _=>kF9);refine For_invVF kF9 (by rfl) (by rfl) ?_ (by intro _;with_unfolding_all rfl) (by assumption))|walk1|(dsimp only;walk1)|(leave1;(try dsimp only))|fail "no step")
  simp only [ite_name hm2] at kF9
  refine key_iter (fun i m' nx=>∃ es',nx=(dx,dictOf es' n2)::data∧desOk es'∧∀ y,y≠Str.ofString "name"→y≠Str.ofString "port"→y≠Str.ofString "partner"→y≠Str.ofString "usual"→y≠Str.ofString "due"→m' y=m y) hh (.tail _ hpd) hpo (not_mod X (N _ (.tail _ hpd)).2.2) kF9 N ⟨es2,rfl,g2,fun _ _ _ _ _ _=>rfl⟩ ?_ ?_
  · rintro i k v t m₁ nx h4 tk4 own hkv hoff9 _ ⟨es',rfl,hdes,hmm⟩ F9 N9
    have hkm:=List.mem_of_getElem? hkv
    obtain ⟨it,hmem,hpt,hn⟩:=pkv_mem _ ps k v rfl hkm
    obtain ⟨hit,hok⟩:=hI _ hmem
    have hval:=valueAt_mem (pkv_nodup _ ps rfl) hkm
    generalize hmx:(fun y=>if y=Str.ofString "name" then some (Value.str k t) else m₁ y)=mx at F9
    have x1:mx (Str.ofString "items")=some (.ref il):=by rw [← hmx];exact (if_neg (by decide)).trans ((hmm _ (by decide) (by decide) (by decide) (by decide) (by decide)).trans hm1)
    have x2:mx (Str.ofString "ports")=some (.ref pd):=by rw [← hmx];exact (if_neg (by decide)).trans ((hmm _ (by decide) (by decide) (by decide) (by decide) (by decide)).trans hm2)
    have x3:mx (Str.ofString "partners")=some (.ref qd):=by rw [← hmx];exact (if_neg (by decide)).trans ((hmm _ (by decide) (by decide) (by decide) (by decide) (by decide)).trans hm3)
    have x4:mx (Str.ofString "scope")=some (.ref sc):=by rw [← hmx];exact (if_neg (by decide)).trans ((hmm _ (by decide) (by decide) (by decide) (by decide) (by decide)).trans hm4)
    have x5:mx (Str.ofString "name")=some (.str k t):=by rw [← hmx];exact if_pos rfl
    cases it with
    | port i5 dir sg b nm =>
      obtain rfl:nm=k:=hn
      show wpAny _ _ (execs [loopS 0,loopS 1,loopS 2,loopS 3,loopS 4] (lawE L fa cd)) _ _ _
      refine wpAny_execs_cons (law_t0 hC F9 N9 (.tail _ (List.mem_append_left _ hpd)) hpo hval x2 x5 fun h5 tk5 F5 N5=>?_)
      refine wpAny_execs_cons (law_t1 hC F5 N5 (.tail _ (List.mem_append_left _ hqd)) hqo hqr (.tail _ (List.mem_append_left _ hil)) hI hz (by ((repeat' (first|assumption|exact if_pos rfl|refine (if_neg (by decide)).trans ?_));first|done|fail "left")) (by ((repeat' (first|assumption|exact if_pos rfl|refine (if_neg (by decide)).trans ?_));first|done|fail "left")) (by ((repeat' (first|assumption|exact if_pos rfl|refine (if_neg (by decide)).trans ?_));first|done|fail "left")) fun vq q h6 tk6 hq F6 N6=>?_)
      refine wpAny_execs_cons (law_t2 hC F6 N6 S (fun p hp=>.tail _ (List.mem_append_left _ hp)) (by ((repeat' (first|assumption|exact if_pos rfl|refine (if_neg (by decide)).trans ?_));first|done|fail "left")) fun t7 h7 tk7 F7 N7=>?_)
      refine wpAny_execs_cons (law_t3 hC F7 N7 (DatIn.mono (fun p hp=>.tail _ (List.mem_append_left _ hp)) hit) hok (part_mono (fun p hp=>.tail _ (List.mem_append_left _ hp)) hq) (by ((repeat' (first|assumption|exact if_pos rfl|refine (if_neg (by decide)).trans ?_));first|done|fail "left")) (by ((repeat' (first|assumption|exact if_pos rfl|refine (if_neg (by decide)).trans ?_));first|done|fail "left")) (by ((repeat' (first|assumption|exact if_pos rfl|refine (if_neg (by decide)).trans ?_));first|done|fail "left")) (by ((repeat' (first|assumption|exact if_pos rfl|refine (if_neg (by decide)).trans ?_));first|done|fail "left")) fun r tl h8 tk8 htl hr F8 N8=>?_)
      have hoff:∀ p∈tl++(data++own),p.1≠dx:=fun p hp=>by
        rcases List.mem_append.mp hp with hp|hp
        · exact tups_ne N8 (List.mem_append_right _ (.head _)) notTup_dict htl (fun _ h=>List.mem_append_left _ h) p hp
        · rcases List.mem_append.mp hp with hp|hp
          · exact S.off p hp
          · exact hoff9 p hp dx (List.mem_map.mpr ⟨_,.head _,rfl⟩)
      have hsub:∀ p∈data,p∈tl++(data++own):=fun p hp=>List.mem_append_right _ (List.mem_append_left _ hp)
      have S':Sco (tl++(data++own)) sc dsc x dx es1 n1 nt:=⟨hsub _ S.hsc,hsub _ S.hdsc,hsub _ S.hx,S.g1,S.g2,hoff⟩
      have N8':News h₀ L h8 ((dx,dictOf es' n2)::(tl++(data++own))):=news_sub N8 (by ((repeat' (first|with_reducible exact fun _ h=>h|with_reducible exact List.forall_mem_nil _|(with_reducible refine sub_cons ?_ ?_)|(with_reducible refine sub_app ?_ ?_)|(with_reducible refine sub_append ?_ ?_)|(intro q9 hq9;first|k_mem|(replace hq9:=hs _ hq9;k_mem))|k_mem));first|done|fail "left"))
      refine wpAny_execs_cons (law_t4 hC F8 Xb Tb N8' S' hdes hnt (DatIn.mono hsub hit) hok (part_mono hsub hq) (DatIn.mono (fun _ h=>List.mem_append_left _ h) hr) (by ((repeat' (first|assumption|exact if_pos rfl|refine (if_neg (by decide)).trans ?_));first|done|fail "left")) (by ((repeat' (first|assumption|exact if_pos rfl|refine (if_neg (by decide)).trans ?_));first|done|fail "left")) (by ((repeat' (first|assumption|exact if_pos rfl|refine (if_neg (by decide)).trans ?_));first|done|fail "left")) (by ((repeat' (first|assumption|exact if_pos rfl|refine (if_neg (by decide)).trans ?_));first|done|fail "left")) fun es9 h9 tk9 hdes9 F9 N9=>?_)
      refine wpAny_execs_nil ?_
      exact InvEndG.intro F9 N9 ⟨.tail _ hpd,es9,rfl,hdes9,fun y y1 y2 y3 y4 y5=>(if_neg y5).trans ((if_neg y4).trans ((if_neg y3).trans ((if_neg y2).trans (by rw [← hmx];exact (if_neg y1).trans (hmm y y1 y2 y3 y4 y5)))))⟩ hoff9 (by ((repeat' (first|with_reducible exact fun _ h=>h|with_reducible exact List.forall_mem_nil _|(with_reducible refine sub_cons ?_ ?_)|(with_reducible refine sub_app ?_ ?_)|(with_reducible refine sub_append ?_ ?_)|(intro q9 hq9;first|k_mem|(replace hq9:=hs _ hq9;k_mem))|k_mem));first|done|fail "left")) (by ((repeat' (first|with_reducible exact fun _ h=>h|with_reducible exact List.forall_mem_nil _|(with_reducible refine sub_cons ?_ ?_)|(with_reducible refine sub_app ?_ ?_)|(with_reducible refine sub_append ?_ ?_)|(intro q9 hq9;first|k_mem|(replace hq9:=hs _ hq9;k_mem))|k_mem));first|done|fail "left"))
    | net=>cases hpt
    | var=>cases hpt
    | par=>cases hpt
  · rintro m₁ nx h4 tk4 ⟨es',rfl,hdes,hmm⟩ F9 N9
    exact hQ m₁ _ h4 tk4 F9 N9
end
section
open PySem PySem.W PyProof.Rows PySem.Calls PyProof.Rows.LCg
theorem law_all {prog:Program} {w:World} {A A₀:Around} {base h₀:Heap} {L fa cd:Addr} {p:Program} {loose:List Str} {mean:ExcName→Option Value} {mg mb:Str→Option Value} {m:Str→Option Value} {s:Shared} {Q:Flow→Shared→Prop} {E:Value→Shared→Prop} {vs:List Value} {ns:List Int} {l:Addr} {oc:Obj}
    (C:Env0 w A A₀ (lawE L fa cd) [] base h₀ L 100 2000 p loose mean mg mb) (F:Fr h₀ L s.heap m) (hE:PassesOwn (model prog w) A (lawE L fa cd) E) (Xb:(K0 w.params).In base) (Tb:Top p loose mean mg mb base) (hm:m (Str.ofString "script")=some (.ref l)) (N:News h₀ L s.heap [(L+1,oc)]) (hoc:oc.data=.cell none) (hl:h₀.IsList l vs.toArray) (hi:IntsAre vs ns) (hlen:ns.length≤63)
    (hQ:∀ m' nx h' tk',Fr h₀ L h' m'→News h₀ L h' nx→Q (.ret (.bool true)) { s with heap:=h',toks:=tk' }) :
    wpAny (model prog w) A (execs [lawS 0,lawS 1,lawS 2,lawS 3,lawS 4,lawS 5,lawS 6,lawS 7,lawS 8,lawS 9,lawS 10,lawS 11,lawS 12,lawS 13] (lawE L fa cd)) Q E s:=by
  refine wpAny_execs_cons (law_s0 C F hm N hoc hl hi hlen fun hd dg k0 tk0 n1 n2 us ds oc' h1 tk1 F1 N1 hoc1 hus hds hk1 hne hch hcd=>?_)
  clear F N hm hoc hl hi hlen
  refine wpAny_execs_cons (law_s1 C F1 N1 hoc1 hus hds hk1 hne hch hcd fun il ps tl nI k tk h2 tk2 htl hI hz hk hil N2 F2=>?_)
  clear F1 N1
  obtain ⟨data,hdata⟩:∃ data,data=(il,listOf (ps.map (·.1)).toArray nI)::(tl++[(dg,listOf us.toArray n2),(L+1,oc')]):=⟨_,rfl⟩
  have N2':News h₀ L h2 ((hd,handO dg k tk n1)::data):=by
    rw [hdata]
    exact news_sub N2 (by ((repeat' (first|with_reducible exact fun _ h=>h|with_reducible exact List.forall_mem_nil _|(with_reducible refine sub_cons ?_ ?_)|(with_reducible refine sub_app ?_ ?_)|(with_reducible refine sub_append ?_ ?_)|(intro q9 hq9;first|k_mem|(replace hq9:=hs _ hq9;k_mem))|k_mem));first|done|fail "left"))
  have D:LD L hd dg il n2 nI us ds ps data:=by
    rw [hdata]
    refine ⟨hus,hds,.tail _ (List.mem_append_right _ (.head _)),⟨oc',.tail _ (List.mem_append_right _ (.tail _ (.head _))),hoc1⟩,.head _,fun p hp=>⟨DatIn.mono (fun _ h=>.tail _ (List.mem_append_left _ h)) (hI p hp).1,(hI p hp).2⟩,hz,fun p hp=>?_,hne⟩
    rcases List.mem_cons.mp hp with rfl|hp
    · exact Ne.symm (hil _ (.head _))
    · rcases List.mem_append.mp hp with hp|hp
      · exact tups_ne N2 (.tail _ (.head _)) notTup_list htl (by ((repeat' (first|with_reducible exact fun _ h=>h|with_reducible exact List.forall_mem_nil _|(with_reducible refine sub_cons ?_ ?_)|(with_reducible refine sub_app ?_ ?_)|(with_reducible refine sub_append ?_ ?_)|(intro q9 hq9;first|k_mem|(replace hq9:=hs _ hq9;k_mem))|k_mem));first|done|fail "left")) p hp
      · rcases List.mem_cons.mp hp with rfl|hp
        · exact Ne.symm hne
        · rw [List.mem_singleton.mp hp]
          exact hch
  clear hdata N2 hil htl hI hz hoc1 hus hds hne hch hcd
  refine wpAny_execs_cons (law_s2 C F2 N2' fun cl h3 tk3 F3 N3 hcl=>?_)
  refine wpAny_execs_cons (law_s3 C D hk F3 N3 (Ne.symm (hcl _ (.head _))) (fun p hp=>hcl p (.tail _ hp)) (if_pos rfl) fun r e us' n3 k tk tl h4 tk4 he hk htl hr hus' F4 N4=>?_)
  refine wpAny_execs_cons (law_s4 C F4 N4 (if_pos rfl) (by ((repeat' (first|assumption|exact if_pos rfl|refine (if_neg (by decide)).trans ?_));first|done|fail "left")) he hr (by ((repeat' (first|with_reducible exact fun _ h=>h|with_reducible exact List.forall_mem_nil _|(with_reducible refine sub_cons ?_ ?_)|(with_reducible refine sub_app ?_ ?_)|(with_reducible refine sub_append ?_ ?_)|(intro q9 hq9;first|k_mem|(replace hq9:=hs _ hq9;k_mem))|k_mem));first|done|fail "left")) (.head _) hus' fun h5 tk5 F5 N5=>?_)
  have N5':News h₀ L h5 ((hd,handO dg k tk n1)::data):=news_sub N5 (by ((repeat' (first|with_reducible exact fun _ h=>h|with_reducible exact List.forall_mem_nil _|(with_reducible refine sub_cons ?_ ?_)|(with_reducible refine sub_app ?_ ?_)|(with_reducible refine sub_append ?_ ?_)|(intro q9 hq9;first|k_mem|(replace hq9:=hs _ hq9;k_mem))|k_mem));first|done|fail "left"))
  clear N5 N4 N3 N2' F2 F3 F4
  refine wpAny_execs_cons (law_s5 C F5 N5' fun sc dsc x dx es es1 n nd t3 h6 tk6 F6 N6 hdes hg1 hg2 hz1 hlt o1 o2 o3=>?_)
  refine wpAny_execs_cons (law_s6 C F6 D hk N6 (if_pos rfl) hg1 hg2 hz1 hlt o1 o2 o3 fun es1' nt h7 tk7 hnt S F7 N7=>?_)
  obtain ⟨data7,hdata⟩:∃ data7,data7=(sc,instObj 1327 dsc)::(dsc,dictOf es1' nd)::(x,instObj 87 dx)::data:=⟨_,rfl⟩
  rw [← hdata] at S N7
  have hs7:∀ p∈data,p∈data7:=fun p hp=>by rw [hdata];exact .tail _ (.tail _ (.tail _ hp))
  have hil:(il,listOf (ps.map (·.1)).toArray nI)∈data7:=hs7 _ D.ilm
  have hI:ItsIn data7 ps:=fun p hp=>⟨DatIn.mono hs7 (D.its p hp).1,(D.its p hp).2⟩
  have hz:=D.len
  clear hdata hs7 D F5 N5' F6 N6 hlt
  refine wpAny_execs_cons (law_s7 C F7 N7 fun pd po h8 tk8 F8 N8 hpd hpo=>?_)
  refine wpAny_execs_cons (law_s8 C F8 N8 fun qd qo h9 tk9 F9 N9 hqd hqo=>?_)
  generalize hmx:(fun z=>if z=Str.ofString "partners" then some (Value.ref qd) else _)=mx at F9
  have x1:mx (Str.ofString "items")=some (.ref il):=by rw [← hmx];((repeat' (first|assumption|exact if_pos rfl|refine (if_neg (by decide)).trans ?_));first|done|fail "left")
  have x2:mx (Str.ofString "ports")=some (.ref pd):=by rw [← hmx];((repeat' (first|assumption|exact if_pos rfl|refine (if_neg (by decide)).trans ?_));first|done|fail "left")
  have x3:mx (Str.ofString "partners")=some (.ref qd):=by rw [← hmx];((repeat' (first|assumption|exact if_pos rfl|refine (if_neg (by decide)).trans ?_));first|done|fail "left")
  have x4:mx (Str.ofString "scope")=some (.ref sc):=by rw [← hmx];((repeat' (first|assumption|exact if_pos rfl|refine (if_neg (by decide)).trans ?_));first|done|fail "left")
  clear hmx F7 F8 N7 N8
  have N9':News h₀ L h9 ((pd,po)::((qd,qo)::(dx,dictOf es n)::data7)):=news_sub N9 (by ((repeat' (first|with_reducible exact fun _ h=>h|with_reducible exact List.forall_mem_nil _|(with_reducible refine sub_cons ?_ ?_)|(with_reducible refine sub_app ?_ ?_)|(with_reducible refine sub_append ?_ ?_)|(intro q9 hq9;first|k_mem|(replace hq9:=hs _ hq9;k_mem))|k_mem));first|done|fail "left"))
  have hqd1:=hqd _ (.head _)
  refine wpAny_execs_cons (law_s9 C F9 hE N9' hpo (List.forall_mem_cons.mpr ⟨Ne.symm hqd1,hpd⟩) (.tail _ (.tail _ hil)) hI (fun p hp=>.tail _ (.tail _ hp)) hz x1 x2 fun po' m1 h10 tk10 F10 e10 N10 hpo'=>?_)
  have N10':News h₀ L h10 ((qd,qo)::((pd,po')::(dx,dictOf es n)::data7)):=news_sub N10 (by ((repeat' (first|with_reducible exact fun _ h=>h|with_reducible exact List.forall_mem_nil _|(with_reducible refine sub_cons ?_ ?_)|(with_reducible refine sub_app ?_ ?_)|(with_reducible refine sub_append ?_ ?_)|(intro q9 hq9;first|k_mem|(replace hq9:=hs _ hq9;k_mem))|k_mem));first|done|fail "left"))
  have y1:=(e10 _ (by decide)).trans x1
  have y2:=(e10 _ (by decide)).trans x2
  have y3:=(e10 _ (by decide)).trans x3
  have y4:=(e10 _ (by decide)).trans x4
  refine wpAny_execs_cons (law_s10 C F10 hE N10' hqo (List.forall_mem_cons.mpr ⟨hqd1,fun p hp=>hqd p (.tail _ hp)⟩) (.head _) hpo' (.tail _ (.tail _ hil)) hI (fun p hp=>.tail _ (.tail _ hp)) hz y1 y2 y3 fun qo' kvs m2 h11 tk11 F11 e11 N11 hqo' hqr=>?_)
  have z1:=(e11 _ (by decide) (by decide) (by decide)).trans y1
  have z2:=(e11 _ (by decide) (by decide) (by decide)).trans y2
  have z3:=(e11 _ (by decide) (by decide) (by decide)).trans y3
  have z4:=(e11 _ (by decide) (by decide) (by decide)).trans y4
  refine wpAny_execs_cons (law_s11 C F11 N11 (.tail _ (.head _)) hpo' (.head _) hqo' hqr (.tail _ (.tail _ (.tail _ hil))) hI (fun p hp=>.tail _ (.tail _ (.tail _ hp))) hz z1 z2 z3 fun h12 tk12 F12 N12=>?_)
  have N12':News h₀ L h12 ((dx,dictOf es n)::((qd,qo')::(pd,po')::data7)):=news_sub N12 (by ((repeat' (first|with_reducible exact fun _ h=>h|with_reducible exact List.forall_mem_nil _|(with_reducible refine sub_cons ?_ ?_)|(with_reducible refine sub_app ?_ ?_)|(with_reducible refine sub_append ?_ ?_)|(intro q9 hq9;first|k_mem|(replace hq9:=hs _ hq9;k_mem))|k_mem));first|done|fail "left"))
  have hs8:∀ p∈data7,p∈(qd,qo')::(pd,po')::data7:=fun p hp=>.tail _ (.tail _ hp)
  have S':Sco ((qd,qo')::(pd,po')::data7) sc dsc x dx es1' nd nt:=⟨hs8 _ S.hsc,hs8 _ S.hdsc,hs8 _ S.hx,S.g1,S.g2,List.forall_mem_cons.mpr ⟨Ne.symm (hqd _ (.tail _ (.head _))),List.forall_mem_cons.mpr ⟨Ne.symm (hpd _ (.head _)),S.off⟩⟩⟩
  refine wpAny_execs_cons (law_s12 C F12 hE Xb Tb N12' S' hdes hnt (.tail _ (.head _)) hpo' (.head _) hqo' hqr (.tail _ (.tail _ hil)) (fun p hp=>⟨DatIn.mono hs8 (hI p hp).1,(hI p hp).2⟩) hz z1 z2 z3 z4 fun m3 nx h13 tk13 F13 N13=>?_)
  exact wpAny_execs_cons (law_s13 C F13 (hQ m3 nx h13 tk13 F13 N13))
end
section
theorem law_body:d0.body=[lawS 0,lawS 1,lawS 2,lawS 3,lawS 4,lawS 5,lawS 6,lawS 7,lawS 8,lawS 9,lawS 10,lawS 11,lawS 12,lawS 13]:=by kernel_rfl
theorem gl_none:importsNone q0=true:=by kernel_rfl
theorem gl_names:namesOk q0 (looseW q0 loose0) (namesW q0 loose0)=true:=by rewrite [Fast.te17448422675489707002,Fast.te821141287760084731];kernel_rfl
local macro_rules |`(tactic| k_qdec)=>`(tactic| first|exact gl_names|exact gl_none)
theorem law_holds (p:PySem.Challenge.rw_pq0481_01.row.wellSaid=true):PySem.Challenge.rw_pq0481_01.row.Holds:=by
  refine hd_said p ?hw ?hc
  case hw=>(show PySem.Challenge.rw_pq0481_01.row.toRowW.promised);w_witness2
  case hc =>
    unfold WalkO
    k_fill
    intro w s₀ s₁ mg mb G Y fa o pm cd doc dV kV ho hd hcd hD hmg hg args vals as hpre hlay hrd hwl hlo
    have KX:=kIn_of Y
    k_behind G ho hd hcd hD hmg hpre hlay hrd hwl hlo cd
    rename IntsAre _ _=>hI
    rename Heap.IsList _ _ _=>hL
    rename Fr _ _ _ _=>F
    rename News _ _ _ _=>N
    rename Top _ _ _ _ _ _=>T
    rename Below _ _ _ _=>Bl
    rename Obj.data _=_=>hoc
    rename ¬ _<_=>h63
    clear KX
    have KX:=kIn_of Y
    rw [law_body]
    refine law_all (L:=s₁.heap.objs.size) (fa:=fa) (base:=s₁.heap) (A₀:=callerA) (w:=w) (p:=q0) (loose:=looseW q0 loose0) (mean:=ExcName.means s₀.heap) (mg:=mg) (mb:=mb) ?C F ?hE KX T ?hm N ?hoc hL hI ?hlen ?hQ
    case C=>exact ⟨Bl,KX,T,rfl,rfl,rfl,rfl,(by simp only [depth_deeper,depth_caller];decide),(by simp only [units_deeper,units_caller];decide)⟩
    case hE=>passes_own
    case hm=>rfl
    case hoc=>exact hoc.trans rfl
    case hlen=>omega
    case hQ =>
      intro m' nx h' tk' F' N'
      clear F N
      wrow_close
end
end Mine
set_option maxRecDepth 100000 in
set_option maxHeartbeats 8000000 in
theorem PySem.Challenge.cw_pq0481_01_holds : PySem.Challenge.rw_pq0481_01.Holds := by
  exact Mine.head_first Mine.law_holds
