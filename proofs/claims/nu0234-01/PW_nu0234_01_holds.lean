import PyProof.Rows.All
import Wide.All
import OpenK.AllK
import Wide.FinOn
import KE.KWords
import Lean
import PySem.Challenge.RW_nu0234_01
open PySem PySem.W PyProof.Rows PySem.Calls
set_option Elab.async false
set_option linter.unusedVariables false
set_option linter.unusedSimpArgs false
set_option maxRecDepth 100000
set_option compiler.extract_closed false
set_option genSizeOfSpec false
set_option bootstrap.genMatcherCode false
set_option genSizeOf false
set_option genInjectivity false
namespace Mine.Internal
def sxp (s:String) (h:List Lean.Syntax):Lean.Syntax :=
 ((s.splitOn " ").foldl (fun (st:List (Array Lean.Syntax)) t =>
  let a:=st.head!
  if t==")" then (st.tail.head!.push (.node .none a[0]!.getAtomVal.toName (a.extract 1 a.size)))::st.tail.tail
  else if t.front=='(' then #[.atom .none (((t.drop 1).toString.replace "~" "Lean.Parser.Tactic.").replace "^" "Lean.Parser.Term.")]::st
  else (a.push (if t.front=='%' then h[(t.drop 1).toString.toNat!]! else if t.front=='\'' then Lean.mkIdent (t.drop 1).toString.toName else .atom .none t))::st.tail) [#[]]).head![0]!
def sxi (e:String):Lean.Syntax :=
 if e.front=='!' then sxp (e.drop 1).toString [] else
 if e.front=='$' then sxp ("(PyProof.Rows.tacticWalk_at_ x (str \""++(e.drop 1).toString++"\" ) )") [] else
 let w:=e.splitOn " "
 let p:=w.tail.foldl (fun (s,n) h =>
  if h=="r" then (s++" (^syntheticHole ? _ )",n++"; (~case x (null (~caseArg (Lean.binderIdent (^hole _ ) ) (null ) ) ) x (~tacticSeq (~tacticSeq1Indented (null (~tacticRfl x ) ) ) ) ) ")
  else if h=="q" then (s++" (^syntheticHole ? _ )",n++"; (~case x (null (~caseArg (Lean.binderIdent (^hole _ ) ) (null ) ) ) x (~tacticSeq (~tacticSeq1Indented (null (~first x (null (group x (~exact x (^fun x (^basicFun (null (^hole _ ) ) (null ) => 'rfl ) ) ) ) (group x (~exact x (^fun x (^basicFun (null (^hole _ ) (^hole _ ) ) (null ) => 'rfl ) ) ) ) ) ) ) ) ) ) ")
  else (s++" (^byTactic x "++(if h=="K" then "(tacticKernel_rfl x )" else if h=="D" then "(~decide x (~optConfig (null (~configItem (~posConfigItem + 'kernel ) ) ) ) )" else "(PyProof.Rows.tacticWalk_at_ x (str \""++h++"\" ) )")++" )",n)) ("(~paren x (~tacticSeq1Indented (null (~withReducible x (~refine x (^app '"++w.head!++" (null","")
 sxp (p.1++" (^syntheticHole ? _ ) ) ) ) ) "++p.2++") ) x )") []
def sxr (z:String):Lean.Syntax :=
 let k:=z.splitOn " "
 match ("g|R|$st#cap|R|$cap1#cap1|F|!(~exact x 'capOk.nil )&capOk.no r&capOk.yes loc#loc|R|!(~withReducible x (~assumption x ) )&!(~withReducible x (~exact x 'setL_same ) )&setL_other K&compLoc_free K#cb|L|len range enumerate tuple list dict str int abs#kp|L|run_end skipped word_end words_of_text is_name read_glyph_set read_item starts_item read_items chain_row read_names is_marked read_substitution_row read_worth read_position_row refuse_sets read_row check_row read_lookup read_feature read_rules show_set show_worth show_chain show_row show_lookup show_feature show_rules law_pen law_draw law_kinds law_glyph law_some law_worth law_chain law_row law_left law_lookup law_told_tree law_set_words law_worth_words law_row_words law_lookup_words law_feature_words law_words law_text law_bare law RuleTree LookupBlock RuleRow FeatureRow RuleReader#gv|L|run_end skipped word_end words_of_text is_name read_glyph_set read_item starts_item read_items chain_row read_names is_marked read_substitution_row read_worth read_position_row refuse_sets read_row check_row read_lookup read_feature read_rules show_set show_worth show_chain show_row show_lookup show_feature show_rules law_pen law_draw law_kinds law_glyph law_some law_worth law_chain law_row law_left law_lookup law_told_tree law_set_words law_worth_words law_row_words law_lookup_words law_feature_words law_words law_text law_bare law RuleTree LookupBlock RuleRow FeatureRow RuleReader LETTERS FIGURES SIGNS BLANKS LINE_ENDS MOST_SIGNS MOST_FLAG MOST_VALUE law_glyphs WORDS#evn|F|EV.locE K K loc&EV.globE K K gv#evc|F|EV.callG K K gv kp r&EV.callX K K cb r#ev|F|EV.cint&EV.cstr&EV.cbool&EV.cnone&!(~paren x (~tacticSeq1Indented (null (~withReducible x (~change x (^app 'EV (null (^hole _ ) (^hole _ ) (^app 'PySem.Expr.Name (null (^hole _ ) (^hole _ ) ) ) (^hole _ ) (^hole _ ) (^hole _ ) (^hole _ ) ) ) (null ) ) ) ; (PyProof.Rows.tacticWalk_at_ x (str \"evn\" ) ) ) ) x )&EV.bin&EV.un&!(~paren x (~tacticSeq1Indented (null (~withReducible x (~change x (^app 'EV (null (^hole _ ) (^hole _ ) (^app 'PySem.Expr.Call (null (^app 'PySem.Expr.Name (null (^hole _ ) (^hole _ ) ) ) (^hole _ ) (^hole _ ) (^hole _ ) ) ) (^hole _ ) (^hole _ ) (^hole _ ) (^hole _ ) ) ) (null ) ) ) ; (PyProof.Rows.tacticWalk_at_ x (str \"evc\" ) ) ) ) x )&EV.cut&EV.sub&EV.listX r D&EV.tuple r D&EV.list r D&EV.ifexp&EV.attr q&EV.meth q r r D&EV.cmp r&EV.boolop#st|F|iteEqT D&iteEqF D&XV.cons&exBool&iteT&iteF&iteNT&iteNF&exInt&XV.nil&!(~paren x (~tacticSeq1Indented (null (~withReducible x (~change x (^app 'EV (null (^hole _ ) (^hole _ ) (^hole _ ) (^hole _ ) (^hole _ ) (^hole _ ) (^hole _ ) ) ) (null ) ) ) ; (PyProof.Rows.tacticWalk_at_ x (str \"ev\" ) ) ) ) x )&EVs.nil&EVs.cons&AllV.andNil&AllV.orNil&AllV.andCons&AllV.orCons&TV.cmp r&TV.cmp2 r&TV.not&TV.boolop&TV.evB q&BoolV.andB&BoolV.orB&BoolV.one&Op2.addInt&Op2.subInt&Op2.ltInt&Op2.gtInt&Op2.leInt&Op2.geInt&Op2.eqInt&Op2.neInt&Op2.eqStr&Op2.neStr&Op2.inStr&Op2.notInStr&Op1.negInt&Op1.notBool&PartV.no&PartV.yes&SV.assign q q r&SV.ret&SV.ifs&SV.expr q&TgV.nameE K&TgV.tup r r&TgVs.cons&CondV.nil&CondV.one&TgVs.nil&TgV.attr&TgV.item#o|F|!(~lia x (~optConfig (null (~configItem (~negConfigItem - 'abstractProof ) ) ) ) )&!(~omega x (~optConfig (null ) ) )#ne|R|!(~exact x 'ne_cx )&!(~refine x (^app 'neP (null (^syntheticHole ? _ ) (^syntheticHole ? _ ) ) ) )&!(~exact x (^anonymousCtor ⟨ (null 'default ) ⟩ ) )&!(~paren x (~tacticSeq1Indented (null (~refine x (^anonymousCtor ⟨ (null (^syntheticHole ? _ ) ) ⟩ ) ) ; (PyProof.Rows.tacticWalk_at_ x (str \"ne1\" ) ) ) ) x )#ne1|F|!(~exact x 'default )&!(~paren x (~tacticSeq1Indented (null (~intro x (null (^hole _ ) ) ) ; (PyProof.Rows.tacticWalk_at_ x (str \"ne1\" ) ) ) ) x )&!(~focus x (~tacticSeq (~tacticSeq1Indented (null (~constructor x ) ; (~allGoals x (~tacticSeq (~tacticSeq1Indented (null (PyProof.Rows.tacticWalk_at_ x (str \"ne1\" ) ) ) ) ) ) ) ) ) )#close|N|all|(~paren x (~tacticSeq1Indented (null (~refine x (^noImplicitLambda x (^app %0 (null (^namedArgument x 'p := (^syntheticHole ? 'pp ) x ) (^syntheticHole ? 'nn ) (^app (^typeAscription (^hygienicLParen x (hygieneInfo '[anonymous] ) ) (^syntheticHole ? 'mm ) : (null (^forall ∀ %1 (null ) , (^app (^syntheticHole ? 'pp ) %1 ) ) ) x ) %2 ) ) ) ) ) ; (~case x (null (~caseArg (Lean.binderIdent 'nn ) (null ) ) ) x (~tacticSeq (~tacticSeq1Indented (null (PyProof.Rows.tacticWalk_at_ x (str \"ne\" ) ) ) ) ) ) ) ) x )#def|N|CallC.def|(~refine x (^app %0 (null (^namedArgument x 'K := (^app 'Mine.Internal.hd.heap_1 (null (^hole _ ) ) ) x ) (^app 'PC.X (null (^byTactic x (~assumption x ) ) ) ) 'rfl (^byTactic x (tacticKernel_rfl x ) ) (^byTactic x (~tacticSeq1Indented (null (~intros x (null ) ) ; (~tacticRfl x ) ) ) ) (^byTactic x (tacticKernel_rfl x ) ) 'rfl 'rfl 'rfl (^syntheticHole ? _ ) ) ) )".splitOn "#").find? fun r=>r.startsWith (k.head!++"|") with
 | none=>.missing
 | some r =>
  let p:=r.splitOn "|"
  let m:=p[1]!
  if m=="N" then
   let n:=k[1]!
   sxp p[3]! [Lean.mkIdent (p[2]!++n).toName,Lean.mkNullNode ((Array.range n.toNat!).map fun i=>Lean.mkIdent ("a"++toString i).toName),Lean.mkNullNode ((Array.range n.toNat!).map fun _=>sxp "(^hole _ )" [])]
  else
   let l:=if m=="L" then (p[2]!.splitOn " ").map fun x=>sxp ("(~withReducible x (~exact x (^app '"++k.head!++"_"++x++" (null (^byTactic x (~assumption x ) ) ) ) ) )") [] else (p[2]!.splitOn "&").map sxi
   let f:=sxp "(~first x %0 )" [Lean.mkNullNode (l.map fun t=>sxp "(group x %0 )" [t]).toArray]
   if m=="R" then sxp "(~tacticRepeat_ x (~tacticSeq (~tacticSeq1Indented (null %0 ) ) ) )" [f] else f
local macro_rules
 | `(tactic| walk_at $z:str)=>match sxr z.getString with
  | .missing=>Lean.Macro.throwUnsupported
  | s=>pure s
local macro_rules
 | `(tactic| o_law)=>pure (sxp "(~refine x (^app 'holds_law (null 'hdSaid (^fun x (^basicFun (null 'said ) (null ) => (^syntheticHole ? _ ) ) ) ) ) )" [])
local macro_rules
 | `(tactic| o_head $H)=>pure (sxp "(~refine x (^app 'hdAll (null %0 'rfl (^byTactic x (~tacticRfl x ) ) (^byTactic x (~tacticRfl x ) ) (^byTactic x (~tacticRfl x ) ) (^fun x (^basicFun (null 'w ) (null ) => (^byTactic x (tacticKernel_rfl x ) ) ) ) (^syntheticHole ? 'hw ) (^syntheticHole ? 'hc ) ) ) )" [H])
noncomputable def topRunT (tb:String→Option Builtin) (p:Program) (w:World) (n₀:Nat) (ann:Option Value):Nat→SharedT→Thread→Option SharedT
 | 0,_,_=>none
 | n+1,s,t=>match through t with
  | true=>some s
  | false=>match stepOk n₀ ann t with
   | false=>none
   | true=>match stepT (denote tb) p w s t with
    | some (s',t')=>topRunT tb p w n₀ ann n s' t'
    | none=>none
theorem topRun_of {tb:String→Option Builtin} {p:Program} {w:World} {n₀:Nat} {ann:Option Value} {n:Nat} {s s':SharedT} {t:Thread} (h:topRunT tb p w n₀ ann n s t=some s'):topRun tb p w n₀ ann n s.abs t=some s'.abs:=by
 induction n generalizing s t with
 | zero=>cases h
 | succ n ih =>
  have hs:=@stepT_spec (denote tb) p w s
  revert h hs
  show (match through t with | true=>some s | false=>match stepOk n₀ ann t with | false=>none | true=>match stepT (denote tb) p w s t with | some (s',t')=>topRunT tb p w n₀ ann n s' t' | none=>none)=some s'→_ →
   (match through t with | true=>some s.abs | false=>match stepOk n₀ ann t with | false=>none | true=>match step (denote tb) p w s.abs t with | .go s' t'=>topRun tb p w n₀ ann n s' t' | .halt _ _=>none)=some s'.abs
  generalize through t=b1,stepOk n₀ ann t=b2
  intro h hs
  cases b1 with
  | true=>cases h; rfl
  | false=>cases b2 with
   | false=>cases h
   | true =>
    cases ho:stepT (denote tb) p w s t with
    | none=>rw [ho] at h; cases h
    | some r=>rw [ho] at h; rw [hs ho]; exact ih h
noncomputable def insAll:List Obj→Nat→BT→BT
 | [],_,t=>t
 | o::r,n,t=>insAll r (n+1) (t.ins n o)
noncomputable def insOk:List Obj→Nat→BT→Bool
 | [],_,_=>true
 | o::r,n,t=>((t.ins n o).get n).isSome&&insOk r (n+1) (t.ins n o)
theorem insAll_abs {life:Life} (l:List Obj) (n:Nat) (t:BT) (xs:List Obj) (h:insOk l n t=true) (e:absHeap t n life=⟨xs.toArray,life⟩):absHeap (insAll l n t) (n+l.length) life=⟨(xs++l).toArray,life⟩:=by
 induction l generalizing n t xs with
 | nil=>rw [List.append_nil]; exact e
 | cons o r ih =>
  have h':=Bool.and_eq_true_iff.mp h
  have e2:=absHeap_ins (life:=life) h'.1
  rw [e] at e2
  have:=ih (n+1) (t.ins n o) (xs++[o]) h'.2 (by rw [e2]; simp [Heap.push])
  rw [List.append_assoc] at this
  rw [List.length_cons,Nat.add_comm r.length 1,← Nat.add_assoc]
  exact this
noncomputable def bootT (P:Params):BT:=insAll (boot_heap P).objs.toList 0 .nil
noncomputable def bootS (w:World) (os:OsState):SharedT:=⟨bootT w.params,(boot_heap w.params).objs.size,(boot_heap w.params).life,Array.mk [],boot_drawn,boot_toks,os⟩
theorem boot_ok (P:Params):insOk (boot_heap P).objs.toList 0 .nil=true:=by kernel_rfl
theorem bootS_abs (w:World) (os:OsState):(bootS w os).abs=⟨boot_heap w.params,Array.mk [],boot_drawn,boot_toks,os⟩:=by
 have h:=insAll_abs (life:=(boot_heap w.params).life) (boot_heap w.params).objs.toList 0 .nil [] (boot_ok _) rfl
 have e:absHeap (bootT w.params) (boot_heap w.params).objs.size (boot_heap w.params).life=boot_heap w.params:=by
  rw [Nat.zero_add,List.nil_append,Array.length_toList] at h
  exact h
 unfold SharedT.abs bootS
 rw [e]
noncomputable abbrev hdPg:Program:=PySem.Challenge.pw_nu0234_01
noncomputable def hdQv:Program:={ hdPg with main:={ hdPg.main with body:=hdPg.main.body.filter fun s=>plainName? s==some (Str.ofString "law") } }
noncomputable def hdLo:List Str:=hdPg.boundNames.filter fun n=>!(n==Str.ofString "law"||n==Str.ofString "__name__")
theorem hdL1:opening hdPg=plainProg hdPg.main.scope.names:=by kernel_rfl
theorem hdL2:∀ s,fenceModules? hdPg s=some s:=fun s=>by kernel_rfl
theorem hdL3 (P:Params):((boot_heap P).isNs mainGlobals&&(Array.mk []:Array GenState).size==0)=true:=by kernel_rfl
theorem hdL4 (w:World):∃ os,fencedOpening treeTable hdPg w 8000=some ⟨boot_heap w.params,Array.mk [],boot_drawn,boot_toks,os⟩:=by
 obtain ⟨s₀,e0,e1⟩:=Option.map_eq_some_iff.mp (boot_open (p:=hdPg) (N:=8000) hdL1 (by decide +kernel) hdL2 w)
 obtain ⟨H,gs,dr,tk,os⟩:=s₀
 simp only [Prod.mk.injEq] at e1
 obtain ⟨rfl,rfl,rfl,rfl⟩:=e1
 exact ⟨os,e0⟩
theorem hdL5 {p:Program} {w:World} {s₀ s₁:Shared} {N:Nat} (i1:(s₀.heap.isNs mainGlobals&&s₀.gens.size==0)=true)
  (hr:topRun treeTable p w s₀.heap.objs.size (s₀.heap.nsMap mainGlobals "__annotations__") N s₀ (topStub p)=some s₁)
  (g2:(staticsOk (importedModules p.main.body) s₀.heap s₁.heap&&namesBound p s₁.heap&&gensDone s₁&&laidKept s₀.heap s₁.heap)=true):topFrom treeTable p w N s₀=some s₁:=by
 unfold topFrom
 simp only [i1,hr,Option.bind_some,g2]
theorem hdL7 {p q:Program} {loose:List Str} {α:Type} {Yf:Shared→α} {y:α} {w:World} {N:Nat} {s₀ s₁:Shared} (e0:fencedOpening treeTable p w N=some s₀) (ht:topFrom treeTable p w N s₀=some s₁)
  (g1:openSeen q loose (importedModules p.main.body) (fun _=>true) true s₁=openGood q loose) (g3:Yf s₁=y):(openEnds treeTable p w N).map (fun s=>(openSeen q loose (importedModules p.main.body) (fun _=>true) true s,Yf s))=some (openGood q loose,y):=by
 unfold openEnds
 rw [e0,Option.bind_some,ht,Option.map_some,g1,g3]
noncomputable def HdL {α:Type} (p q:Program) (loose:List Str) (Yt:SharedT→α) (Ya:World→α) (N:Nat):Prop:=∀ w:World,(fun os=>(topRunT treeTable p w (boot_heap w.params).objs.size ((boot_heap w.params).nsMap mainGlobals "__annotations__") N (bootS w os) (topStub p)).map (fun s=>(openSeen q loose (importedModules p.main.body) (fun _=>true) true s.abs,
   staticsOk (importedModules p.main.body) (boot_heap w.params) s.abs.heap&&namesBound p s.abs.heap&&gensDone s.abs&&laidKept (boot_heap w.params) s.abs.heap,Yt s)))=fun _=>some (openGood q loose,true,Ya w)
theorem left_gen {p q:Program} {loose:List Str} {α:Type} {Yt:SharedT→α} {Yf:Shared→α} {Ya:World→α} {N:Nat} (h1:∀ w,∃ os,fencedOpening treeTable p w N=some ⟨boot_heap w.params,Array.mk [],boot_drawn,boot_toks,os⟩)
  (h:HdL p q loose Yt Ya N) (hY:∀ w s,Yt s=Ya w→Yf s.abs=Ya w):LeftO p q loose (fun _=>true) Yf Ya N:=fun w=>by
 obtain ⟨os,e0⟩:=h1 w
 obtain ⟨s,hr,hs⟩:=Option.map_eq_some_iff.mp (congrFun (h w) os)
 have g:=Prod.mk.inj hs
 have g':=Prod.mk.inj g.2
 have hr':=topRun_of hr
 rw [bootS_abs] at hr'
 exact hdL7 e0 (hdL5 (hdL3 _) hr' g'.1) g.1 (hY w s g'.2)
noncomputable def getT (s:SharedT) (a:Addr):Option Obj:=bif Nat.blt a s.n then (s.tree.get a).bind alive else none
theorem getT_of {s:SharedT} {a:Addr} {o:Obj} (h:getT s a=some o):s.abs.heap.get? a=some o:=by
 unfold getT at h
 cases hb:Nat.blt a s.n with
 | false=>rw [hb] at h; cases h
 | true =>
  rw [hb] at h
  cases ht:s.tree.get a with
  | none=>rw [ht] at h; cases h
  | some x=>rw [ht] at h; exact (abs_get (Nat.le_of_ble_eq_true hb) ht).trans h
theorem map_of {f g:Addr→Option Obj} (k:∀ a o,f a=some o→g a=some o) (as:List Addr) (K:List (Addr×Obj)) (h:as.map f=K.map fun p=>some p.2):as.map g=K.map fun p=>some p.2:=by
 induction as generalizing K with
 | nil=>exact h
 | cons a r ih=>cases K with
  | nil=>cases h
  | cons p K=>injection h with h1 h2; rw [List.map_cons,List.map_cons,k a _ h1,ih K h2]
theorem hdS1:sreFenced PySem.Challenge.rw_nu0234_01.row.prog.main=true:=by kernel_rfl
theorem hdS2:((moduleNames PySem.Challenge.rw_nu0234_01.row.prog.main.body).isEmpty||lookedIntoSs (moduleNames PySem.Challenge.rw_nu0234_01.row.prog.main.body) PySem.Challenge.rw_nu0234_01.row.prog.main.body)=true:=by kernel_rfl
theorem hdS3:namesResolve PySem.Challenge.rw_nu0234_01.row.prog=true:=by kernel_rfl
theorem hdS4:(PySem.Challenge.rw_nu0234_01.row.prog.boundNames.all fun n=>!worldNames.contains n)=true:=by kernel_rfl
theorem hdS5:noRoadLSs { strict:=!(importedModules PySem.Challenge.rw_nu0234_01.row.prog.main.body).all cThrough.contains,foot:=none,bare:=(["vars","dir","locals"]:List Str).filter (readsOut PySem.Challenge.rw_nu0234_01.row.prog PySem.Challenge.rw_nu0234_01.row.prog.main.body) } PySem.Challenge.rw_nu0234_01.row.prog.main.body=true:=by kernel_rfl
theorem hdS6:(namesMeet PySem.Challenge.rw_nu0234_01.row.prog PySem.Challenge.rw_nu0234_01.row.prog.main.body fun _ n=>attrL n)=true:=by kernel_rfl
theorem hdS7:noRoadLSs { strict:=true,foot:=some PySem.Challenge.rw_nu0234_01.bound',writes:=PySem.Challenge.rw_nu0234_01.writes,may:=PySem.Challenge.rw_nu0234_01.may } PySem.Challenge.rw_nu0234_01.footing=true:=by kernel_rfl
theorem hdS8:defStands PySem.Challenge.rw_nu0234_01.about PySem.Challenge.rw_nu0234_01.above=true:=by kernel_rfl
theorem hdS9:PySem.Challenge.rw_nu0234_01.namesIt=true:=by kernel_rfl
theorem hdS10:(PySem.Challenge.rw_nu0234_01.bound'.all fun n=>!builtinNamed n||PySem.Challenge.rw_nu0234_01.about==[n]||!PySem.Challenge.rw_nu0234_01.reads n)=true:=by kernel_rfl
theorem hdS11:noClassBlock PySem.Challenge.rw_nu0234_01.prog PySem.Challenge.rw_nu0234_01.footing=true:=by kernel_rfl
theorem hdS12:(PySem.Challenge.rw_nu0234_01.own.all fun n=>!builtinNamed n)=true:=by kernel_rfl
theorem hdSaid:PySem.Challenge.rw_nu0234_01.wellSaid=true:=by
 delta OpenLaw.wellSaid OpenRow.wellSaid OpenRow.partSaid looksOpen
 repeat' with_reducible refine look_both ?_ ?_
 all_goals first | with_reducible exact hdS1 | with_reducible exact hdS2 | with_reducible exact hdS3 | with_reducible exact hdS4 | with_reducible exact hdS5 | with_reducible exact hdS6 | with_reducible exact hdS7 | with_reducible exact hdS8 | with_reducible exact hdS9 | with_reducible exact hdS10 | with_reducible exact hdS11 | with_reducible exact hdS12 | kernel_rfl
theorem hdAll (H:Hook) {K:Params→Frag} {as:List Addr} {e:∀ P,as=(K P).map (·.1)} (hH:H=kHook K as e) {d:DefRec} {kwd:List (Str×Expr)} (hdef:defOf hdQv PySem.Challenge.rw_nu0234_01.row.name=some (d,kwd)) (hp:PySem.Challenge.rw_nu0234_01.row.prog.theDef PySem.Challenge.rw_nu0234_01.row.name=some (d.params,d.body,d.scope)) (hk:kwWritten? d.params.kwonlyargs d.params.kw_defaults=some kwd)
  (hl:HdL hdPg hdQv hdLo (fun s=>as.map (getT s)) (fun w=>(K w.params).map fun p=>some p.2) 8000)
  (hw:PySem.Challenge.rw_nu0234_01.row.toRowW.promised) (hc:WalkO hdQv hdLo (fun _ _=>True) H.says PySem.Challenge.rw_nu0234_01.row.toRowW d kwd fun f vs=>PySem.call f vs):PySem.Challenge.rw_nu0234_01.row.Holds:=by
 have L:LeftO hdPg hdQv hdLo (fun _=>true) H.obs H.val 8000:=by
  subst hH
  exact left_gen (Yf:=fun s=>as.map s.heap.get?) hdL4 hl fun w s h=>map_of (fun _ _=>getT_of) _ _ h
 exact PySem.W.holds_open (q:=hdQv) (loose:=hdLo) (Xt:=fun _=>true) (XP:=fun _ _=>True) (Yf:=H.obs) (Ya:=H.val) (YP:=H.says) (N:=8000) L H.of H.keeps (fun _ _=>trivial) (fun _ _ _ _ _=>trivial) hdef hp hk (fun _ _=>recFacts_nil rfl) (by rfl) (row_said hdSaid) (by decide +kernel) ⟨rfl,rfl,rfl,rfl,rfl,by decide +kernel⟩ hw hc
set_option maxHeartbeats 8000000 in
open_top hd for PySem.Challenge.rw_nu0234_01
theorem ar0 {x0 x1:Nat}:(x0+(x1+1))=((x0+1)+x1):=by simp +arith
theorem ar1 {x0 x1:Nat} (h0:(x0:Int) < (x1:Int)):x0 < x1:=by exact Int.ofNat_lt.mp h0
theorem ar2 {x0:Nat}:¬ ((x0:Int) < 0):=by omega
theorem ar3 {x0 x1:Nat} (h0:x0 < x1):x0 < x1:=by omega
theorem ar4 {x0:Nat}:(-(2 ^ 63))≤(x0:Int):=by exact Int.natCast_nonneg _
theorem ar5 {x0 x1:Nat} (h0:x1 < (2 ^ 60)) (h1:x0 < x1):(x0:Int) < (2 ^ 63):=by grind -abstractProof
theorem ar6 {x0:Nat} (h0:x0 < (2 ^ 60)):(x0:Int) < (2 ^ 63):=by exact Int.ofNat_lt.mpr (Nat.lt_of_lt_of_le h0 (by decide))
theorem ar7 {x0 x1:Nat} (h0:(x1:Int) < (x0:Int)):(x0 - (x1+1)) < (x0 - x1):=by grind -abstractProof
theorem ar8 {x0 x1:Nat} (h0:¬ ((x0:Int) < (x1:Int))) (h1:x0 < x1):False:=by omega
theorem ar9 {x0 x1:Nat}:(x0+(1+x1))=((x0+1)+x1):=by exact (Nat.add_assoc _ _ _).symm
theorem ar10 {x0 x1 x2 x3 x4:Nat} (h0:(x1:Int) < (x0:Int)) (h1:(x2 < x1)∧(x3=x4)):(x0 - x1) < (x0 - x2):=by grind -abstractProof
theorem ar11 {x0 x1 x2 x3 x4:Nat} (h0:(x2:Int) < (x0:Int)) (h1:(x2 < x1)∧(x3=x4)):(x0 - x1) < (x0 - x2):=by subst_vars; lia -abstractProof
theorem ar12 {x0 x1:Nat} (h0:¬ ((x1:Int) < (x0:Int))):x0≤x1:=by omega
theorem ar13 {x0 x1:Nat} (h0:((x0:Int)+1) < (x1:Int)):(x0+1) < x1:=by exact Int.ofNat_lt.mp h0
theorem ar14 {x0 x1 x2:Nat} (h0:(x2=45)∧((x0+1) < x1)):((x0:Int)+1) < (x1:Int):=by subst_vars; lia -abstractProof
theorem ar15 {x0:Nat} (h0:x0 < (2 ^ 24)):x0 < (2 ^ 60):=by omega
theorem ar16 {x0 x1:Nat} (h0:x0≤x1) (h1:(x1:Int) < (x0:Int)):False:=by grind -abstractProof
theorem ar17 {x0 x1:Nat} (h0:x1=(2 ^ 24)) (h1:(x0+1) < 16777216):x0 < x1:=by subst_vars; omega
theorem ar18 {x0 x1:Nat} (h0:x0 < x1) (h1:¬ ((x0:Int) < (x1:Int))):False:=by grind -abstractProof
theorem ar19 {x0 x1:Nat} (h0:x0 < (2 ^ 24)) (h1:x1=(2 ^ 24)):x0≤x1:=by subst_vars; omega
theorem ar20 {x0:Nat}:0≤(x0:Int):=by simp +arith
theorem ar21 {x0 x1:Nat} (h0:x0 < x1):(x0:Int)≤(x1:Int):=by grind -abstractProof
theorem ar22 {x0 x1:Nat} (h0:x0≤x1):(x0:Int)≤(x1:Int):=by exact Int.ofNat_le.mpr h0
theorem ar23 {x0 x1 x2:Nat} (h0:x1=(2 ^ 24)) (h1:(x0+x2) < 16777216):x0 < x1:=by lia -abstractProof
theorem ar24 {x0 x1:Nat}:(Int.toNat ((x0:Int) - (x1:Int)))=(x0 - x1):=by exact Int.toNat_sub _ _
theorem ar25 {x0 x1:Nat} (h0:x0 < x1) (h1:x1 < (2 ^ 24)):x0 < (2 ^ 24):=by subst_vars; grind -abstractProof
theorem ar26 {x0:Nat} (h0:x0 < (2 ^ 24)):(x0:Int) < (2 ^ 63):=by exact Int.ofNat_lt.mpr (Nat.lt_of_lt_of_le h0 (by decide))
theorem ar27 {x0:Nat} (h0:x0≤4) (h1:4 < (x0:Int)):False:=by lia -abstractProof
theorem ar28 {x0:Nat} (h0:0 < x0):(0≤((-1)+(x0:Int)))∧(((-1)+(x0:Int)) < (x0:Int)):=by lia -abstractProof
theorem ar29 {x0:Nat}:(Int.toNat ((-1)+(x0:Int)))=(x0 - 1):=by rw [Int.add_comm]; exact Int.toNat_sub _ 1
theorem ar30 {x0:Nat} (h0:x0≤6):x0 < (2 ^ 60):=by grind -abstractProof
theorem ar31 {x0:Nat} (h0:x0≤6):(x0:Int) < (2 ^ 63):=by lia -abstractProof
theorem ar32 {x0:Nat} (h0:x0≤6) (h1:6 < (x0:Int)):False:=by lia -abstractProof
theorem ar33 {x0:Nat} (h0:¬ (6 < (x0:Int))):x0≤640:=by lia -abstractProof
theorem ar34 {x0:Nat}:(min x0 4)≤x0:=by subst_vars; lia -abstractProof
theorem ar35 {x0:Nat} (h0:x0 < 4):(x0+1)≤4:=by exact h0
theorem ar36 {x0 x1:Nat}:(x0+(x1+1))=((x0+x1)+1):=by rfl
theorem ar37 {x0:Nat} (h0:x0 < 1000):x0≤16777216:=by grind -abstractProof
theorem ar38 {x0 x1:Nat} (h0:(x0+x1) < 1000):x0 < 16777216:=by refine Nat.lt_of_le_of_lt ?_ (Nat.lt_of_lt_of_le h0 (by decide)); repeat (first | exact Nat.le_refl _ | exact Nat.le_add_left _ _ | refine Nat.le_trans ?_ (Nat.le_add_right _ _))
theorem ar39 {x0:Nat}:(((2 * x0)+1)+1)=(2 * (x0+1)):=by rfl
theorem ar40 {x0 x1:Nat}:(((x0+1)+x1)+1)=(x0+((x1+1)+1)):=by simp +arith
theorem ar41 {x0 x1 x2:Nat}:(((x0+x1)+1)+x2)=(x0+(x1+(x2+1))):=by simp +arith
theorem ar42 {x0 x1 x2:Nat} (h0:((x1+(2 * x2))+1) < (2 ^ 24)) (h1:x0=x2):x0 < 16777216:=by subst_vars; lia -abstractProof
theorem ar43 {x0 x1:Nat}:(x0+(2 * (x1+1)))=(((x0+(2 * x1))+1)+1):=by rfl
theorem ar44 {x0 x1:Nat}:(((x0+(2 * x1))+1)+1)=(x0+(2 * (x1+1))):=by simp +arith
theorem ar45 {x0:Nat}:1≤((x0:Int)+1):=by lia -abstractProof
theorem ar46 {x0:Nat}:(Int.toNat ((-1)+((x0:Int)+1)))=x0:=by rw [Int.add_comm]; exact Int.toNat_sub _ 1
theorem ar47 {x0:Nat}:2≤((x0:Int)+2):=by simp +arith
theorem ar48 {x0:Nat}:(Int.toNat ((-2)+((x0:Int)+2)))=x0:=by simp +arith
theorem ar49 {x0 x1 x2 x3:Nat} (h0:x1 < 1000) (h1:x0=x2) (h2:(x1+1)=(x2+x3)):x0 < 2000:=by lia -abstractProof
theorem ar50 {x0:Nat} (h0:x0 < 2000):x0 < 16777216:=by refine Nat.lt_of_le_of_lt ?_ (Nat.lt_of_lt_of_le h0 (by decide)); repeat (first | exact Nat.le_refl _ | exact Nat.le_add_left _ _ | refine Nat.le_trans ?_ (Nat.le_add_right _ _))
theorem ar51 {x0:Nat} (h0:(x0+1) < 2000):x0 < (2 ^ 60):=by refine Nat.lt_of_le_of_lt ?_ (Nat.lt_of_lt_of_le h0 (by decide)); repeat (first | exact Nat.le_refl _ | exact Nat.le_add_left _ _ | refine Nat.le_trans ?_ (Nat.le_add_right _ _))
theorem ar52 {x0:Nat} (h0:x0 < 2000):x0 < 1152921504606846976:=by refine Nat.lt_of_le_of_lt ?_ (Nat.lt_of_lt_of_le h0 (by decide)); repeat (first | exact Nat.le_refl _ | exact Nat.le_add_left _ _ | refine Nat.le_trans ?_ (Nat.le_add_right _ _))
theorem ar53 {x0:Nat} (h0:x0 < (2 ^ 24)):x0≤(2 ^ 24):=by subst_vars; omega
theorem ar54 {x0 x1:Nat}:(min x0 x1)≤x0:=by lia -abstractProof
theorem ar55 {x0 x1:Nat} (h0:x1 < 2000) (h1:x0=x1):x0 < (2 ^ 24):=by subst_vars; omega
theorem ar56 {x0 x1 x2:Nat} (h0:(x0+x2) < (2 ^ 24)) (h1:x1 < x2):(((x0+x1):Nat):Int) < (2 ^ 63):=by lia -abstractProof
theorem ar57 {x0:Nat} (h0:x0 < 1000):x0≤16777215:=by omega
theorem ar58 {x0 x1:Nat}:((x0+x1)+1)=((x0+1)+x1):=by simp +arith
theorem ar59 {x0 x1:Nat} (h0:(x0+x1) < 1000):(x0+1) < 16777216:=by lia -abstractProof
theorem ar60 {x0 x1:Nat} (h0:x0=x1) (h1:(x1=1)∨(x1=2)):x0 < (2 ^ 24):=by subst_vars; lia -abstractProof
theorem ar61 {x0:Nat} (h0:(x0=1)∨(x0=2)):x0≤16777216:=by lia -abstractProof
theorem ar62 {x0:Nat} (h0:(x0=1)∨(x0=2)):(x0:Int) < 9223372036854775808:=by lia -abstractProof
theorem ar63 {x0:Nat} (h0:(x0=1)∨(x0=2)) (h1:2 < (x0:Int)):False:=by grind -abstractProof
theorem ar64 {x0:Nat} (h0:x0 < 900):((x0+1)+1) < 1000:=by lia -abstractProof
theorem ar65 {x0 x1:Nat} (h0:x0=x1) (h1:x1 < 1000):x0 < (2 ^ 24):=by grind -abstractProof
theorem ar66 {x0:Nat} (h0:x0 < 1000):(x0:Int) < 9223372036854775808:=by exact Int.ofNat_lt.mpr (Nat.lt_of_lt_of_le h0 (by decide))
theorem ar67 {x0 x1:Nat}:((((x0+1)+1)+x1)+1)=(x0+(((x1+1)+1)+1)):=by simp +arith
theorem ar68 {x0:Nat} (h0:x0 < 900):(x0+1) < 1000:=by omega
theorem ar69 {x0:Nat} (h0:x0 < 900):(((x0:Int)+1)+1) < 9223372036854775808:=by omega
theorem ar70 {x0:Nat}:¬ ((((x0:Int)+1)+1)=1):=by lia -abstractProof
theorem ar71 {x0:Nat} (h0:(((x0:Int)+1)+1)≤1):False:=by grind -abstractProof
theorem ar72 {x0 x1:Nat} (h0:x0≤x1):(Int.toNat (max 0 (min (x0:Int) (x1:Int))))=x0:=by rw [Int.min_eq_left (Int.ofNat_le.mpr h0),Int.max_eq_right (Int.natCast_nonneg _)]; rfl
theorem ar73 {x0 x1:Nat}:x0≤(x0+x1):=by simp +arith
theorem ar74 {x0 x1 x2:Nat}:x0≤((x0+x1)+x2):=by simp +arith
theorem ar75 {x0 x1:Nat}:((x0+1)+x1)=(x0+(x1+1)):=by exact Nat.add_right_comm _ _ _
theorem ar76 {x0 x1 x2:Nat}:(x0+(x1+x2))=((x0+x1)+x2):=by simp +arith
theorem ar77 {x0:Nat} (h0:x0 < 1000):(x0:Int) < (2 ^ 63):=by grind -abstractProof
theorem ar78 {x0:Nat} (h0:x0 < 1000):x0 < (2 ^ 60):=by grind -abstractProof
theorem ar79 {x0:Nat} (h0:x0 < 1000):x0 < (2 ^ 24):=by lia -abstractProof
theorem ar80 {x0 x1 x2:Nat} (h0:x1 < 1000) (h1:x2=x1) (h2:x0 < x2):(x0:Int) < (2 ^ 63):=by subst_vars; lia -abstractProof
theorem ar81 {x0 x1 x2:Nat}:(((0+(x0:Int))+(x1:Int))+(x2:Int))=((((x0+x1)+x2):Nat):Int):=by simp +arith
theorem ar82 {x0 x1 x2:Nat} (h0:x1 < x2):(x0+x1) < (x0+x2):=by simp; omega
theorem ar83 {x0 x1:Nat}:((0+(x0:Int))+(x1:Int))=(((x0+x1):Nat):Int):=by simp +arith
theorem ar84 {x0 x1 x2 x3:Nat} (h0:x1 < x2):(x0+x1) < ((x0+x2)+x3):=by lia -abstractProof
theorem ar85 {x0 x1 x2:Nat} (h0:x0=x1):x0≤(x1+x2):=by subst_vars; omega
theorem ar86 {x0:Int}:(0+x0)=x0:=by simp +arith
theorem ar87 {x0 x1 x2 x3:Nat} (h0:x0 < x1):x0 < ((x1+x2)+x3):=by lia -abstractProof
theorem ar88 {x0 x1 x2:Nat} (h0:x1=x2) (h1:x0 < x2):x0 < x1:=by subst_vars; lia -abstractProof
theorem ar89 {x0 x1 x2 x3:Nat} (h0:x2=x1) (h1:x2=(x0+x3)):x0≤x1:=by subst_vars; omega
theorem ar90 {x0 x1 x2:Nat} (h0:x1=x2) (h1:x0 < x2):(min x0 x1)=x0:=by grind -abstractProof
theorem ar91 {x0 x1:Nat}:0≤((x0:Int)+(x1:Int)):=by exact Int.natCast_nonneg _
theorem ar92 {x0 x1 x2 x3:Nat} (h0:((x0+x2)+x3) < 1000) (h1:x1 < x2):((x0:Int)+(x1:Int)) < (2 ^ 63):=by subst_vars; lia -abstractProof
theorem ar93 {x0 x1:Nat}:(Int.toNat ((x0:Int)+(x1:Int)))=(x0+x1):=by rfl
theorem ar94 {x0 x1 x2:Nat} (h0:x2=x0):((x0+x1) - x2)=x1:=by subst h0; exact Nat.add_sub_cancel_left ..
theorem ar95 {x0 x1:Nat}:(min x0 x1)≤x1:=by grind -abstractProof
theorem ar96 {x0 x1 x2 x3 x4:Nat} (h0:(x2+x3) < 1000000) (h1:(x0+x4)≤x3) (h2:x1≤x4):(x0+x1) < (2 ^ 24):=by lia -abstractProof
theorem ar97 {x0 x1 x2 x3 x4:Nat} (h0:(x0+x3) < 1000000) (h1:(x1+x4)≤x3) (h2:x2≤x4):((x0+x1)+x2) < (2 ^ 24):=by lia -abstractProof
theorem ar98 {x0 x1:Int}:((x0+x1) - (x0+((0:Nat):Int)))=x1:=by grind -abstractProof
theorem ar99 {x0 x1 x2:Nat} (h0:((x1+x0)+x2) < 1000):(x0 - 1) < 1000:=by subst_vars; omega
theorem ar100 {x0:Nat} (h0:0 < x0):x0=((x0 - 1)+1):=by lia -abstractProof
theorem ar101 {x0 x1 x2 x3 x4 x5:Nat} (h0:((x3+x4)+x5) < 1000) (h1:x0=x3) (h2:x1=x4) (h3:x2=x5):((x0+x1)+x2)≤(2 ^ 24):=by subst_vars; lia -abstractProof
theorem ar102 {x0 x1 x2 x3:Nat} (h0:((x1+x2)+x3) < 1000) (h1:x0=x1):x0≤(2 ^ 24):=by subst_vars; lia -abstractProof
theorem ar103 {x0 x1:Nat} (h0:0 < x1):((((x0+(x1 - 1)):Nat):Int)+1)=(((x0+x1):Nat):Int):=by subst_vars; grind -abstractProof
theorem ar104 {x0 x1 x2 x3:Nat} (h0:((x1+x2)+x3) < 1000) (h1:x0=x2):x0≤(2 ^ 24):=by subst_vars; omega
theorem ar105 {x0 x1 x2:Nat} (h0:(x1+x2) < 1000) (h1:x0=x2):x0≤(2 ^ 24):=by subst_vars; lia -abstractProof
theorem ar106 {x0 x1 x2:Nat} (h0:(x1+x2) < 1000000) (h1:x0≤x2):x0≤(2 ^ 24):=by lia -abstractProof
theorem ar107 {x0:Nat} (h0:x0 < 900):x0 < 1000:=by grind -abstractProof
theorem ar108 {x0 x1 x2:Nat} (h0:((x0+x1)+x2) < 900):(x0+(x1+x2)) < 1000:=by subst_vars; omega
theorem ar109 {x0:Nat} (h0:((x0+1)+1) < 900):x0 < 900:=by refine Nat.lt_of_le_of_lt ?_ (Nat.lt_of_lt_of_le h0 (by decide)); repeat (first | exact Nat.le_refl _ | exact Nat.le_add_left _ _ | refine Nat.le_trans ?_ (Nat.le_add_right _ _))
theorem ar110 {x0 x1:Nat}:(x0+(x1+1))=((1+x0)+x1):=by simp +arith
theorem ar111 {x0:Nat} (h0:(x0+1) < 1000):x0 < 1000:=by refine Nat.lt_of_le_of_lt ?_ h0; repeat (first | exact Nat.le_refl _ | exact Nat.le_add_left _ _ | refine Nat.le_trans ?_ (Nat.le_add_right _ _))
theorem ar112 {x0:Nat} (h0:x0 < 1000):x0 < 2000:=by refine Nat.lt_of_le_of_lt ?_ (Nat.lt_of_lt_of_le h0 (by decide)); repeat (first | exact Nat.le_refl _ | exact Nat.le_add_left _ _ | refine Nat.le_trans ?_ (Nat.le_add_right _ _))
theorem ar113 {x0 x1:Nat} (h0:x0 < 100000) (h1:x1 < 100000):(x0+x1) < 1000000:=by subst_vars; lia -abstractProof
theorem ar114 {x0 x1:Nat}:(x0+(((1+x1)+0)+1))=(((x0+1)+x1)+1):=by simp +arith
theorem ar115 {x0 x1 x2:Nat}:(x0+(((1+x1)+x2)+1))=((((x0+1)+x1)+x2)+1):=by simp +arith
theorem ar116 {x0 x1:Nat} (h0:x1 < 1000) (h1:x0=x1):x0 < (2 ^ 24):=by subst_vars; omega
theorem ar117 {x0:Nat} (h0:x0≤65535):(x0:Int)≤65535:=by lia -abstractProof
theorem ar118 {x0 x1 x2:Nat} (h0:x0=x1) (h1:(x1+x2) < 50000):x0 < 50000:=by lia -abstractProof
theorem ar119 {x0 x1 x2:Nat}:(x0+((x1+((x2+1)+1))+1))=(((((x0+1)+x1)+1)+x2)+1):=by simp +arith
theorem ar120 {x0 x1:Nat} (h0:x0 < 50000) (h1:x1 < 50000):(x0+x1) < 100000:=by lia -abstractProof
theorem ar121 {x0 x1:Nat} (h0:(x0+x1) < 100):x0 < 1000:=by refine Nat.lt_of_le_of_lt ?_ (Nat.lt_of_lt_of_le h0 (by decide)); repeat (first | exact Nat.le_refl _ | exact Nat.le_add_left _ _ | refine Nat.le_trans ?_ (Nat.le_add_right _ _))
theorem ar122 {x0 x1 x2:Nat} (h0:x0=x1) (h1:(x1+x2) < 100):x0 < (2 ^ 24):=by subst_vars; lia -abstractProof
theorem ar123 {x0 x1:Nat} (h0:(x1+x0) < (2 ^ 24)):x0≤16777216:=by lia -abstractProof
theorem ar124 {x0 x1 x2 x3:Nat}:(x0+((x1+(x2+((x3+1)+1)))+1))=((((((x0+1)+x1)+x2)+1)+x3)+1):=by simp +arith
theorem ar125 {x0 x1 x2 x3:Nat} (h0:x0 < 900000) (h1:x1=x2) (h2:(x2+x3) < 1000):(x0+x1) < 16777216:=by subst_vars; lia -abstractProof
theorem ar126 {x0 x1:Nat} (h0:(x1+x0) < (2 ^ 24)):x0 < 16777216:=by refine Nat.lt_of_le_of_lt ?_ (Nat.lt_of_lt_of_le h0 (by decide)); repeat (first | exact Nat.le_refl _ | exact Nat.le_add_left _ _ | refine Nat.le_trans ?_ (Nat.le_add_right _ _))
theorem ar127 {x0:Nat} (h0:x0 < 1000):x0≤(2 ^ 24):=by lia -abstractProof
theorem ar128 {x0:Nat} (h0:x0 < 1000):x0 < 1152921504606846976:=by lia -abstractProof
theorem ar129 {x0 x1:Nat} (h0:(x0+x1) < 20):x0 < 1000:=by refine Nat.lt_of_le_of_lt ?_ (Nat.lt_of_lt_of_le h0 (by decide)); repeat (first | exact Nat.le_refl _ | exact Nat.le_add_left _ _ | refine Nat.le_trans ?_ (Nat.le_add_right _ _))
theorem ar130 {x0 x1 x2 x3 x4:Nat} (h0:x0≤((1000 * x1)+(1000 * x2))) (h1:(x2+x3) < 20) (h2:(x1+x4) < 20):x0 < 50000:=by subst_vars; lia -abstractProof
theorem ar131 {x0 x1 x2:Nat} (h0:(x1+x2) < 20) (h1:x0=x1):x0 < (2 ^ 24):=by subst_vars; lia -abstractProof
theorem ar132 {x0 x1:Nat}:(x0+x1) < ((x0+1)+x1):=by simp +arith
theorem ar133 {x0 x1 x2 x3 x4:Nat} (h0:x0≤((1000 * x2)+x3)) (h1:x1=x4) (h2:x4 < 1000):(x0+x1)≤((1000 * (x2+1))+x3):=by lia -abstractProof
theorem ar134 {x0 x1 x2 x3 x4:Nat} (h0:x0≤((1000 * x1)+(1000 * x2))) (h1:(x1+x3) < 20) (h2:(x2+x4) < 20):x0 < 900000:=by subst_vars; lia -abstractProof
theorem ar135 {x0 x1:Nat}:(x0+x1) < (x0+(x1+1)):=by lia -abstractProof
theorem ar136 {x0 x1 x2 x3 x4:Nat} (h0:x0≤(x2+(1000 * x3))) (h1:x1=x4) (h2:x4 < 1000):(x0+x1)≤(x2+(1000 * (x3+1))):=by subst_vars; lia -abstractProof
theorem ar137 {x0:Nat} (h0:x0 < 20):x0 < 1000:=by refine Nat.lt_of_le_of_lt ?_ (Nat.lt_of_lt_of_le h0 (by decide)); repeat (first | exact Nat.le_refl _ | exact Nat.le_add_left _ _ | refine Nat.le_trans ?_ (Nat.le_add_right _ _))
theorem ar138 {x0:Nat} (h0:(x0:Int) < 0):False:=by omega
theorem ar139 {x0 x1 x2 x3 x4:Nat} (h0:(x1+x2)≤(x4+x3)):((x0+x1)+(x2+x3))≤(((x0+x3)+x4)+x3):=by lia -abstractProof
theorem ar140 {x0:Nat}:((((x0+1)+1):Nat):Int)≠1:=by omega
theorem ar141 {x0 x1 x2 x3 x4:Nat} (h0:x0≤(x1+x2)) (h1:((x3+x1)+x4) < 1000000) (h2:x2=1):x0≤(2 ^ 24):=by subst_vars; grind -abstractProof
theorem ar142 {x0 x1:Nat} (h0:(x0+x1) < 1000000):x0≤(2 ^ 24):=by lia -abstractProof
theorem ar143 {x0:Nat} (h0:x0 < 1000000):x0≤(2 ^ 24):=by grind -abstractProof
theorem ar144 {x0:Int} (h0:(-32768)≤x0) (h1:x0≤32767):(Int.natAbs x0) < (2 ^ 16):=by omega
theorem ar145 {x0 x1 x2 x3 x4 x5:Nat} (h0:x1≤6) (h1:x3≤6) (h2:x4≤6) (h3:x5≤6) (h4:x2=1) (h5:x0=1):(x0+((x1+x2)+((x3+x2)+((x4+x2)+x5))))≤(2 ^ 24):=by subst_vars; omega
theorem ar146 {x0 x1 x2 x3 x4 x5 x6:Nat} (h0:x1≤6) (h1:x3≤6) (h2:x4≤6) (h3:x5≤6) (h4:x2=1) (h5:x0=1) (h6:x6=1):((x0+((x1+x2)+((x3+x2)+((x4+x2)+x5))))+x6)≤(2 ^ 24):=by subst_vars; grind -abstractProof
theorem ar147 {x0 x1 x2:Nat} (h0:x0≤x2):(x0+1)≤((x1+1)+x2):=by subst_vars; lia -abstractProof
theorem ar148 {x0 x1 x2:Nat} (h0:x0≤x2):x0≤(x1+x2):=by lia -abstractProof
theorem ar149 {x0 x1 x2 x3:Nat} (h0:x2=1) (h1:x0≤(x3+1)):(x0+1)≤(((x1+x2)+x3)+1):=by lia -abstractProof
theorem ar150 {x0 x1:Nat} (h0:(x1+1)≤x0):¬ (x0=x1):=by lia -abstractProof
theorem ar151 {x0 x1:Nat} (h0:x1 < 100000) (h1:x0≤x1):x0 < 100000:=by exact Nat.lt_of_le_of_lt h1 h0
theorem ar152 {x0 x1 x2:Nat} (h0:x1 < 100000) (h1:(x0+x2)≤x1):x0 < 100000:=by subst_vars; omega
theorem ar153 {x0 x1 x2 x3:Nat} (h0:x1 < 100000) (h1:x2≤(x1+1)) (h2:x2=((x0+x3)+1)):x0 < (2 ^ 24):=by subst_vars; grind -abstractProof
theorem ar154 {x0:Nat} (h0:x0 < 100000):x0 < 1000000:=by refine Nat.lt_of_le_of_lt ?_ (Nat.lt_of_lt_of_le h0 (by decide)); repeat (first | exact Nat.le_refl _ | exact Nat.le_add_left _ _ | refine Nat.le_trans ?_ (Nat.le_add_right _ _))
theorem ar155 {x0 x1 x2 x3:Nat} (h0:x1 < 100000) (h1:x2≤(x1+1)) (h2:x2=((x0+x3)+1)):(1+x0)≤16777216:=by lia -abstractProof
theorem ar156 {x0 x1 x2 x3 x4 x5:Nat} (h0:x1 < 100000) (h1:x2≤(x1+1)) (h2:x2=((x3+(x4+x5))+1)) (h3:x0≤x4):(x0:Int) < (2 ^ 63):=by grind -abstractProof
theorem ar157 {x0 x1 x2 x3 x4 x5:Nat} (h0:x1 < 100000) (h1:x2≤(x1+1)) (h2:x2=((x3+(x4+x5))+1)) (h3:x0≤x4):x0 < (2 ^ 60):=by omega
theorem ar158 {x0 x1 x2 x3 x4:Nat}:(((x0+1)+x1)+x2)≤((x0+((x1+(x2+x3))+x4))+1):=by grind -abstractProof
theorem ar159 {x0:Nat}:(-(2 ^ 63))≤(0+(x0:Int)):=by lia -abstractProof
theorem ar160 {x0 x1 x2 x3 x4 x5 x6:Nat} (h0:x1 < 100000) (h1:x2≤(x1+1)) (h2:x2=((x3+(x4+x5))+1)) (h3:x6≤x4) (h4:x0 < x6):(0+(x0:Int)) < (2 ^ 63):=by lia -abstractProof
theorem ar161 {x0 x1 x2:Nat} (h0:x1 < 100000) (h1:(x0+x2)≤x1):x0 < 1000000:=by lia -abstractProof
theorem ar162 {x0 x1:Nat} (h0:x1 < 100000) (h1:x0≤x1):x0≤(2 ^ 24):=by grind -abstractProof
theorem ar163 {x0 x1 x2 x3:Nat} (h0:x1 < 100000) (h1:x2≤(x1+1)) (h2:(x0+x3)≤x2):x0 < (2 ^ 24):=by lia -abstractProof
theorem ar164 {x0 x1 x2:Nat} (h0:x1 < 100000) (h1:x2≤x1) (h2:x2=x0):x0≤(2 ^ 24):=by subst_vars; lia -abstractProof
theorem ar165 {x0 x1 x2 x3 x4:Nat} (h0:(x0+x3)≤x2) (h1:(x1+1)≤x4) (h2:x3=(x4+1)):(((x0+1)+x1)+1)≤x2:=by lia -abstractProof
theorem ar166 {x0 x1 x2:Nat} (h0:x1 < 100000) (h1:x2≤(x1+1)) (h2:(x0+1)≤x2):x0 < (2 ^ 24):=by grind -abstractProof
theorem ar167 {x0 x1:Nat} (h0:¬ (x0=x1)):¬ ((x0:Int)=(x1:Int)):=by lia -abstractProof
theorem ar168 {x0 x1 x2 x3 x4:Nat} (h0:x1 < 100000) (h1:x2≤(x1+1)) (h2:x2=((x3+(x4+x0))+1)):x0 < (2 ^ 24):=by subst_vars; lia -abstractProof
theorem ar169 {x0 x1 x2 x3 x4:Nat} (h0:x3 < 100000) (h1:x4≤(x3+1)) (h2:x4=((x0+(x1+x2))+1)):(((x0+1)+x1)+x2)≤(2 ^ 24):=by subst_vars; lia -abstractProof
theorem ar170 {x0 x1 x2:Nat} (h0:x1 < 100000) (h1:x0≤(x1+x2)) (h2:x2=1):x0≤(2 ^ 24):=by subst_vars; omega
theorem ar171 {x0 x1:Nat} (h0:(x0+x1) < 90000):x0 < 100000:=by refine Nat.lt_of_le_of_lt ?_ (Nat.lt_of_lt_of_le h0 (by decide)); repeat (first | exact Nat.le_refl _ | exact Nat.le_add_left _ _ | refine Nat.le_trans ?_ (Nat.le_add_right _ _))
theorem ar172 {x0:Nat} (h0:x0 < 90000):x0≤(2 ^ 24):=by lia -abstractProof
theorem ar173 {x0 x1 x2 x3:Nat} (h0:(((x0+x1)+x2)+x3) < 90000):x0≤(2 ^ 24):=by subst_vars; lia -abstractProof
theorem ar174 {x0 x1 x2:Nat} (h0:((x0+x1)+x2) < 90000):x0≤(2 ^ 24):=by subst_vars; omega
theorem ar175 {x0 x1:Nat} (h0:(x0+x1) < 90000):x0≤(2 ^ 24):=by subst_vars; omega
theorem ar176 {x0:Nat} (h0:x0 > 0):(x0:Int) > 0:=by simp; omega
theorem ar177 {x0 x1 x2 x3 x4:Nat} (h0:((x1+x2)+x3) < 90000) (h1:x0≤(x2+x4)) (h2:x4=1):x0≤(2 ^ 24):=by subst_vars; lia -abstractProof
theorem ar178 {x0:Nat} (h0:¬ (x0 > 0)):(x0:Int) < (2 ^ 63):=by lia -abstractProof
theorem ar179 {x0:Nat} (h0:¬ (x0 > 0)):¬ ((x0:Int) > 0):=by omega
theorem ar180 {x0 x1 x2 x3 x4 x5 x6:Nat} (h0:((((x1+x2)+x3)+x4)+x5) < 90000) (h1:x0≤(x2+x6)) (h2:x6=1):x0≤(2 ^ 24):=by lia -abstractProof
theorem ar181 {x0 x1 x2 x3 x4 x5:Nat} (h0:((((x1+x2)+x3)+x4)+x5) < 90000) (h1:x0≤(x2+x3)):x0≤(2 ^ 24):=by lia -abstractProof
theorem ar182 {x0:Nat} (h0:(2≤x0)∧(x0 < 900)):x0 < 1000:=by subst_vars; grind -abstractProof
theorem ar183 {x0:Nat} (h0:x0≤65535):(Int.natAbs (x0:Int)) < (2 ^ 16):=by exact Nat.succ_le_succ h0
theorem ar184 {x0:Nat} (h0:0 < (x0:Int)):x0 > 0:=by exact Int.ofNat_lt.mp h0
theorem ar185 {x0 x1 x2 x3:Nat} (h0:((x1+x2)+x3) < 90000) (h1:x2=x0):x0≤(2 ^ 24):=by subst_vars; lia -abstractProof
theorem ar186 {x0 x1:Nat} (h0:(x1+x0) < 90000):x0 < 90000:=by exact Nat.le_trans (Nat.le_add_left _ _) h0
theorem ar187 {x0:Nat} (h0:x0 < 1000):(1+x0)≤16777216:=by lia -abstractProof
theorem ar188 {x0:Nat} (h0:x0 < 1000):x0≤16777214:=by grind -abstractProof
theorem ar189 {x0:Nat} (h0:¬ (0 < (x0:Int))):¬ (x0 > 0):=by lia -abstractProof
theorem ar190 {x0 x1 x2 x3 x4 x5 x6:Nat} (h0:(((((x1+x2)+x3)+x4)+x5)+x6) < 90000) (h1:x2=x0):x0≤(2 ^ 24):=by subst_vars; omega
theorem ar191 {x0 x1 x2 x3 x4 x5:Nat} (h0:((((x1+x2)+x3)+x4)+x5) < 90000) (h1:x2=x0):x0≤(2 ^ 24):=by subst_vars; omega
theorem ar192 {x0 x1 x2 x3 x4 x5:Nat} (h0:(((((x0+x1)+x2)+x3)+x4)+x5) < 90000):x0≤(2 ^ 24):=by subst_vars; lia -abstractProof
theorem ar193 {x0 x1 x2 x3 x4:Nat} (h0:((((x0+x1)+x2)+x3)+x4) < 90000):x0≤(2 ^ 24):=by lia -abstractProof
theorem ar194 {x0 x1 x2 x3:Nat} (h0:x1=(x0+x3)):x0≤(x1+x2):=by subst_vars; lia -abstractProof
theorem ar195 {x0 x1 x2:Nat} (h0:(x1+x2) < 80000) (h1:x0≤x1):x0 < 90000:=by subst_vars; lia -abstractProof
theorem ar196 {x0:Nat} (h0:x0 < 100):x0 < 1000:=by refine Nat.lt_of_le_of_lt ?_ (Nat.lt_of_lt_of_le h0 (by decide)); repeat (first | exact Nat.le_refl _ | exact Nat.le_add_left _ _ | refine Nat.le_trans ?_ (Nat.le_add_right _ _))
theorem ar197 {x0 x1 x2 x3:Nat} (h0:(x1+x2) < 80000) (h1:x3≤(x1+1)) (h2:x0≤x3):x0≤(2 ^ 24):=by omega
theorem ar198 {x0 x1:Nat} (h0:x0=x1) (h1:x1 < 20):x0 < (2 ^ 24):=by subst_vars; lia -abstractProof
theorem ar199 {x0 x1 x2 x3:Nat} (h0:(x1+x2) < 80000) (h1:x3≤(x1+1)) (h2:x3=x0):x0≤(2 ^ 24):=by lia -abstractProof
theorem ar200 {x0 x1:Nat} (h0:x1 < 80000) (h1:x0≤x1):x0≤(2 ^ 24):=by simp; lia -abstractProof
theorem ar201 {x0:Nat} (h0:x0 < 80000):x0≤(2 ^ 24):=by grind -abstractProof
theorem ar202 {x0:Nat} (h0:x0≤63):x0≤(2 ^ 24):=by grind -abstractProof
theorem ar203 {x0 x1:Nat} (h0:x1≤63):(min x0 x1)≤63:=by grind -abstractProof
theorem ar204 {x0:Nat} (h0:x0≤63):x0 < (2 ^ 24):=by grind -abstractProof
theorem ar205 {x0:Nat} (h0:0 < x0):0 < (x0:Int):=by exact Int.ofNat_lt.mpr h0
theorem ar206 {x0:Int} {x1:Nat} (h0:0≤x0) (h1:x0 < (x1:Int)):(Int.toNat x0) < x1:=by lia -abstractProof
theorem ar207 {x0:Int} (h0:0≤x0):x0=(((Int.toNat x0):Nat):Int):=by grind -abstractProof
theorem ar208 {x0:Int} (h0:0≤x0) (h1:x0 < (2 ^ 63)):(Int.natAbs x0) < (2 ^ 63):=by omega
theorem ar209 {x0:Nat} (h0:x0 < 63):(x0+1)≤64:=by exact Nat.le_succ_of_le h0
theorem ar210 {x0:Int} {x1:Nat} (h0:0≤x0):0≤((x0+(60029 * (x1:Int)))+6007):=by lia -abstractProof
theorem ar211 {x0:Int} {x1:Nat} (h0:x0 < 2147483587) (h1:x1 < 1000000):((x0+(60029 * (x1:Int)))+6007) < (2 ^ 63):=by subst_vars; lia -abstractProof
theorem ar212 {x0:Nat} (h0:x0≤64):((x0:Int) * 5)≤(2 ^ 27):=by lia -abstractProof
theorem ar213 {x0:Int} (h0:x0 < 2147483629):x0≤2147483629:=by lia -abstractProof
theorem ar214 {x0:Nat} (h0:x0 < 1000000):((2 * (x0:Int))+3011)≤2003011:=by lia -abstractProof
theorem ar215 {x0:Nat}:0≤((2 * (x0:Int))+3011):=by exact Int.natCast_nonneg _
theorem ar216 {x0:Nat} (h0:x0 < 1000000):(701 * (x0:Int))≤701000000:=by lia -abstractProof
theorem ar217 {x0:Nat} (h0:x0 < 1000000):(x0:Int)≤1000000:=by subst_vars; lia -abstractProof
theorem ar218 {x0:Nat}:0≤(701 * (x0:Int)):=by exact Int.natCast_nonneg _
theorem ar219 {x0 x1:Int} (h0:0≤x0) (h1:0≤x1):0≤((x0+x1)+37):=by lia -abstractProof
theorem ar220 {x0 x1:Int} (h0:x0≤(2147483629 * 2003011)) (h1:x1≤(701000000 * 1000000)):((x0+x1)+37) < (2 ^ 63):=by lia -abstractProof
theorem ar221 {x0:Nat} (h0:x0≤64):((x0:Int) * 3)≤(2 ^ 27):=by lia -abstractProof
theorem ar222 {x0:Nat} (h0:0 < x0):(x0:Int)≠0:=by simp; lia -abstractProof
theorem ar223 {x0:Nat} (h0:x0 < 1000):(Int.natAbs (x0:Int)) < 1073741824:=by refine Nat.lt_of_le_of_lt ?_ (Nat.lt_of_lt_of_le h0 (by decide)); repeat (first | exact Nat.le_refl _ | exact Nat.le_add_left _ _ | refine Nat.le_trans ?_ (Nat.le_add_right _ _))
theorem ar224 {x0 x1:Nat} (h0:x0≤x1):x0≤(x1+1):=by lia -abstractProof
theorem ar225 {x0 x1:Nat} (h0:x1 < 1000000) (h1:x0≤x1):x0 < 1000000:=by exact Nat.lt_of_le_of_lt h1 h0
theorem ar226 {x0:Nat} (h0:x0≤63):(x0:Int) < (2 ^ 63):=by lia -abstractProof
theorem ar227 {x0 x1:Nat} (h0:x0≤x1):(x0+1)≤(x1+1):=by simp; lia -abstractProof
theorem ar228 {x0:Int} (h0:(0≤x0)∧(x0 < 2147483629)):x0 < (2 ^ 63):=by lia -abstractProof
theorem ar229 {x0:Nat} (h0:x0 < 1000000):(701 * (x0:Int)) < (2 ^ 63):=by lia -abstractProof
theorem ar230 {x0:Nat}:¬ (((x0:Int)+1)=0):=by omega
theorem ar231 {x0 x1:Nat} (h0:x1≤63) (h1:x0 < x1):(x0:Int) < (2 ^ 63):=by lia -abstractProof
theorem ar232 {x0:Nat} (h0:x0 < 7):(x0:Int) < (2 ^ 63):=by exact Int.ofNat_lt.mpr (Nat.lt_of_lt_of_le h0 (by decide))
theorem ar233 {x0:Nat} (h0:x0 < 900000):x0 < 1000000:=by grind -abstractProof
theorem ar234 {x0 x1:Nat} (h0:(x1+x0) < 100):x0 < 1000:=by refine Nat.le_trans ?_ (Nat.le_trans h0 (by decide)); repeat (first | exact Nat.le_refl _ | exact Nat.le_add_left _ _ | refine Nat.le_trans ?_ (Nat.le_add_right _ _))
theorem ar235 {x0 x1 x2:Nat} (h0:(x0+x2) < 100) (h1:x1 < x2):(x0+x1) < (2 ^ 60):=by grind -abstractProof
theorem ar236 {x0 x1 x2 x3 x4:Nat} (h0:x0 < 900000) (h1:(x2+x3) < 100) (h2:x4 < x3) (h3:x1 < (x2+x4)):((x0+1)+x1) < 1000000:=by subst_vars; lia -abstractProof
theorem ar237 {x0 x1:Nat}:((x0+x1)+1)≤(x0+(x1+1)):=by simp +arith
theorem ar238 {x0 x1 x2 x3 x4:Nat} (h0:(x1+x2) < 100) (h1:x3 < x2) (h2:x0≤x4) (h3:x4 < (x1+x3)):x0 < (2 ^ 24):=by subst_vars; lia -abstractProof
theorem ar239 {x0 x1:Nat} (h0:x0≤x1):x0≤x1:=by omega
theorem ar240 {x0 x1 x2 x3:Nat} (h0:(x1+x2) < 100) (h1:x3 < x2) (h2:x0≤(x1+x3)):x0≤(2 ^ 24):=by lia -abstractProof
theorem ar241 {x0 x1:Nat} (h0:0 < x0):0 < (x0+x1):=by lia -abstractProof
theorem ar242 {x0 x1 x2 x3:Nat} (h0:(x1+x2) < 100) (h1:x3 < x2) (h2:x0≤(x1+x3)):x0 < 1000:=by subst_vars; lia -abstractProof
theorem ar243 {x0 x1 x2 x3:Nat} (h0:x3 < x2) (h1:x0≤(x1+x3)):x0 < (x1+x2):=by lia -abstractProof
theorem ar244 {x0 x1 x2 x3:Nat} (h0:x2 < x3):((x0+1)+(x1+x2))≤((x0+x1)+x3):=by subst_vars; grind -abstractProof
theorem ar245 {x0 x1:Nat} (h0:x0=x1):x0≤x1:=by subst_vars; lia -abstractProof
theorem ar246 {x0 x1:Nat} (h0:¬ (x1 < x0)):x0≤x1:=by exact Nat.le_of_not_lt h0
theorem ar247 {x0 x1 x2:Nat} (h0:x2=x1) (h1:¬ (x0 < x2)) (h2:(x0 - x2)=0):x0=x1:=by subst_vars; grind -abstractProof
theorem ar248 {x0:Nat} (h0:x0 < 900000):(x0+1) < 1000000:=by lia -abstractProof
theorem ar249 {x0:Nat} (h0:x0 < 5):(x0:Int) < (2 ^ 63):=by exact Int.ofNat_lt.mpr (Nat.lt_of_lt_of_le h0 (by decide))
theorem ar250 {x0:Nat}:((x0+1)+1)≤(x0+5):=by simp +arith
theorem ar251 {x0 x1:Nat} (h0:x0 < 900000) (h1:x1 < 4):((x0+1)+(x1 * 1)) < 1000000:=by lia -abstractProof
theorem ar252 {x0:Nat} (h0:x0 < 4):(x0:Int) < (2 ^ 63):=by exact Int.ofNat_lt.mpr (Nat.lt_of_lt_of_le h0 (by decide))
theorem ar253 {x0:Nat}:((x0+1)+(4 * 1))≤(x0+5):=by simp +arith
theorem ar254 {x0 x1 x2:Nat} (h0:x1≤(2 * x2)) (h1:x0≤2):(x0+x1)≤(2 * (x2+1)):=by subst_vars; lia -abstractProof
theorem ar255 {x0:Nat} (h0:x0≤2):x0 < (2 ^ 24):=by grind -abstractProof
theorem ar256 {x0 x1:Nat} (h0:x1≤2):(x0+(x1 * 3))≤(x0+6):=by subst_vars; lia -abstractProof
theorem ar257 {x0:Nat} (h0:x0 < 700000):x0 < 1000000:=by grind -abstractProof
theorem ar258 {x0:Nat} (h0:x0 < 2):(x0:Int) < (2 ^ 63):=by exact Int.ofNat_lt.mpr (Nat.lt_of_lt_of_le h0 (by decide))
theorem ar259 {x0:Nat} (h0:x0 < 700000):(x0+1) < 1000000:=by grind -abstractProof
theorem ar260 {x0:Nat} (h0:x0 < 3):x0 < (2 ^ 60):=by grind -abstractProof
theorem ar261 {x0:Nat} (h0:x0 < 3):x0≤2:=by exact Nat.le_of_succ_le_succ h0
theorem ar262 {x0:Nat} (h0:x0 < 700000):((x0+1)+1) < 800000:=by omega
theorem ar263 {x0 x1 x2:Nat} (h0:x0 < 700000) (h1:x2 < 3) (h2:x1 < x2):(((x0+1)+1)+(x1 * 3)) < 900000:=by subst_vars; omega
theorem ar264 {x0:Nat} (h0:x0 < (1+2)):x0≤2:=by grind -abstractProof
theorem ar265 {x0 x1:Nat} (h0:x1 < 3) (h1:x0=x1):x0≤(2 ^ 24):=by grind -abstractProof
theorem ar266 {x0:Nat} (h0:x0 < 700000):(((x0+1)+1)+6) < 1000000:=by omega
theorem ar267 {x0:Nat} (h0:x0 < 2):(1+x0) < (2 ^ 60):=by subst_vars; omega
theorem ar268 {x0:Nat} (h0:x0 < 2):(1+x0)≤2:=by subst_vars; lia -abstractProof
theorem ar269 {x0:Nat} (h0:x0 < 700000):((((x0+1)+1)+6)+1) < 800000:=by lia -abstractProof
theorem ar270 {x0 x1 x2:Nat} (h0:x0 < 700000) (h1:x2 < 2) (h2:x1 < (1+x2)):(((((x0+1)+1)+6)+1)+(x1 * 3)) < 900000:=by omega
theorem ar271 {x0 x1:Nat} (h0:x1 < 2) (h1:x0=(1+x1)):x0≤(2 ^ 24):=by grind -abstractProof
theorem ar272 {x0:Nat} (h0:x0 < 700000):(((((x0+1)+1)+6)+1)+6) < 1000000:=by subst_vars; lia -abstractProof
theorem ar273 {x0:Nat} (h0:x0 < 2):x0 < (2 ^ 60):=by grind -abstractProof
theorem ar274 {x0:Nat} (h0:x0 < 2):x0≤2:=by exact Nat.le_of_lt h0
theorem ar275 {x0:Nat} (h0:x0 < 700000):((((((x0+1)+1)+6)+1)+6)+1) < 800000:=by lia -abstractProof
theorem ar276 {x0 x1 x2:Nat} (h0:x0 < 700000) (h1:x2 < 2) (h2:x1 < x2):(((((((x0+1)+1)+6)+1)+6)+1)+(x1 * 3)) < 900000:=by subst_vars; lia -abstractProof
theorem ar277 {x0 x1:Nat} (h0:x1 < 2) (h1:x0=x1):x0≤(2 ^ 24):=by grind -abstractProof
theorem ar278 {x0 x1:Nat} (h0:x1 < 2) (h1:x0=(1+x1)):(x0:Int) < (2 ^ 63):=by subst_vars; omega
theorem ar279 {x0 x1:Nat} (h0:x1 < 2) (h1:x0=(1+x1)):x0 < (2 ^ 60):=by subst_vars; omega
theorem ar280 {x0 x1 x2 x3:Nat} (h0:x0 < 700000) (h1:x2 < 2) (h2:x3=(1+x2)) (h3:x1 < x3):((((((((x0+1)+1)+6)+1)+6)+1)+6)+(3 * x1)) < 1000000:=by lia -abstractProof
theorem ar281 {x0 x1 x2:Nat} (h0:x1 < x2) (h1:x0=(min x1 x2)):x0=x1:=by subst_vars; omega
theorem ar282 {x0:Nat} (h0:x0≤3):(x0:Int) < (2 ^ 63):=by lia -abstractProof
theorem ar283 {x0 x1 x2 x3 x4 x5:Nat} (h0:x0 < 700000) (h1:x3 < 2) (h2:x4=(1+x3)) (h3:x1 < x4) (h4:x5 < 3) (h5:x2 < x5):((((((((((x0+1)+1)+6)+1)+6)+1)+6)+(3 * x1))+1)+x2) < 1000000:=by lia -abstractProof
theorem ar284 {x0:Nat} (h0:x0≤3):x0 < 1000:=by grind -abstractProof
theorem ar285 {x0 x1:Nat} (h0:x1≤3) (h1:x0 < x1):(x0:Int) < (2 ^ 63):=by subst_vars; lia -abstractProof
theorem ar286 {x0 x1 x2 x3 x4 x5 x6 x7:Nat} (h0:x2 < 2) (h1:x3=(1+x2)) (h2:x4 < x3) (h3:x5 < 3) (h4:x6=x4) (h5:x0≤(2 * x6)) (h6:x1=x7) (h7:x7 < x5):(x0+x1) < (2 ^ 24):=by subst_vars; lia -abstractProof
theorem ar287 {x0 x1 x2:Nat} (h0:x2 < 3):(((x0+(3 * x1))+1)+x2)≤(x0+(3 * (x1+1))):=by lia -abstractProof
theorem ar288 {x0 x1:Nat} (h0:x1 < 3) (h1:x0=x1):x0≤2:=by subst_vars; omega
theorem ar289 {x0 x1 x2 x3:Nat} (h0:x1 < 2) (h1:x2=(1+x1)) (h2:x3=x2) (h3:x0≤(2 * x3)):x0≤(2 ^ 24):=by lia -abstractProof
theorem ar290 {x0:Nat} (h0:x0≤2):x0 < 1000:=by grind -abstractProof
theorem ar291 {x0 x1:Nat} (h0:x0=(1+x1)) (h1:0=x0):False:=by lia -abstractProof
theorem ar292 {x0 x1 x2 x3 x4 x5 x6:Nat} (h0:x3 < 3) (h1:x0=x3) (h2:x4 < 2) (h3:x5=(1+x4)) (h4:x6 < 2) (h5:x2=x6) (h6:x1=x5):((x0+x1)+x2) < 900:=by subst_vars; lia -abstractProof
theorem ar293 {x0 x1 x2 x3:Nat} (h0:x1 < 2) (h1:x2=(1+x1)) (h2:x3=x2) (h3:x0≤(2 * x3)):x0 < 100000:=by lia -abstractProof
theorem ar294 {x0 x1 x2:Nat} (h0:x1 < 2) (h1:x2=(1+x1)) (h2:x0=x2):x0≤2:=by subst_vars; omega
theorem ar295 {x0 x1:Nat} (h0:x1 < 2) (h1:x0=x1):x0≤2:=by subst_vars; omega
theorem ar296 {x0 x1 x2:Nat} (h0:x2 < 2) (h1:x1=(1+x2)):((((((((x0+1)+1)+6)+1)+6)+1)+6)+(3 * x1))≤(x0+40):=by lia -abstractProof
theorem ar297 {x0:Nat} (h0:x0≤3):x0 < (2 ^ 24):=by omega
theorem ar298 {x0 x1:Nat} (h0:x1≤3):(x0+(x1 * 1))≤(x0+3):=by simp; omega
theorem ar299 {x0:Nat} (h0:x0 < 600000):x0 < 700000:=by refine Nat.lt_of_le_of_lt ?_ (Nat.lt_of_lt_of_le h0 (by decide)); repeat (first | exact Nat.le_refl _ | exact Nat.le_add_left _ _ | refine Nat.le_trans ?_ (Nat.le_add_right _ _))
theorem ar300 {x0:Nat}:(x0+40)≤(x0+50):=by simp +arith
theorem ar301 {x0:Nat} (h0:x0 < 600000):x0 < 1000000:=by grind -abstractProof
theorem ar302 {x0:Nat} (h0:x0 < 600000):(x0+1) < 1000000:=by grind -abstractProof
theorem ar303 {x0:Nat}:((x0+1)+1)≤(x0+50):=by simp +arith
theorem ar304 {x0:Nat} (h0:x0 < 3):(x0:Int) < (2 ^ 63):=by exact Int.ofNat_lt.mpr (Nat.lt_of_lt_of_le h0 (by decide))
theorem ar305 {x0:Nat} (h0:(x0=0)∨((x0=2)∨(x0=3))):x0 < (2 ^ 60):=by lia -abstractProof
theorem ar306 {x0:Nat} (h0:(x0=0)∨((x0=2)∨(x0=3))):x0≤3:=by lia -abstractProof
theorem ar307 {x0:Nat} (h0:x0 < 600000):((x0+1)+1) < 800000:=by grind -abstractProof
theorem ar308 {x0 x1 x2:Nat} (h0:x0 < 600000) (h1:(x2=0)∨((x2=2)∨(x2=3))) (h2:x1 < x2):(((x0+1)+1)+(x1 * 1)) < 1000000:=by lia -abstractProof
theorem ar309 {x0 x1:Nat} (h0:(x1=0)∨((x1=2)∨(x1=3))) (h1:x0=x1):x0≤(2 ^ 24):=by lia -abstractProof
theorem ar310 {x0 x1:Nat} (h0:(x1=0)∨((x1=2)∨(x1=3))) (h1:x0=x1):x0≤3:=by subst_vars; omega
theorem ar311 {x0:Nat}:(((x0+1)+1)+3)≤(x0+50):=by simp +arith
theorem ar312 {x0 x1:Nat} (h0:x0=x1) (h1:x1=0):x0=0:=by subst_vars; lia -abstractProof
theorem ar313 {x0 x1:Nat} (h0:x0=x1) (h1:x1=2):2≤x0:=by lia -abstractProof
theorem ar314 {x0 x1:Nat} (h0:x0=x1) (h1:x1=2):x0 < 900:=by subst_vars; lia -abstractProof
theorem ar315 {x0 x1:Nat} (h0:x0=x1) (h1:x1=3):2≤x0:=by subst_vars; lia -abstractProof
theorem ar316 {x0 x1:Nat} (h0:x0=x1) (h1:x1=3):x0 < 900:=by lia -abstractProof
theorem ar317 {x0:Nat} (h0:x0 < 600000):(x0+1) < 900000:=by omega
theorem ar318 {x0:Nat} (h0:x0 < (1+3)):x0≤3:=by exact Nat.le_of_succ_le_succ h0
theorem ar319 {x0:Nat} (h0:x0 < 2):(1+x0)≤3:=by lia -abstractProof
theorem ar320 {x0 x1 x2:Nat} (h0:x0 < 600000) (h1:x2 < 2) (h2:x1 < (1+x2)):(((x0+1)+1)+(x1 * 1)) < 1000000:=by lia -abstractProof
theorem ar321 {x0:Nat} (h0:0=(1+x0)):False:=by subst_vars; omega
theorem ar322 {x0 x1:Nat} (h0:x1 < 2) (h1:x0=(1+x1)):(1+x0)≤16777216:=by grind -abstractProof
theorem ar323 {x0:Nat} (h0:x0 < 600000):(((x0+1)+1)+3) < 1000000:=by lia -abstractProof
theorem ar324 {x0 x1:Nat} (h0:x0=(1+x1)):1≤x0:=by subst_vars; grind -abstractProof
theorem ar325 {x0 x1:Nat} (h0:x1 < 2) (h1:x0=(1+x1)):(x0+1) < 900:=by subst_vars; omega
theorem ar326 {x0 x1:Nat} (h0:x1 < 2) (h1:x0=(1+x1)):x0≤2:=by grind -abstractProof
theorem ar327 {x0:Nat}:((((x0+1)+1)+3)+1)≤(x0+50):=by lia -abstractProof
theorem ar328 {x0:Nat}:((x0+1)+5)≤(x0+50):=by simp +arith
theorem ar329 {x0:Nat} (h0:x0 < 600000):((x0+1)+1) < 900000:=by lia -abstractProof
theorem ar330 {x0:Nat}:(((x0+1)+1)+5)≤(x0+50):=by simp +arith
theorem ar331 {x0 x1:Nat} (h0:x1≤2) (h1:x0≤2):(max x0 x1)≤2:=by grind -abstractProof
theorem ar332 {x0:Nat} (h0:x0≤2):(x0+1)≤64:=by omega
theorem ar333 {x0 x1:Nat} (h0:x0≤2) (h1:x1=0):((max (x0+1) x1)+1)≤64:=by subst_vars; lia -abstractProof
theorem ar334 {x0:Nat} (h0:x0≤2):x0≤4:=by refine Nat.le_trans ?_ (Nat.le_trans h0 (by decide)); repeat (first | exact Nat.le_refl _ | exact Nat.le_add_left _ _ | refine Nat.le_trans ?_ (Nat.le_add_right _ _))
theorem ar335 {x0 x1:Nat} (h0:x0≤2) (h1:x1≤2):(x0+x1)≤4:=by subst_vars; lia -abstractProof
theorem ar336 {x0:Nat} (h0:x0 < 500000):x0 < 1000000:=by refine Nat.lt_of_le_of_lt ?_ (Nat.lt_of_lt_of_le h0 (by decide)); repeat (first | exact Nat.le_refl _ | exact Nat.le_add_left _ _ | refine Nat.le_trans ?_ (Nat.le_add_right _ _))
theorem ar337 {x0:Nat} (h0:x0 < 8):(x0:Int) < (2 ^ 63):=by exact Int.ofNat_lt.mpr (Nat.lt_of_lt_of_le h0 (by decide))
theorem ar338 {x0:Nat} (h0:x0 < 500000):(x0+1) < 1000000:=by grind -abstractProof
theorem ar339 {x0 x1 x2:Nat} (h0:x0 < 500000) (h1:x2 < 2) (h2:x1 < (1+x2)):(((x0+1)+1)+(50 * x1)) < 600000:=by lia -abstractProof
theorem ar340 {x0 x1:Nat}:((x0+(50 * x1))+50)≤(x0+(50 * (x1+1))):=by simp +arith
theorem ar341 {x0 x1:Nat} (h0:x0 < x1):x0≤x1:=by exact Nat.le_of_lt h0
theorem ar342 {x0 x1:Nat} (h0:¬ (x0 < x1)) (h1:(x0 - x1)=0):x0=x1:=by subst_vars; omega
theorem ar343 {x0 x1 x2:Nat} (h0:x1 < 2) (h1:x0≤x2) (h2:x2 < (1+x1)):x0 < (2 ^ 24):=by grind -abstractProof
theorem ar344 {x0 x1:Nat} (h0:x0 < 500000) (h1:x1 < 2):(((x0+1)+1)+(50 * (1+x1))) < 1000000:=by subst_vars; lia -abstractProof
theorem ar345 {x0 x1:Nat} (h0:x1 < 2) (h1:x0≤(1+x1)):x0≤(2 ^ 24):=by grind -abstractProof
theorem ar346 {x0 x1 x2:Nat} (h0:x1≤(4 * x2)) (h1:x0≤4):(x0+x1)≤(4 * (x2+1)):=by subst_vars; lia -abstractProof
theorem ar347 {x0:Nat}:0 < (1+x0):=by simp +arith
theorem ar348 {x0 x1:Nat} (h0:x1 < 2) (h1:x0≤(1+x1)):x0 < 100:=by lia -abstractProof
theorem ar349 {x0 x1 x2:Nat} (h0:x1 < 2) (h1:x2≤(1+x1)) (h2:x0≤(4 * x2)):x0 < 50000:=by subst_vars; lia -abstractProof
theorem ar350 {x0 x1:Nat} (h0:x1 < 2) (h1:x0≤(1+x1)):x0≤2:=by grind -abstractProof
theorem ar351 {x0 x1:Nat} (h0:x1 < 2):((((x0+1)+1)+(50 * (1+x1)))+1)≤(x0+110):=by lia -abstractProof
theorem ar352 {x0:Nat} (h0:x0≤3):(min x0 3)=x0:=by grind -abstractProof
theorem ar353 {x0:Nat} (h0:0 < x0) (h1:0=x0):False:=by lia -abstractProof
theorem ar354 {x0 x1:Nat} (h0:x1≤3) (h1:x0=x1):x0≤3:=by subst_vars; omega
theorem ar355 {x0:Nat} (h0:x0 < 1000):x0 < 1000000:=by grind -abstractProof
theorem ar356 {x0:Nat} (h0:x0 < 3):(1+x0)≤3:=by grind -abstractProof
theorem ar357 {x0:Nat}:(1+(x0:Int))=(((1+x0):Nat):Int):=by rfl
theorem ar358 {x0 x1:Nat} (h0:x1 < 3) (h1:x0=(1+x1)):x0 < (2 ^ 24):=by grind -abstractProof
theorem ar359 {x0 x1 x2 x3:Nat} (h0:x0 < 1000) (h1:x2 < 3) (h2:x3=(1+x2)) (h3:x1 < x3):((x0+1)+(x1 * 110)) < 500000:=by subst_vars; lia -abstractProof
theorem ar360 {x0 x1 x2:Nat} (h0:x2=x0) (h1:x2≤x1):x0≤x1:=by subst_vars; omega
theorem ar361 {x0 x1 x2:Nat} (h0:x1 < 3) (h1:x2=(1+x1)) (h2:x0=x2):x0≤(2 ^ 24):=by grind -abstractProof
theorem ar362 {x0 x1 x2:Nat} (h0:x0 < 1000) (h1:x2 < 3) (h2:x1=(1+x2)):((x0+1)+(x1 * 110)) < 1000000:=by subst_vars; lia -abstractProof
theorem ar363 {x0 x1 x2 x3 x4:Nat} (h0:x0 < 1000) (h1:x3 < 3) (h2:x1=(1+x3)) (h3:x4 < 3) (h4:x2 < x4):((((x0+1)+(x1 * 110))+1)+(6 * x2)) < 1000000:=by subst_vars; lia -abstractProof
theorem ar364 {x0 x1 x2 x3 x4:Nat} (h0:x0 < 1000) (h1:x3 < 3) (h2:x1=(1+x3)) (h3:x4 < 3) (h4:x2 < x4):(((((x0+1)+(x1 * 110))+1)+(6 * x2))+1) < 1000000:=by omega
theorem ar365 {x0 x1 x2 x3 x4:Nat} (h0:x0 < 1000) (h1:x3 < 3) (h2:x1=(1+x3)) (h3:x4 < 3) (h4:x2 < x4):((((((x0+1)+(x1 * 110))+1)+(6 * x2))+1)+1) < 1000000:=by subst_vars; lia -abstractProof
theorem ar366 {x0 x1 x2 x3 x4:Nat} (h0:x0 < 1000) (h1:x3 < 3) (h2:x1=(1+x3)) (h3:x4 < 3) (h4:x2 < x4):(((((((x0+1)+(x1 * 110))+1)+(6 * x2))+1)+1)+1) < 1000000:=by lia -abstractProof
theorem ar367 {x0:Nat} (h0:x0 < 2):(1+x0) < (2 ^ 24):=by subst_vars; omega
theorem ar368 {x0 x1:Nat} (h0:x1 < 3) (h1:x0=(1+x1)):(x0:Int) < (2 ^ 63):=by subst_vars; grind -abstractProof
theorem ar369 {x0 x1 x2 x3 x4 x5 x6:Nat} (h0:x0 < 1000) (h1:x4 < 3) (h2:x1=(1+x4)) (h3:x5 < 3) (h4:x2 < x5) (h5:x6 < 2) (h6:x3 < (1+x6)):(((((((((x0+1)+(x1 * 110))+1)+(6 * x2))+1)+1)+1)+1)+(x3 * 1)) < 1000000:=by subst_vars; lia -abstractProof
theorem ar370 {x0 x1:Nat} (h0:x1 < 3) (h1:x0=(1+x1)):x0 < 1000:=by subst_vars; omega
theorem ar371 {x0 x1 x2:Nat} (h0:x1 < 3) (h1:x2=(1+x1)) (h2:x0 < x2):(x0:Int) < (2 ^ 63):=by omega
theorem ar372 {x0 x1 x2:Nat} (h0:x1 < 3) (h1:x0≤x2) (h2:x2 < x1):x0 < (2 ^ 24):=by subst_vars; omega
theorem ar373 {x0 x1 x2:Nat} (h0:x2 < 2):((((((x0+(6 * x1))+1)+1)+1)+1)+((1+x2) * 1))≤(x0+(6 * (x1+1))):=by subst_vars; lia -abstractProof
theorem ar374 {x0 x1:Nat} (h0:x1 < 3) (h1:x0≤x1):x0≤(2 ^ 24):=by grind -abstractProof
theorem ar375 {x0 x1:Nat} (h0:x1 < 3) (h1:x0≤x1):x0≤2:=by grind -abstractProof
theorem ar376 {x0 x1 x2 x3:Nat} (h0:x3 < 3) (h1:x1=(1+x3)) (h2:x2 < 3):((((x0+1)+(x1 * 110))+1)+(6 * x2))≤(x0+400):=by subst_vars; grind -abstractProof
theorem ar377 {x0:Nat}:((x0:Int)=1)↔(x0=1):=by subst_vars; grind -abstractProof
theorem ar378 {x0 x1 x2:Nat} (h0:x1=(x0+x2)):x0≤x1:=by subst_vars; omega
theorem ar379 {x0 x1 x2 x3 x4 x5:Nat} (h0:((((x0+x3)+x4)+x5)+x0) < 100000) (h1:(x1+x2)≤x3):((x0+x1)+x2)≤(2 ^ 24):=by subst_vars; lia -abstractProof
theorem ar380 {x0 x1 x2 x3 x4 x5 x6 x7:Nat} (h0:(((x0+x3)+x4)+x5) < 100000) (h1:(x1+x6)≤x3) (h2:x6=((x2+1)+x7)):((x0+x1)+x2)≤(2 ^ 24):=by lia -abstractProof
theorem ar381 {x0 x1 x2 x3 x4 x5 x6 x7:Nat} (h0:(((x0+x4)+x5)+x3) < 100000) (h1:(x1+x6)≤x4) (h2:x6=((x2+1)+x7)):(((x0+x1)+x2)+x3)≤(2 ^ 24):=by subst_vars; lia -abstractProof
theorem ar382 {x0 x1:Nat} (h0:x0≤x1):(2 * x0)≤(2 * x1):=by subst_vars; lia -abstractProof
theorem ar383 {x0 x1:Nat}:((x0:Int)=(x1:Int))↔(x0=(0+x1)):=by lia -abstractProof
theorem ar384 {x0 x1 x2 x3 x4 x5 x6 x7 x8 x9:Nat} (h0:(((x0+x6)+x7)+x3) < 100000) (h1:(x1+x8)≤x6) (h2:x8=((x2+1)+x9)) (h3:(x4+x5)≤x9):(((((x0+x1)+x2)+x3)+x4)+x5)≤(2 ^ 24):=by grind -abstractProof
theorem ar385 {x0 x1 x2 x3 x4 x5 x6 x7 x8:Nat} (h0:(((x0+x5)+x6)+x3) < 100000) (h1:(x1+x7)≤x5) (h2:x7=((x2+1)+x8)) (h3:x4≤x8):(((((x0+x1)+x2)+x3)+x4)+0)≤(2 ^ 24):=by lia -abstractProof
theorem ar386 {x0 x1 x2 x3 x4:Nat} (h0:((x0+x3)+x4) < 100000) (h1:(x1+x2)≤x3):((x0+x1)+x2)≤(2 ^ 24):=by subst_vars; lia -abstractProof
theorem ar387 {x0:Nat} (h0:x0 < 100000):x0≤(2 ^ 24):=by grind -abstractProof
theorem ar388 {x0:Nat} (h0:x0≤3):x0≤(2 ^ 24):=by grind -abstractProof
theorem ar389 {x0:Nat} (h0:x0≤3):x0≤16777212:=by grind -abstractProof
theorem ar390 {x0:Nat} (h0:x0≤3):x0≤16777210:=by refine Nat.le_trans ?_ (Nat.le_trans h0 (by decide)); repeat (first | exact Nat.le_refl _ | exact Nat.le_add_left _ _ | refine Nat.le_trans ?_ (Nat.le_add_right _ _))
theorem ar391 {x0:Nat} (h0:x0≤3):x0≤16777215:=by grind -abstractProof
theorem ar392 {x0:Nat} (h0:x0≤3):x0≤16777214:=by grind -abstractProof
theorem ar393 {x0:Nat} (h0:x0≤3):x0≤16777213:=by grind -abstractProof
theorem ar394 {x0:Nat} (h0:x0≤2):x0≤16777214:=by refine Nat.le_trans ?_ (Nat.le_trans h0 (by decide)); repeat (first | exact Nat.le_refl _ | exact Nat.le_add_left _ _ | refine Nat.le_trans ?_ (Nat.le_add_right _ _))
theorem ar395 {x0:Nat} (h0:x0≤2):x0≤16777213:=by refine Nat.le_trans ?_ (Nat.le_trans h0 (by decide)); repeat (first | exact Nat.le_refl _ | exact Nat.le_add_left _ _ | refine Nat.le_trans ?_ (Nat.le_add_right _ _))
theorem ar396 {x0 x1 x2 x3 x4 x5:Nat} (h0:((x1+x2)+x3) < 100000) (h1:x4≤x2) (h2:(x5+x0)=x4):x0 < 100000:=by subst_vars; lia -abstractProof
theorem ar397 {x0 x1 x2 x3 x4 x5:Nat} (h0:((x0+x3)+x4) < 100000) (h1:x5≤x3) (h2:(x1+x2)=x5):((x0+x1)+x2)≤(2 ^ 24):=by subst_vars; omega
theorem ar398 {x0:Nat} (h0:x0≤2):x0≤16777212:=by refine Nat.le_trans ?_ (Nat.le_trans h0 (by decide)); repeat (first | exact Nat.le_refl _ | exact Nat.le_add_left _ _ | refine Nat.le_trans ?_ (Nat.le_add_right _ _))
theorem ar399 {x0 x1:Nat} (h0:x0≤2) (h1:x1≤2):(x0+(x1+1))≤16777214:=by lia -abstractProof
theorem ar400 {x0 x1 x2:Nat} (h0:x2 < 1000) (h1:x0≤2) (h2:x1≤2):(x0+(x1+(x2+1)))≤16777214:=by subst_vars; lia -abstractProof
theorem ar401 {x0 x1 x2:Nat} (h0:x2 < 1000) (h1:x0≤2) (h2:x1≤2):(x0+(x1+((x2+1)+1)))≤16777214:=by subst_vars; lia -abstractProof
theorem ar402 {x0 x1 x2 x3 x4:Nat} (h0:(x1+x2) < 100000) (h1:(x3+x0)≤x4) (h2:x4=x1):x0 < 100000:=by lia -abstractProof
theorem ar403 {x0 x1 x2 x3:Nat} (h0:(x1+x2) < 100000) (h1:x0≤x3) (h2:x3=x1):x0≤(2 ^ 24):=by lia -abstractProof
theorem ar404 {x0 x1 x2 x3 x4:Nat} (h0:(x0+x3) < 100000) (h1:(x1+x2)≤x4) (h2:x4=x3):((x0+x1)+x2)≤(2 ^ 24):=by lia -abstractProof
theorem ar405 {x0 x1 x2 x3:Nat} (h0:x2≤(40 * x3)) (h1:x0≤20) (h2:x1≤20):((x0+x1)+x2)≤(40 * (x3+1)):=by subst_vars; lia -abstractProof
theorem ar406 {x0 x1 x2 x3:Nat} (h0:x0≤20) (h1:x2≤20) (h2:x1≤x3):((x0+x1)+x2)≤(x3+40):=by lia -abstractProof
theorem ar407 {x0:Nat} (h0:x0 < 10000):x0 < 1000000:=by refine Nat.lt_of_le_of_lt ?_ (Nat.lt_of_lt_of_le h0 (by decide)); repeat (first | exact Nat.le_refl _ | exact Nat.le_add_left _ _ | refine Nat.le_trans ?_ (Nat.le_add_right _ _))
theorem ar408 {x0 x1:Nat} (h0:x0 < x1):(min x0 x1)=x0:=by subst_vars; omega
theorem ar409 {x0 x1 x2:Nat} (h0:x0 < 10000) (h1:x2 < 1000) (h2:x1 < x2):((x0+1)+(2 * x1)) < 1000000:=by subst_vars; lia -abstractProof
theorem ar410 {x0:Nat} (h0:x0 < 6):(x0:Int) < (2 ^ 63):=by exact Int.ofNat_lt.mpr (Nat.lt_of_lt_of_le h0 (by decide))
theorem ar411 {x0 x1:Nat}:((x0+(2 * x1))+1)≤(x0+(2 * (x1+1))):=by simp +arith
theorem ar412 {x0 x1 x2:Nat} (h0:x0 < 10000) (h1:x2 < 1000) (h2:x1≤x2):(((x0+1)+(2 * x1))+1) < 1000000:=by lia -abstractProof
theorem ar413 {x0 x1:Nat}:(((x0+(2 * x1))+1)+1)≤(x0+(2 * (x1+1))):=by subst_vars; lia -abstractProof
theorem ar414 {x0:Nat}:0≤((x0:Int)+1):=by exact Int.natCast_nonneg _
theorem ar415 {x0 x1:Nat} (h0:x1 < 1000) (h1:x0≤x1):((x0:Int)+1) < (2 ^ 63):=by grind -abstractProof
theorem ar416 {x0:Nat}:(Int.toNat ((x0:Int)+1))=(x0+1):=by simp +arith
theorem ar417 {x0 x1 x2 x3 x4:Nat} (h0:x3 < 1000) (h1:x0≤20) (h2:x4≤x3) (h3:x2≤20) (h4:x1≤(40 * x4)):((x0+x1)+x2)≤(2 ^ 24):=by subst_vars; grind -abstractProof
theorem ar418 {x0 x1 x2 x3 x4 x5:Nat} (h0:x4 < 1000) (h1:x0≤20) (h2:x5≤x4) (h3:x2≤20) (h4:x1≤(40 * x5)) (h5:x3≤20):(((x0+x1)+x2)+x3)≤(2 ^ 24):=by lia -abstractProof
theorem ar419 {x0 x1:Nat} (h0:x0 < 10000) (h1:x1 < 1000):((x0+1)+(2 * x1)) < 1000000:=by subst_vars; lia -abstractProof
theorem ar420 {x0 x1 x2 x3:Nat} (h0:x3 < 1000) (h1:x0≤20) (h2:x1≤(40 * x3)) (h3:x2≤20):((x0+x1)+x2)≤(2 ^ 24):=by lia -abstractProof
theorem ar421 {x0 x1:Nat} (h0:x1 < 1000):(((x0+1)+(2 * x1))+1)≤((x0+2000)+2):=by simp; lia -abstractProof
theorem ar422 {x0 x1 x2 x3:Nat} (h0:x1 < 1000000) (h1:x2≤(x3+1)) (h2:x0≤x2) (h3:x3=x1):x0≤(2 ^ 24):=by lia -abstractProof
theorem ar423 {x0 x1:Nat} (h0:x1 < 1000000) (h1:x0≤x1):x0≤16777216:=by grind -abstractProof
theorem ar424 {x0 x1:Nat}:(1+(x0+x1))=((x0+1)+x1):=by simp +arith
theorem ar425 {x0 x1 x2:Nat}:(1+((x0+1)+(x1+x2)))=(((x0+(x1+1))+1)+x2):=by simp +arith
theorem ar426 {x0:Nat}:(1+x0)=(x0+1):=by simp +arith
theorem ar427 {x0 x1 x2:Nat} (h0:x0≤x2) (h1:(x2 - x0)=x1):(x0+x1)=x2:=by subst_vars; grind -abstractProof
theorem ar428 {x0 x1:Nat} (h0:x1=x0):x0≤x1:=by subst_vars; lia -abstractProof
theorem ar429 {x0 x1 x2:Nat} (h0:(x0+(x1+1))=x2):(x0+(1+x1))=x2:=by subst_vars; lia -abstractProof
theorem ar430 {x0 x1 x2 x3:Nat} (h0:(x0+(x1+x3))=x2):(x0+x1)≤x2:=by subst_vars; lia -abstractProof
theorem ar431 {x0 x1:Nat}:((x0+x1) - x0)=x1:=by simp +arith
theorem ar432 {x0 x1:Nat} (h0:0 < x1):x0 < (x0+x1):=by simp; omega
theorem ar433 {x0:Nat} (h0:x0≤57):x0 < 58:=by exact Nat.succ_le_succ h0
theorem ar434 {x0:Nat} (h0:1≤x0) (h1:x0=0):False:=by lia -abstractProof
theorem ar435 {x0:Nat} (h0:x0≤6):x0≤20:=by grind -abstractProof
theorem ar436 {x0 x1 x2 x3:Nat} (h0:x1≤x2) (h1:x0≤x3):(x0+x1)≤(x2+(x3 * 1)):=by lia -abstractProof
theorem ar437 {x0:Nat} (h0:x0≤2):x0≤55:=by refine Nat.le_trans ?_ (Nat.le_trans h0 (by decide)); repeat (first | exact Nat.le_refl _ | exact Nat.le_add_left _ _ | refine Nat.le_trans ?_ (Nat.le_add_right _ _))
theorem ar438 {x0:Nat} (h0:x0≤3):x0≤54:=by refine Nat.le_trans ?_ (Nat.le_trans h0 (by decide)); repeat (first | exact Nat.le_refl _ | exact Nat.le_add_left _ _ | refine Nat.le_trans ?_ (Nat.le_add_right _ _))
theorem ar439 {x0:Nat} (h0:x0≤3):x0≤56:=by refine Nat.le_trans ?_ (Nat.le_trans h0 (by decide)); repeat (first | exact Nat.le_refl _ | exact Nat.le_add_left _ _ | refine Nat.le_trans ?_ (Nat.le_add_right _ _))
theorem ar440 {x0 x1:Nat} (h0:x0≤(x1+2)) (h1:x1≤2):x0≤4:=by lia -abstractProof
theorem ar441 {x0 x1 x2 x3:Nat} (h0:x0≤(x2+2)) (h1:x2≤2) (h2:x3≤2) (h3:x1=(2 * x3)):(x0+(x1+1))≤9:=by subst_vars; lia -abstractProof
theorem ar442 {x0 x1 x2 x3 x4 x5:Nat} (h0:x3≤2) (h1:x4≤2) (h2:x5≤2) (h3:x0≤(4 * x3)) (h4:x2≤(4 * x5)) (h5:x1≤(9 * x4)):(((((0+1)+x0)+x1)+x2)+(0+1))≤60:=by lia -abstractProof
theorem ar443 {x0 x1 x2:Nat} (h0:x2≤2) (h1:x0≤2) (h2:x1≤(60 * x2)):(((x0+((x1+(0+1))+1))+1)+1)≤130:=by lia -abstractProof
theorem ar444 {x0 x1 x2:Nat} (h0:x2≤2) (h1:x0≤2) (h2:x1≤2):(((x0+(x1+((x2+(0+1))+1)))+1)+1)≤12:=by subst_vars; lia -abstractProof
theorem ar445 {x0 x1:Nat} (h0:0 < x1) (h1:x1≤3) (h2:x0=x1):(x0≤3)∧(0 < x0):=by subst_vars; lia -abstractProof
theorem ar446 {x0 x1 x2 x3:Nat} (h0:x0≤(130 * x2)) (h1:x1≤(12 * x3)) (h2:(x2≤3)∧(0 < x2)) (h3:x3≤2):(x0+x1)≤420:=by lia -abstractProof
theorem ar447 {x0:Nat} (h0:(x0≤3)∧(0 < x0)):x0 < 20:=by subst_vars; lia -abstractProof
theorem ar448 {x0:Nat} (h0:x0≤2):x0 < 20:=by grind -abstractProof
theorem ar449 {x0 x1:Nat} (h0:x0≤(4 * x1)) (h1:x1≤2):x0 < 1000:=by lia -abstractProof
theorem ar450 {x0 x1 x2:Nat} (h0:x0≤x1):x0≤(x1+x2):=by lia -abstractProof
theorem ar451 {x0 x1 x2 x3 x4:Nat} (h0:x0≤x4) (h1:x2≤x3):((x0+x1)+x2)≤(x3+(x4+x1)):=by subst_vars; lia -abstractProof
theorem ar452 {x0:Nat} (h0:x0≤(3 * (5+1))):((1+x0)+1)≤20:=by lia -abstractProof
theorem ar453 {x0:Nat} (h0:x0≤5):x0≤20:=by refine Nat.le_trans ?_ (Nat.le_trans h0 (by decide)); repeat (first | exact Nat.le_refl _ | exact Nat.le_add_left _ _ | refine Nat.le_trans ?_ (Nat.le_add_right _ _))
theorem ar454 {x0:Nat} (h0:x0≤6):x0≤32:=by refine Nat.le_trans ?_ (Nat.le_trans h0 (by decide)); repeat (first | exact Nat.le_refl _ | exact Nat.le_add_left _ _ | refine Nat.le_trans ?_ (Nat.le_add_right _ _))
theorem ar455 {x0:Nat} (h0:x0≤(4 * (6+1))):((1+x0)+1)≤32:=by subst_vars; lia -abstractProof
theorem ar456 {x0 x1 x2 x3 x4:Nat} (h0:x0=4) (h1:x2=4) (h2:x4=1) (h3:x1≤5) (h4:x3≤5):((((x0+x1)+x2)+x3)+x4)≤400:=by subst_vars; lia -abstractProof
theorem ar457 {x0:Nat} (h0:x0≤(3 * (5+1))):x0≤18:=by omega
theorem ar458 {x0:Nat} (h0:x0=4):x0≤18:=by lia -abstractProof
theorem ar459 {x0 x1 x2 x3 x4:Nat} (h0:x0=4) (h1:x2=4) (h2:x4=1) (h3:x1≤5) (h4:x3≤18):((((x0+x1)+x2)+x3)+x4)≤400:=by subst_vars; lia -abstractProof
theorem ar460 {x0 x1 x2 x3 x4:Nat} (h0:x0=4) (h1:x2=7) (h2:x4=2) (h3:x1≤5) (h4:x3≤(3 * (5+1))):((((x0+x1)+x2)+x3)+x4)≤400:=by subst_vars; lia -abstractProof
theorem ar461 {x0 x1 x2 x3 x4:Nat} (h0:x0=4) (h1:x2=4) (h2:x4=1) (h3:x3≤5) (h4:x1≤(3 * (5+1))):((((x0+x1)+x2)+x3)+x4)≤400:=by subst_vars; lia -abstractProof
theorem ar462 {x0 x1 x2 x3 x4:Nat} (h0:x0=4) (h1:x4=1) (h2:x1≤(2 * (5+1))) (h3:x3≤32) (h4:x2=1):((((x0+x1)+x2)+x3)+x4)≤400:=by lia -abstractProof
theorem ar463 {x0:Nat} (h0:x0≤2):(x0+1)≤3:=by simp; omega
theorem ar464 {x0 x1 x2 x3:Nat} (h0:x0≤2) (h1:x3≤2) (h2:x2≤2) (h3:x1≤(3 * x3)):((x0+(x1+x2))+1)≤11:=by subst_vars; lia -abstractProof
theorem ar465 {x0:Nat} (h0:x0≤2):x0≤3:=by grind -abstractProof
theorem ar466 {x0:Nat} (h0:x0≤20):x0≤30:=by grind -abstractProof
theorem ar467 {x0 x1:Nat} (h0:x1=1) (h1:x0≤20):(x0+x1)≤30:=by lia -abstractProof
theorem ar468 {x0 x1:Nat} (h0:x0=7) (h1:x1≤20):(x0+x1)≤30:=by lia -abstractProof
theorem ar469 {x0 x1:Nat} (h0:x1=1) (h1:x0≤(11 * (30+1))):(x0+x1)≤400:=by subst_vars; lia -abstractProof
theorem ar470 {x0:Nat} (h0:x0≤2):((x0+(0+1))+1)≤4:=by subst_vars; lia -abstractProof
theorem ar471 {x0 x1:Nat} (h0:x0=6) (h1:x1≤6):(x0+x1)≤12:=by lia -abstractProof
theorem ar472 {x0 x1 x2 x3:Nat} (h0:x0=7) (h1:x3=2) (h2:x1≤20) (h3:x2≤12):(((x0+x1)+x2)+x3)≤410:=by lia -abstractProof
theorem ar473 {x0 x1:Nat} (h0:x0=4) (h1:x1≤400):(x0+x1)≤410:=by lia -abstractProof
theorem ar474 {x0:Nat} (h0:x0=1):x0≤410:=by subst_vars; lia -abstractProof
theorem ar475 {x0 x1 x2 x3 x4 x5 x6:Nat} (h0:x0=8) (h1:x4=3) (h2:x6=2) (h3:x1≤20) (h4:x2≤28) (h5:x3≤30) (h6:x5≤(2 * (20+1))):((((((x0+x1)+x2)+x3)+x4)+x5)+x6)≤200:=by subst_vars; lia -abstractProof
theorem ar476 {x0 x1 x2:Nat} (h0:(x2≤3)∧(0 < x2)) (h1:x1≤2) (h2:x0≤(4 * x2)):(x0+x1)≤14:=by subst_vars; lia -abstractProof
theorem ar477 {x0:Nat} (h0:x0≤200):x0≤410:=by refine Nat.le_trans ?_ (Nat.le_trans h0 (by decide)); repeat (first | exact Nat.le_refl _ | exact Nat.le_add_left _ _ | refine Nat.le_trans ?_ (Nat.le_add_right _ _))
theorem ar478 {x0 x1:Nat} (h0:x0≤(14 * (410+1))) (h1:x1=1):(x0+x1) < 80000:=by subst_vars; lia -abstractProof
theorem ar479 {x0 x1:Nat} (h0:x1≤420) (h1:x0=(x1+1)):x0 < (2 ^ 24):=by lia -abstractProof
theorem ar480 {x0:Nat} (h0:x0≤20):x0 < (2 ^ 24):=by lia -abstractProof
theorem ar481 {x0 x1 x2:Nat} (h0:x0=x2) (h1:(0+x1)=x2):x0≤x1:=by subst_vars; grind -abstractProof
theorem ar482 {x0 x1:Nat} (h0:(0+x1)=x0):x0≤x1:=by subst_vars; omega
theorem ar483 {x0 x1 x2:Nat} (h0:((x2+1)+x0)=x1):x0 < x1:=by subst_vars; lia -abstractProof
theorem ar484 {x0 x1:Nat} (h0:x1≤1000):(min x0 x1)≤(2 ^ 24):=by grind -abstractProof
theorem ar485 {x0 x1 x2:Nat} (h0:x0 < (min x1 x2)):x0 < x1:=by grind -abstractProof
theorem ar486 {x0 x1 x2:Nat} (h0:x2 < x1) (h1:x0 < x2):x0 < x1:=by lia -abstractProof
theorem ar487 {x0 x1:Nat} (h0:x0 < x1) (h1:x0=x1):False:=by lia -abstractProof
theorem ar488 {x0 x1 x2:Nat} (h0:((x0+1)+x1)=x2):(x0+(x1+1))=x2:=by subst_vars; omega
theorem ar489 {x0 x1 x2:Nat} (h0:x1≤1000) (h1:x0=x2) (h2:x2=x1):x0≤1000:=by subst_vars; omega
theorem ar490 {x0:Nat}:(x0+0)=x0:=by simp +arith
theorem ar491 {x0:Nat} (h0:2 < x0):x0≠1:=by lia -abstractProof
theorem ar492 {x0 x1 x2:Nat} (h0:x0≤x2) (h1:x1≤x2):(max x0 x1)≤x2:=by lia -abstractProof
theorem ar493 {x0:Nat} (h0:x0≤420):x0 < 100000:=by lia -abstractProof
theorem ar494 {x0:Nat} (h0:x0≤420):x0 < 1000:=by lia -abstractProof
theorem ar495 {x0 x1:Nat} (h0:x1≤420) (h1:x0≤((40 * x1)+40)):x0 < (2 ^ 24):=by subst_vars; lia -abstractProof
theorem ar496 {x0:Nat} (h0:(x0≤3)∧(0 < x0)):x0 < 1000:=by grind -abstractProof
theorem ar497 {x0:Nat} (h0:x0≤8):x0≤64:=by refine Nat.le_trans ?_ (Nat.le_trans h0 (by decide)); repeat (first | exact Nat.le_refl _ | exact Nat.le_add_left _ _ | refine Nat.le_trans ?_ (Nat.le_add_right _ _))
theorem ar498 {x0:Nat} (h0:x0 < 80000):x0 < 1000000:=by refine Nat.lt_of_le_of_lt ?_ (Nat.lt_of_lt_of_le h0 (by decide)); repeat (first | exact Nat.le_refl _ | exact Nat.le_add_left _ _ | refine Nat.le_trans ?_ (Nat.le_add_right _ _))
theorem ar499 {x0 x1:Nat} (h0:x1 < 80000) (h1:x0≤x1):(x0+0)≤(2 ^ 24):=by simp; omega
theorem ar500 {x0:Nat} (h0:x0 < 80000):x0 < (2 ^ 24):=by grind -abstractProof
theorem ar501 {x0 x1:Nat} (h0:x0 < x1) (h1:(x1≤3)∧(0 < x1)):(x0:Int) < (2 ^ 63):=by lia -abstractProof
theorem ar502 {x0:Nat} (h0:x0≤2):x0≤64:=by refine Nat.le_trans ?_ (Nat.le_trans h0 (by decide)); repeat (first | exact Nat.le_refl _ | exact Nat.le_add_left _ _ | refine Nat.le_trans ?_ (Nat.le_add_right _ _))
theorem ar503 {x0 x1:Nat} (h0:x1≤2) (h1:x0=x1):x0 < (2 ^ 24):=by subst_vars; omega
theorem ar504 {x0 x1 x2 x3:Nat} (h0:x1≤x3) (h1:((x0+(3 * x3))+3) < x2):((x0+(3 * x1))+3) < x2:=by subst_vars; lia -abstractProof
theorem ar505 {x0 x1 x2 x3:Nat} (h0:x1≤x3) (h1:((x0+(100 * x3))+200) < x2):((x0+(100 * x1))+200) < x2:=by lia -abstractProof
theorem ar506 {x0 x1 x2 x3 x4:Nat} (h0:x1≤64) (h1:((x0+x4)+200) < x3):(x0+(min x1 x2)) < x3:=by exact Nat.lt_of_le_of_lt (Nat.add_le_add_left (Nat.min_le_left _ _) _) (by lia -abstractProof)
theorem ar507 {x0 x1 x2:Nat} (h0:((x0+x2)+200) < x1):x0 < x1:=by refine Nat.lt_of_le_of_lt ?_ h0; repeat (first | exact Nat.le_refl _ | exact Nat.le_add_left _ _ | refine Nat.le_trans ?_ (Nat.le_add_right _ _))
theorem ar508 {x0 x1 x2 x3 x4 x5:Nat} (h0:x4≤64) (h1:((x0+x5)+200) < x3) (h2:x1=(x4+1)):(x0+(min x1 x2)) < x3:=by grind -abstractProof
theorem ar509 {x0 x1 x2 x3 x4:Nat} (h0:x2≤64) (h1:((x0+x4)+200) < x3):((x0+1)+(min x1 x2)) < x3:=by grind -abstractProof
theorem ar510 {x0 x1:Int} (h0:x1≤x0) (h1:x0 < (2 ^ 63)):(¬ (x0 < x1))∧(¬ (x0 ≥ (2 ^ 63))):=by lia -abstractProof
theorem ar511 {x0 x1:Nat}:(Int.toNat ((x0:Int)+((x1:Int) * 1)))=(x0+x1):=by lia -abstractProof
theorem ar512 {x0 x1 x2 x3:Nat} (h0:x2≤x3):(min (x0 - x1) (x2 - x1))≤x3:=by exact Nat.le_trans (Nat.min_le_right _ _) (Nat.le_trans (Nat.sub_le _ _) h0)
theorem ar513 {x0:Nat} (h0:x0 < 29):x0 < 30:=by refine Nat.le_trans ?_ (Nat.le_trans h0 (by decide)); repeat (first | exact Nat.le_refl _ | exact Nat.le_add_left _ _ | refine Nat.le_trans ?_ (Nat.le_add_right _ _))
theorem ar514 {x0:Int} (h0:x0 < (2 ^ 63)):x0 < 9223372036854775808:=by exact h0
theorem ar515 {x0 x1:Nat} (h0:x1 < x0):((x0+1) - (x1+1)) < ((x0+1) - x1):=by lia -abstractProof
theorem ar516 {x0 x1:Nat} (h0:x1 < x0):0 < ((x0:Int) - (x1:Int)):=by simp; omega
theorem ar517 {x0:Int} {x1:Nat}:(x0+(((x1+1):Nat):Int))=((x0+(x1:Int))+1):=by simp +arith
theorem ar518 {x0:Int} {x1:Nat}:(x0 - (((x1+1):Nat):Int))=((x0 - (x1:Int)) - 1):=by simp +arith
theorem ar519 {x0 x1:Nat} (h0:x0≤x1):((x0:Int) - (x1:Int))≤0:=by lia -abstractProof
theorem ar520 {x0:Nat}:(((x0+1):Nat):Int)=((x0:Int)+1):=by rfl
theorem ar521 {x0:Nat}:(-(2 ^ 62))≤(x0:Int):=by exact Int.natCast_nonneg _
theorem ar522 {x0:Nat} (h0:x0 < (2 ^ 60)):(x0:Int) < (2 ^ 62):=by exact Int.ofNat_lt.mpr (Nat.lt_of_lt_of_le h0 (by decide))
theorem ar523 {x0 x1:Nat} (h0:(x0+x1) < (2 ^ 60)):(x0:Int) < (2 ^ 62):=by refine Int.ofNat_lt.mpr (Nat.lt_of_le_of_lt ?_ (Nat.lt_of_lt_of_le h0 (by decide))); repeat (first | exact Nat.le_refl _ | exact Nat.le_add_left _ _ | refine Nat.le_trans ?_ (Nat.le_add_right _ _))
theorem ar524 {x0 x1 x2 x3:Nat} (h0:x2≤x1) (h1:x3 < x2) (h2:x0≤x3):x0 < x1:=by lia -abstractProof
theorem ar525 {x0 x1 x2:Nat} (h0:((x0+x2)+3) < x1):x0 < x1:=by refine Nat.lt_of_le_of_lt ?_ h0; repeat (first | exact Nat.le_refl _ | exact Nat.le_add_left _ _ | refine Nat.le_trans ?_ (Nat.le_add_right _ _))
theorem ar526 {x0 x1 x2:Nat} (h0:((x0+(3 * (x1+1)))+3) < x2):(((x0+1)+(3 * x1))+3) < x2:=by lia -abstractProof
theorem ar527 {x0 x1 x2:Nat} (h0:((x0+(100 * (x1+1)))+200) < x2):(((x0+3)+(100 * x1))+200) < x2:=by lia -abstractProof
theorem ar528 {x0 x1 x2:Nat} (h0:x1≤100) (h1:x2=x1) (h2:x0≤(x2+1)):x0≤(16777216+1):=by subst_vars; lia -abstractProof
theorem ar529 {x0 x1 x2:Nat} (h0:((x0+(100 * (x1+1)))+200) < x2):(((x0+1)+(100 * x1))+200) < x2:=by lia -abstractProof
theorem ar530 {x0 x1 x2:Nat} (h0:x2=x1) (h1:x0 < x2):x0 < x1:=by subst_vars; omega
theorem ar531 {x0 x1:Nat} (h0:x1 < (2 ^ 60)) (h1:x0 < x1):(x0:Int) < ((2 ^ 63) - 1):=by omega
theorem ar532 {x0 x1 x2:Nat} (h0:x0 < x2) (h1:x1=x2):(x0:Int) < (x1:Int):=by subst_vars; omega
@[irreducible] noncomputable def bad {T:Type} (ne:Nonempty T) (q:T→Prop):T:=@Classical.epsilon T ne fun t=>¬ q t
unseal bad in
theorem bad_all {T:Type} (ne:Nonempty T) (q:T→Prop) (h:q (bad ne q)):∀ t,q t:=fun t=>Classical.byContradiction fun n=>(@Classical.epsilon_spec_aux T ne (fun t=>¬ q t) ⟨t,n⟩) h
theorem neP {α β:Type} (a:Nonempty α) (b:Nonempty β):Nonempty (α×β):=a.elim fun a=>b.elim fun b=>⟨(a,b)⟩
noncomputable def b2 {α1 α2:Type} (ne:Nonempty (α1×α2)) (p:α1→α2→Prop):α1×α2:=bad ne fun t=>p t.1 t.2
theorem all2 {α1 α2:Type} (ne:Nonempty (α1×α2)) {p:α1→α2→Prop} (h:p (b2 ne p).1 (b2 ne p).2):∀ a1 a2,p a1 a2:=fun a1 a2=>bad_all ne (fun t=>p t.1 t.2) h (a1,a2)
noncomputable def b3 {α1 α2 α3:Type} (ne:Nonempty (α1×α2×α3)) (p:α1→α2→α3→Prop):α1×α2×α3:=bad ne fun t=>p t.1 t.2.1 t.2.2
theorem all3 {α1 α2 α3:Type} (ne:Nonempty (α1×α2×α3)) {p:α1→α2→α3→Prop} (h:p (b3 ne p).1 (b3 ne p).2.1 (b3 ne p).2.2):∀ a1 a2 a3,p a1 a2 a3:=fun a1 a2 a3=>bad_all ne (fun t=>p t.1 t.2.1 t.2.2) h (a1,a2,a3)
noncomputable def b4 {α1 α2 α3 α4:Type} (ne:Nonempty (α1×α2×α3×α4)) (p:α1→α2→α3→α4→Prop):α1×α2×α3×α4:=bad ne fun t=>p t.1 t.2.1 t.2.2.1 t.2.2.2
theorem all4 {α1 α2 α3 α4:Type} (ne:Nonempty (α1×α2×α3×α4)) {p:α1→α2→α3→α4→Prop} (h:p (b4 ne p).1 (b4 ne p).2.1 (b4 ne p).2.2.1 (b4 ne p).2.2.2):∀ a1 a2 a3 a4,p a1 a2 a3 a4:=fun a1 a2 a3 a4=>bad_all ne (fun t=>p t.1 t.2.1 t.2.2.1 t.2.2.2) h (a1,a2,a3,a4)
noncomputable def b5 {α1 α2 α3 α4 α5:Type} (ne:Nonempty (α1×α2×α3×α4×α5)) (p:α1→α2→α3→α4→α5→Prop):α1×α2×α3×α4×α5:=bad ne fun t=>p t.1 t.2.1 t.2.2.1 t.2.2.2.1 t.2.2.2.2
theorem all5 {α1 α2 α3 α4 α5:Type} (ne:Nonempty (α1×α2×α3×α4×α5)) {p:α1→α2→α3→α4→α5→Prop} (h:p (b5 ne p).1 (b5 ne p).2.1 (b5 ne p).2.2.1 (b5 ne p).2.2.2.1 (b5 ne p).2.2.2.2):∀ a1 a2 a3 a4 a5,p a1 a2 a3 a4 a5:=fun a1 a2 a3 a4 a5=>bad_all ne (fun t=>p t.1 t.2.1 t.2.2.1 t.2.2.2.1 t.2.2.2.2) h (a1,a2,a3,a4,a5)
noncomputable def b6 {α1 α2 α3 α4 α5 α6:Type} (ne:Nonempty (α1×α2×α3×α4×α5×α6)) (p:α1→α2→α3→α4→α5→α6→Prop):α1×α2×α3×α4×α5×α6:=bad ne fun t=>p t.1 t.2.1 t.2.2.1 t.2.2.2.1 t.2.2.2.2.1 t.2.2.2.2.2
theorem all6 {α1 α2 α3 α4 α5 α6:Type} (ne:Nonempty (α1×α2×α3×α4×α5×α6)) {p:α1→α2→α3→α4→α5→α6→Prop} (h:p (b6 ne p).1 (b6 ne p).2.1 (b6 ne p).2.2.1 (b6 ne p).2.2.2.1 (b6 ne p).2.2.2.2.1 (b6 ne p).2.2.2.2.2):∀ a1 a2 a3 a4 a5 a6,p a1 a2 a3 a4 a5 a6:=fun a1 a2 a3 a4 a5 a6=>bad_all ne (fun t=>p t.1 t.2.1 t.2.2.1 t.2.2.2.1 t.2.2.2.2.1 t.2.2.2.2.2) h (a1,a2,a3,a4,a5,a6)
noncomputable def b7 {α1 α2 α3 α4 α5 α6 α7:Type} (ne:Nonempty (α1×α2×α3×α4×α5×α6×α7)) (p:α1→α2→α3→α4→α5→α6→α7→Prop):α1×α2×α3×α4×α5×α6×α7:=bad ne fun t=>p t.1 t.2.1 t.2.2.1 t.2.2.2.1 t.2.2.2.2.1 t.2.2.2.2.2.1 t.2.2.2.2.2.2
theorem all7 {α1 α2 α3 α4 α5 α6 α7:Type} (ne:Nonempty (α1×α2×α3×α4×α5×α6×α7)) {p:α1→α2→α3→α4→α5→α6→α7→Prop} (h:p (b7 ne p).1 (b7 ne p).2.1 (b7 ne p).2.2.1 (b7 ne p).2.2.2.1 (b7 ne p).2.2.2.2.1 (b7 ne p).2.2.2.2.2.1 (b7 ne p).2.2.2.2.2.2):∀ a1 a2 a3 a4 a5 a6 a7,p a1 a2 a3 a4 a5 a6 a7:=fun a1 a2 a3 a4 a5 a6 a7=>bad_all ne (fun t=>p t.1 t.2.1 t.2.2.1 t.2.2.2.1 t.2.2.2.2.1 t.2.2.2.2.2.1 t.2.2.2.2.2.2) h (a1,a2,a3,a4,a5,a6,a7)
noncomputable def b8 {α1 α2 α3 α4 α5 α6 α7 α8:Type} (ne:Nonempty (α1×α2×α3×α4×α5×α6×α7×α8)) (p:α1→α2→α3→α4→α5→α6→α7→α8→Prop):α1×α2×α3×α4×α5×α6×α7×α8:=bad ne fun t=>p t.1 t.2.1 t.2.2.1 t.2.2.2.1 t.2.2.2.2.1 t.2.2.2.2.2.1 t.2.2.2.2.2.2.1 t.2.2.2.2.2.2.2
theorem all8 {α1 α2 α3 α4 α5 α6 α7 α8:Type} (ne:Nonempty (α1×α2×α3×α4×α5×α6×α7×α8)) {p:α1→α2→α3→α4→α5→α6→α7→α8→Prop} (h:p (b8 ne p).1 (b8 ne p).2.1 (b8 ne p).2.2.1 (b8 ne p).2.2.2.1 (b8 ne p).2.2.2.2.1 (b8 ne p).2.2.2.2.2.1 (b8 ne p).2.2.2.2.2.2.1 (b8 ne p).2.2.2.2.2.2.2):∀ a1 a2 a3 a4 a5 a6 a7 a8,p a1 a2 a3 a4 a5 a6 a7 a8:=fun a1 a2 a3 a4 a5 a6 a7 a8=>bad_all ne (fun t=>p t.1 t.2.1 t.2.2.1 t.2.2.2.1 t.2.2.2.2.1 t.2.2.2.2.2.1 t.2.2.2.2.2.2.1 t.2.2.2.2.2.2.2) h (a1,a2,a3,a4,a5,a6,a7,a8)
noncomputable def b9 {α1 α2 α3 α4 α5 α6 α7 α8 α9:Type} (ne:Nonempty (α1×α2×α3×α4×α5×α6×α7×α8×α9)) (p:α1→α2→α3→α4→α5→α6→α7→α8→α9→Prop):α1×α2×α3×α4×α5×α6×α7×α8×α9:=bad ne fun t=>p t.1 t.2.1 t.2.2.1 t.2.2.2.1 t.2.2.2.2.1 t.2.2.2.2.2.1 t.2.2.2.2.2.2.1 t.2.2.2.2.2.2.2.1 t.2.2.2.2.2.2.2.2
theorem all9 {α1 α2 α3 α4 α5 α6 α7 α8 α9:Type} (ne:Nonempty (α1×α2×α3×α4×α5×α6×α7×α8×α9)) {p:α1→α2→α3→α4→α5→α6→α7→α8→α9→Prop} (h:p (b9 ne p).1 (b9 ne p).2.1 (b9 ne p).2.2.1 (b9 ne p).2.2.2.1 (b9 ne p).2.2.2.2.1 (b9 ne p).2.2.2.2.2.1 (b9 ne p).2.2.2.2.2.2.1 (b9 ne p).2.2.2.2.2.2.2.1 (b9 ne p).2.2.2.2.2.2.2.2):∀ a1 a2 a3 a4 a5 a6 a7 a8 a9,p a1 a2 a3 a4 a5 a6 a7 a8 a9:=fun a1 a2 a3 a4 a5 a6 a7 a8 a9=>bad_all ne (fun t=>p t.1 t.2.1 t.2.2.1 t.2.2.2.1 t.2.2.2.2.1 t.2.2.2.2.2.1 t.2.2.2.2.2.2.1 t.2.2.2.2.2.2.2.1 t.2.2.2.2.2.2.2.2) h (a1,a2,a3,a4,a5,a6,a7,a8,a9)
noncomputable def b10 {α1 α2 α3 α4 α5 α6 α7 α8 α9 α10:Type} (ne:Nonempty (α1×α2×α3×α4×α5×α6×α7×α8×α9×α10)) (p:α1→α2→α3→α4→α5→α6→α7→α8→α9→α10→Prop):α1×α2×α3×α4×α5×α6×α7×α8×α9×α10:=bad ne fun t=>p t.1 t.2.1 t.2.2.1 t.2.2.2.1 t.2.2.2.2.1 t.2.2.2.2.2.1 t.2.2.2.2.2.2.1 t.2.2.2.2.2.2.2.1 t.2.2.2.2.2.2.2.2.1 t.2.2.2.2.2.2.2.2.2
theorem all10 {α1 α2 α3 α4 α5 α6 α7 α8 α9 α10:Type} (ne:Nonempty (α1×α2×α3×α4×α5×α6×α7×α8×α9×α10)) {p:α1→α2→α3→α4→α5→α6→α7→α8→α9→α10→Prop} (h:p (b10 ne p).1 (b10 ne p).2.1 (b10 ne p).2.2.1 (b10 ne p).2.2.2.1 (b10 ne p).2.2.2.2.1 (b10 ne p).2.2.2.2.2.1 (b10 ne p).2.2.2.2.2.2.1 (b10 ne p).2.2.2.2.2.2.2.1 (b10 ne p).2.2.2.2.2.2.2.2.1 (b10 ne p).2.2.2.2.2.2.2.2.2):∀ a1 a2 a3 a4 a5 a6 a7 a8 a9 a10,p a1 a2 a3 a4 a5 a6 a7 a8 a9 a10:=fun a1 a2 a3 a4 a5 a6 a7 a8 a9 a10=>bad_all ne (fun t=>p t.1 t.2.1 t.2.2.1 t.2.2.2.1 t.2.2.2.2.1 t.2.2.2.2.2.1 t.2.2.2.2.2.2.1 t.2.2.2.2.2.2.2.1 t.2.2.2.2.2.2.2.2.1 t.2.2.2.2.2.2.2.2.2) h (a1,a2,a3,a4,a5,a6,a7,a8,a9,a10)
noncomputable def b11 {α1 α2 α3 α4 α5 α6 α7 α8 α9 α10 α11:Type} (ne:Nonempty (α1×α2×α3×α4×α5×α6×α7×α8×α9×α10×α11)) (p:α1→α2→α3→α4→α5→α6→α7→α8→α9→α10→α11→Prop):α1×α2×α3×α4×α5×α6×α7×α8×α9×α10×α11:=bad ne fun t=>p t.1 t.2.1 t.2.2.1 t.2.2.2.1 t.2.2.2.2.1 t.2.2.2.2.2.1 t.2.2.2.2.2.2.1 t.2.2.2.2.2.2.2.1 t.2.2.2.2.2.2.2.2.1 t.2.2.2.2.2.2.2.2.2.1 t.2.2.2.2.2.2.2.2.2.2
theorem all11 {α1 α2 α3 α4 α5 α6 α7 α8 α9 α10 α11:Type} (ne:Nonempty (α1×α2×α3×α4×α5×α6×α7×α8×α9×α10×α11)) {p:α1→α2→α3→α4→α5→α6→α7→α8→α9→α10→α11→Prop} (h:p (b11 ne p).1 (b11 ne p).2.1 (b11 ne p).2.2.1 (b11 ne p).2.2.2.1 (b11 ne p).2.2.2.2.1 (b11 ne p).2.2.2.2.2.1 (b11 ne p).2.2.2.2.2.2.1 (b11 ne p).2.2.2.2.2.2.2.1 (b11 ne p).2.2.2.2.2.2.2.2.1 (b11 ne p).2.2.2.2.2.2.2.2.2.1 (b11 ne p).2.2.2.2.2.2.2.2.2.2):∀ a1 a2 a3 a4 a5 a6 a7 a8 a9 a10 a11,p a1 a2 a3 a4 a5 a6 a7 a8 a9 a10 a11:=fun a1 a2 a3 a4 a5 a6 a7 a8 a9 a10 a11=>bad_all ne (fun t=>p t.1 t.2.1 t.2.2.1 t.2.2.2.1 t.2.2.2.2.1 t.2.2.2.2.2.1 t.2.2.2.2.2.2.1 t.2.2.2.2.2.2.2.1 t.2.2.2.2.2.2.2.2.1 t.2.2.2.2.2.2.2.2.2.1 t.2.2.2.2.2.2.2.2.2.2) h (a1,a2,a3,a4,a5,a6,a7,a8,a9,a10,a11)
noncomputable def b12 {α1 α2 α3 α4 α5 α6 α7 α8 α9 α10 α11 α12:Type} (ne:Nonempty (α1×α2×α3×α4×α5×α6×α7×α8×α9×α10×α11×α12)) (p:α1→α2→α3→α4→α5→α6→α7→α8→α9→α10→α11→α12→Prop):α1×α2×α3×α4×α5×α6×α7×α8×α9×α10×α11×α12:=bad ne fun t=>p t.1 t.2.1 t.2.2.1 t.2.2.2.1 t.2.2.2.2.1 t.2.2.2.2.2.1 t.2.2.2.2.2.2.1 t.2.2.2.2.2.2.2.1 t.2.2.2.2.2.2.2.2.1 t.2.2.2.2.2.2.2.2.2.1 t.2.2.2.2.2.2.2.2.2.2.1 t.2.2.2.2.2.2.2.2.2.2.2
theorem all12 {α1 α2 α3 α4 α5 α6 α7 α8 α9 α10 α11 α12:Type} (ne:Nonempty (α1×α2×α3×α4×α5×α6×α7×α8×α9×α10×α11×α12)) {p:α1→α2→α3→α4→α5→α6→α7→α8→α9→α10→α11→α12→Prop} (h:p (b12 ne p).1 (b12 ne p).2.1 (b12 ne p).2.2.1 (b12 ne p).2.2.2.1 (b12 ne p).2.2.2.2.1 (b12 ne p).2.2.2.2.2.1 (b12 ne p).2.2.2.2.2.2.1 (b12 ne p).2.2.2.2.2.2.2.1 (b12 ne p).2.2.2.2.2.2.2.2.1 (b12 ne p).2.2.2.2.2.2.2.2.2.1 (b12 ne p).2.2.2.2.2.2.2.2.2.2.1 (b12 ne p).2.2.2.2.2.2.2.2.2.2.2):∀ a1 a2 a3 a4 a5 a6 a7 a8 a9 a10 a11 a12,p a1 a2 a3 a4 a5 a6 a7 a8 a9 a10 a11 a12:=fun a1 a2 a3 a4 a5 a6 a7 a8 a9 a10 a11 a12=>bad_all ne (fun t=>p t.1 t.2.1 t.2.2.1 t.2.2.2.1 t.2.2.2.2.1 t.2.2.2.2.2.1 t.2.2.2.2.2.2.1 t.2.2.2.2.2.2.2.1 t.2.2.2.2.2.2.2.2.1 t.2.2.2.2.2.2.2.2.2.1 t.2.2.2.2.2.2.2.2.2.2.1 t.2.2.2.2.2.2.2.2.2.2.2) h (a1,a2,a3,a4,a5,a6,a7,a8,a9,a10,a11,a12)
noncomputable def b13 {α1 α2 α3 α4 α5 α6 α7 α8 α9 α10 α11 α12 α13:Type} (ne:Nonempty (α1×α2×α3×α4×α5×α6×α7×α8×α9×α10×α11×α12×α13)) (p:α1→α2→α3→α4→α5→α6→α7→α8→α9→α10→α11→α12→α13→Prop):α1×α2×α3×α4×α5×α6×α7×α8×α9×α10×α11×α12×α13:=bad ne fun t=>p t.1 t.2.1 t.2.2.1 t.2.2.2.1 t.2.2.2.2.1 t.2.2.2.2.2.1 t.2.2.2.2.2.2.1 t.2.2.2.2.2.2.2.1 t.2.2.2.2.2.2.2.2.1 t.2.2.2.2.2.2.2.2.2.1 t.2.2.2.2.2.2.2.2.2.2.1 t.2.2.2.2.2.2.2.2.2.2.2.1 t.2.2.2.2.2.2.2.2.2.2.2.2
theorem all13 {α1 α2 α3 α4 α5 α6 α7 α8 α9 α10 α11 α12 α13:Type} (ne:Nonempty (α1×α2×α3×α4×α5×α6×α7×α8×α9×α10×α11×α12×α13)) {p:α1→α2→α3→α4→α5→α6→α7→α8→α9→α10→α11→α12→α13→Prop} (h:p (b13 ne p).1 (b13 ne p).2.1 (b13 ne p).2.2.1 (b13 ne p).2.2.2.1 (b13 ne p).2.2.2.2.1 (b13 ne p).2.2.2.2.2.1 (b13 ne p).2.2.2.2.2.2.1 (b13 ne p).2.2.2.2.2.2.2.1 (b13 ne p).2.2.2.2.2.2.2.2.1 (b13 ne p).2.2.2.2.2.2.2.2.2.1 (b13 ne p).2.2.2.2.2.2.2.2.2.2.1 (b13 ne p).2.2.2.2.2.2.2.2.2.2.2.1 (b13 ne p).2.2.2.2.2.2.2.2.2.2.2.2):∀ a1 a2 a3 a4 a5 a6 a7 a8 a9 a10 a11 a12 a13,p a1 a2 a3 a4 a5 a6 a7 a8 a9 a10 a11 a12 a13:=fun a1 a2 a3 a4 a5 a6 a7 a8 a9 a10 a11 a12 a13=>bad_all ne (fun t=>p t.1 t.2.1 t.2.2.1 t.2.2.2.1 t.2.2.2.2.1 t.2.2.2.2.2.1 t.2.2.2.2.2.2.1 t.2.2.2.2.2.2.2.1 t.2.2.2.2.2.2.2.2.1 t.2.2.2.2.2.2.2.2.2.1 t.2.2.2.2.2.2.2.2.2.2.1 t.2.2.2.2.2.2.2.2.2.2.2.1 t.2.2.2.2.2.2.2.2.2.2.2.2) h (a1,a2,a3,a4,a5,a6,a7,a8,a9,a10,a11,a12,a13)
noncomputable def b14 {α1 α2 α3 α4 α5 α6 α7 α8 α9 α10 α11 α12 α13 α14:Type} (ne:Nonempty (α1×α2×α3×α4×α5×α6×α7×α8×α9×α10×α11×α12×α13×α14)) (p:α1→α2→α3→α4→α5→α6→α7→α8→α9→α10→α11→α12→α13→α14→Prop):α1×α2×α3×α4×α5×α6×α7×α8×α9×α10×α11×α12×α13×α14:=bad ne fun t=>p t.1 t.2.1 t.2.2.1 t.2.2.2.1 t.2.2.2.2.1 t.2.2.2.2.2.1 t.2.2.2.2.2.2.1 t.2.2.2.2.2.2.2.1 t.2.2.2.2.2.2.2.2.1 t.2.2.2.2.2.2.2.2.2.1 t.2.2.2.2.2.2.2.2.2.2.1 t.2.2.2.2.2.2.2.2.2.2.2.1 t.2.2.2.2.2.2.2.2.2.2.2.2.1 t.2.2.2.2.2.2.2.2.2.2.2.2.2
theorem all14 {α1 α2 α3 α4 α5 α6 α7 α8 α9 α10 α11 α12 α13 α14:Type} (ne:Nonempty (α1×α2×α3×α4×α5×α6×α7×α8×α9×α10×α11×α12×α13×α14)) {p:α1→α2→α3→α4→α5→α6→α7→α8→α9→α10→α11→α12→α13→α14→Prop} (h:p (b14 ne p).1 (b14 ne p).2.1 (b14 ne p).2.2.1 (b14 ne p).2.2.2.1 (b14 ne p).2.2.2.2.1 (b14 ne p).2.2.2.2.2.1 (b14 ne p).2.2.2.2.2.2.1 (b14 ne p).2.2.2.2.2.2.2.1 (b14 ne p).2.2.2.2.2.2.2.2.1 (b14 ne p).2.2.2.2.2.2.2.2.2.1 (b14 ne p).2.2.2.2.2.2.2.2.2.2.1 (b14 ne p).2.2.2.2.2.2.2.2.2.2.2.1 (b14 ne p).2.2.2.2.2.2.2.2.2.2.2.2.1 (b14 ne p).2.2.2.2.2.2.2.2.2.2.2.2.2):∀ a1 a2 a3 a4 a5 a6 a7 a8 a9 a10 a11 a12 a13 a14,p a1 a2 a3 a4 a5 a6 a7 a8 a9 a10 a11 a12 a13 a14:=fun a1 a2 a3 a4 a5 a6 a7 a8 a9 a10 a11 a12 a13 a14=>bad_all ne (fun t=>p t.1 t.2.1 t.2.2.1 t.2.2.2.1 t.2.2.2.2.1 t.2.2.2.2.2.1 t.2.2.2.2.2.2.1 t.2.2.2.2.2.2.2.1 t.2.2.2.2.2.2.2.2.1 t.2.2.2.2.2.2.2.2.2.1 t.2.2.2.2.2.2.2.2.2.2.1 t.2.2.2.2.2.2.2.2.2.2.2.1 t.2.2.2.2.2.2.2.2.2.2.2.2.1 t.2.2.2.2.2.2.2.2.2.2.2.2.2) h (a1,a2,a3,a4,a5,a6,a7,a8,a9,a10,a11,a12,a13,a14)
noncomputable def b15 {α1 α2 α3 α4 α5 α6 α7 α8 α9 α10 α11 α12 α13 α14 α15:Type} (ne:Nonempty (α1×α2×α3×α4×α5×α6×α7×α8×α9×α10×α11×α12×α13×α14×α15)) (p:α1→α2→α3→α4→α5→α6→α7→α8→α9→α10→α11→α12→α13→α14→α15→Prop):α1×α2×α3×α4×α5×α6×α7×α8×α9×α10×α11×α12×α13×α14×α15:=bad ne fun t=>p t.1 t.2.1 t.2.2.1 t.2.2.2.1 t.2.2.2.2.1 t.2.2.2.2.2.1 t.2.2.2.2.2.2.1 t.2.2.2.2.2.2.2.1 t.2.2.2.2.2.2.2.2.1 t.2.2.2.2.2.2.2.2.2.1 t.2.2.2.2.2.2.2.2.2.2.1 t.2.2.2.2.2.2.2.2.2.2.2.1 t.2.2.2.2.2.2.2.2.2.2.2.2.1 t.2.2.2.2.2.2.2.2.2.2.2.2.2.1 t.2.2.2.2.2.2.2.2.2.2.2.2.2.2
theorem all15 {α1 α2 α3 α4 α5 α6 α7 α8 α9 α10 α11 α12 α13 α14 α15:Type} (ne:Nonempty (α1×α2×α3×α4×α5×α6×α7×α8×α9×α10×α11×α12×α13×α14×α15)) {p:α1→α2→α3→α4→α5→α6→α7→α8→α9→α10→α11→α12→α13→α14→α15→Prop} (h:p (b15 ne p).1 (b15 ne p).2.1 (b15 ne p).2.2.1 (b15 ne p).2.2.2.1 (b15 ne p).2.2.2.2.1 (b15 ne p).2.2.2.2.2.1 (b15 ne p).2.2.2.2.2.2.1 (b15 ne p).2.2.2.2.2.2.2.1 (b15 ne p).2.2.2.2.2.2.2.2.1 (b15 ne p).2.2.2.2.2.2.2.2.2.1 (b15 ne p).2.2.2.2.2.2.2.2.2.2.1 (b15 ne p).2.2.2.2.2.2.2.2.2.2.2.1 (b15 ne p).2.2.2.2.2.2.2.2.2.2.2.2.1 (b15 ne p).2.2.2.2.2.2.2.2.2.2.2.2.2.1 (b15 ne p).2.2.2.2.2.2.2.2.2.2.2.2.2.2):∀ a1 a2 a3 a4 a5 a6 a7 a8 a9 a10 a11 a12 a13 a14 a15,p a1 a2 a3 a4 a5 a6 a7 a8 a9 a10 a11 a12 a13 a14 a15:=fun a1 a2 a3 a4 a5 a6 a7 a8 a9 a10 a11 a12 a13 a14 a15=>bad_all ne (fun t=>p t.1 t.2.1 t.2.2.1 t.2.2.2.1 t.2.2.2.2.1 t.2.2.2.2.2.1 t.2.2.2.2.2.2.1 t.2.2.2.2.2.2.2.1 t.2.2.2.2.2.2.2.2.1 t.2.2.2.2.2.2.2.2.2.1 t.2.2.2.2.2.2.2.2.2.2.1 t.2.2.2.2.2.2.2.2.2.2.2.1 t.2.2.2.2.2.2.2.2.2.2.2.2.1 t.2.2.2.2.2.2.2.2.2.2.2.2.2.1 t.2.2.2.2.2.2.2.2.2.2.2.2.2.2) h (a1,a2,a3,a4,a5,a6,a7,a8,a9,a10,a11,a12,a13,a14,a15)
noncomputable def b16 {α1 α2 α3 α4 α5 α6 α7 α8 α9 α10 α11 α12 α13 α14 α15 α16:Type} (ne:Nonempty (α1×α2×α3×α4×α5×α6×α7×α8×α9×α10×α11×α12×α13×α14×α15×α16)) (p:α1→α2→α3→α4→α5→α6→α7→α8→α9→α10→α11→α12→α13→α14→α15→α16→Prop):α1×α2×α3×α4×α5×α6×α7×α8×α9×α10×α11×α12×α13×α14×α15×α16:=bad ne fun t=>p t.1 t.2.1 t.2.2.1 t.2.2.2.1 t.2.2.2.2.1 t.2.2.2.2.2.1 t.2.2.2.2.2.2.1 t.2.2.2.2.2.2.2.1 t.2.2.2.2.2.2.2.2.1 t.2.2.2.2.2.2.2.2.2.1 t.2.2.2.2.2.2.2.2.2.2.1 t.2.2.2.2.2.2.2.2.2.2.2.1 t.2.2.2.2.2.2.2.2.2.2.2.2.1 t.2.2.2.2.2.2.2.2.2.2.2.2.2.1 t.2.2.2.2.2.2.2.2.2.2.2.2.2.2.1 t.2.2.2.2.2.2.2.2.2.2.2.2.2.2.2
theorem all16 {α1 α2 α3 α4 α5 α6 α7 α8 α9 α10 α11 α12 α13 α14 α15 α16:Type} (ne:Nonempty (α1×α2×α3×α4×α5×α6×α7×α8×α9×α10×α11×α12×α13×α14×α15×α16)) {p:α1→α2→α3→α4→α5→α6→α7→α8→α9→α10→α11→α12→α13→α14→α15→α16→Prop} (h:p (b16 ne p).1 (b16 ne p).2.1 (b16 ne p).2.2.1 (b16 ne p).2.2.2.1 (b16 ne p).2.2.2.2.1 (b16 ne p).2.2.2.2.2.1 (b16 ne p).2.2.2.2.2.2.1 (b16 ne p).2.2.2.2.2.2.2.1 (b16 ne p).2.2.2.2.2.2.2.2.1 (b16 ne p).2.2.2.2.2.2.2.2.2.1 (b16 ne p).2.2.2.2.2.2.2.2.2.2.1 (b16 ne p).2.2.2.2.2.2.2.2.2.2.2.1 (b16 ne p).2.2.2.2.2.2.2.2.2.2.2.2.1 (b16 ne p).2.2.2.2.2.2.2.2.2.2.2.2.2.1 (b16 ne p).2.2.2.2.2.2.2.2.2.2.2.2.2.2.1 (b16 ne p).2.2.2.2.2.2.2.2.2.2.2.2.2.2.2):∀ a1 a2 a3 a4 a5 a6 a7 a8 a9 a10 a11 a12 a13 a14 a15 a16,p a1 a2 a3 a4 a5 a6 a7 a8 a9 a10 a11 a12 a13 a14 a15 a16:=fun a1 a2 a3 a4 a5 a6 a7 a8 a9 a10 a11 a12 a13 a14 a15 a16=>bad_all ne (fun t=>p t.1 t.2.1 t.2.2.1 t.2.2.2.1 t.2.2.2.2.1 t.2.2.2.2.2.1 t.2.2.2.2.2.2.1 t.2.2.2.2.2.2.2.1 t.2.2.2.2.2.2.2.2.1 t.2.2.2.2.2.2.2.2.2.1 t.2.2.2.2.2.2.2.2.2.2.1 t.2.2.2.2.2.2.2.2.2.2.2.1 t.2.2.2.2.2.2.2.2.2.2.2.2.1 t.2.2.2.2.2.2.2.2.2.2.2.2.2.1 t.2.2.2.2.2.2.2.2.2.2.2.2.2.2.1 t.2.2.2.2.2.2.2.2.2.2.2.2.2.2.2) h (a1,a2,a3,a4,a5,a6,a7,a8,a9,a10,a11,a12,a13,a14,a15,a16)
noncomputable def b17 {α1 α2 α3 α4 α5 α6 α7 α8 α9 α10 α11 α12 α13 α14 α15 α16 α17:Type} (ne:Nonempty (α1×α2×α3×α4×α5×α6×α7×α8×α9×α10×α11×α12×α13×α14×α15×α16×α17)) (p:α1→α2→α3→α4→α5→α6→α7→α8→α9→α10→α11→α12→α13→α14→α15→α16→α17→Prop):α1×α2×α3×α4×α5×α6×α7×α8×α9×α10×α11×α12×α13×α14×α15×α16×α17:=bad ne fun t=>p t.1 t.2.1 t.2.2.1 t.2.2.2.1 t.2.2.2.2.1 t.2.2.2.2.2.1 t.2.2.2.2.2.2.1 t.2.2.2.2.2.2.2.1 t.2.2.2.2.2.2.2.2.1 t.2.2.2.2.2.2.2.2.2.1 t.2.2.2.2.2.2.2.2.2.2.1 t.2.2.2.2.2.2.2.2.2.2.2.1 t.2.2.2.2.2.2.2.2.2.2.2.2.1 t.2.2.2.2.2.2.2.2.2.2.2.2.2.1 t.2.2.2.2.2.2.2.2.2.2.2.2.2.2.1 t.2.2.2.2.2.2.2.2.2.2.2.2.2.2.2.1 t.2.2.2.2.2.2.2.2.2.2.2.2.2.2.2.2
theorem all17 {α1 α2 α3 α4 α5 α6 α7 α8 α9 α10 α11 α12 α13 α14 α15 α16 α17:Type} (ne:Nonempty (α1×α2×α3×α4×α5×α6×α7×α8×α9×α10×α11×α12×α13×α14×α15×α16×α17)) {p:α1→α2→α3→α4→α5→α6→α7→α8→α9→α10→α11→α12→α13→α14→α15→α16→α17→Prop} (h:p (b17 ne p).1 (b17 ne p).2.1 (b17 ne p).2.2.1 (b17 ne p).2.2.2.1 (b17 ne p).2.2.2.2.1 (b17 ne p).2.2.2.2.2.1 (b17 ne p).2.2.2.2.2.2.1 (b17 ne p).2.2.2.2.2.2.2.1 (b17 ne p).2.2.2.2.2.2.2.2.1 (b17 ne p).2.2.2.2.2.2.2.2.2.1 (b17 ne p).2.2.2.2.2.2.2.2.2.2.1 (b17 ne p).2.2.2.2.2.2.2.2.2.2.2.1 (b17 ne p).2.2.2.2.2.2.2.2.2.2.2.2.1 (b17 ne p).2.2.2.2.2.2.2.2.2.2.2.2.2.1 (b17 ne p).2.2.2.2.2.2.2.2.2.2.2.2.2.2.1 (b17 ne p).2.2.2.2.2.2.2.2.2.2.2.2.2.2.2.1 (b17 ne p).2.2.2.2.2.2.2.2.2.2.2.2.2.2.2.2):∀ a1 a2 a3 a4 a5 a6 a7 a8 a9 a10 a11 a12 a13 a14 a15 a16 a17,p a1 a2 a3 a4 a5 a6 a7 a8 a9 a10 a11 a12 a13 a14 a15 a16 a17:=fun a1 a2 a3 a4 a5 a6 a7 a8 a9 a10 a11 a12 a13 a14 a15 a16 a17=>bad_all ne (fun t=>p t.1 t.2.1 t.2.2.1 t.2.2.2.1 t.2.2.2.2.1 t.2.2.2.2.2.1 t.2.2.2.2.2.2.1 t.2.2.2.2.2.2.2.1 t.2.2.2.2.2.2.2.2.1 t.2.2.2.2.2.2.2.2.2.1 t.2.2.2.2.2.2.2.2.2.2.1 t.2.2.2.2.2.2.2.2.2.2.2.1 t.2.2.2.2.2.2.2.2.2.2.2.2.1 t.2.2.2.2.2.2.2.2.2.2.2.2.2.1 t.2.2.2.2.2.2.2.2.2.2.2.2.2.2.1 t.2.2.2.2.2.2.2.2.2.2.2.2.2.2.2.1 t.2.2.2.2.2.2.2.2.2.2.2.2.2.2.2.2) h (a1,a2,a3,a4,a5,a6,a7,a8,a9,a10,a11,a12,a13,a14,a15,a16,a17)
noncomputable def b23 {α1 α2 α3 α4 α5 α6 α7 α8 α9 α10 α11 α12 α13 α14 α15 α16 α17 α18 α19 α20 α21 α22 α23:Type} (ne:Nonempty (α1×α2×α3×α4×α5×α6×α7×α8×α9×α10×α11×α12×α13×α14×α15×α16×α17×α18×α19×α20×α21×α22×α23)) (p:α1→α2→α3→α4→α5→α6→α7→α8→α9→α10→α11→α12→α13→α14→α15→α16→α17→α18→α19→α20→α21→α22→α23→Prop):α1×α2×α3×α4×α5×α6×α7×α8×α9×α10×α11×α12×α13×α14×α15×α16×α17×α18×α19×α20×α21×α22×α23:=bad ne fun t=>p t.1 t.2.1 t.2.2.1 t.2.2.2.1 t.2.2.2.2.1 t.2.2.2.2.2.1 t.2.2.2.2.2.2.1 t.2.2.2.2.2.2.2.1 t.2.2.2.2.2.2.2.2.1 t.2.2.2.2.2.2.2.2.2.1 t.2.2.2.2.2.2.2.2.2.2.1 t.2.2.2.2.2.2.2.2.2.2.2.1 t.2.2.2.2.2.2.2.2.2.2.2.2.1 t.2.2.2.2.2.2.2.2.2.2.2.2.2.1 t.2.2.2.2.2.2.2.2.2.2.2.2.2.2.1 t.2.2.2.2.2.2.2.2.2.2.2.2.2.2.2.1 t.2.2.2.2.2.2.2.2.2.2.2.2.2.2.2.2.1 t.2.2.2.2.2.2.2.2.2.2.2.2.2.2.2.2.2.1 t.2.2.2.2.2.2.2.2.2.2.2.2.2.2.2.2.2.2.1 t.2.2.2.2.2.2.2.2.2.2.2.2.2.2.2.2.2.2.2.1 t.2.2.2.2.2.2.2.2.2.2.2.2.2.2.2.2.2.2.2.2.1 t.2.2.2.2.2.2.2.2.2.2.2.2.2.2.2.2.2.2.2.2.2.1 t.2.2.2.2.2.2.2.2.2.2.2.2.2.2.2.2.2.2.2.2.2.2
theorem all23 {α1 α2 α3 α4 α5 α6 α7 α8 α9 α10 α11 α12 α13 α14 α15 α16 α17 α18 α19 α20 α21 α22 α23:Type} (ne:Nonempty (α1×α2×α3×α4×α5×α6×α7×α8×α9×α10×α11×α12×α13×α14×α15×α16×α17×α18×α19×α20×α21×α22×α23)) {p:α1→α2→α3→α4→α5→α6→α7→α8→α9→α10→α11→α12→α13→α14→α15→α16→α17→α18→α19→α20→α21→α22→α23→Prop} (h:p (b23 ne p).1 (b23 ne p).2.1 (b23 ne p).2.2.1 (b23 ne p).2.2.2.1 (b23 ne p).2.2.2.2.1 (b23 ne p).2.2.2.2.2.1 (b23 ne p).2.2.2.2.2.2.1 (b23 ne p).2.2.2.2.2.2.2.1 (b23 ne p).2.2.2.2.2.2.2.2.1 (b23 ne p).2.2.2.2.2.2.2.2.2.1 (b23 ne p).2.2.2.2.2.2.2.2.2.2.1 (b23 ne p).2.2.2.2.2.2.2.2.2.2.2.1 (b23 ne p).2.2.2.2.2.2.2.2.2.2.2.2.1 (b23 ne p).2.2.2.2.2.2.2.2.2.2.2.2.2.1 (b23 ne p).2.2.2.2.2.2.2.2.2.2.2.2.2.2.1 (b23 ne p).2.2.2.2.2.2.2.2.2.2.2.2.2.2.2.1 (b23 ne p).2.2.2.2.2.2.2.2.2.2.2.2.2.2.2.2.1 (b23 ne p).2.2.2.2.2.2.2.2.2.2.2.2.2.2.2.2.2.1 (b23 ne p).2.2.2.2.2.2.2.2.2.2.2.2.2.2.2.2.2.2.1 (b23 ne p).2.2.2.2.2.2.2.2.2.2.2.2.2.2.2.2.2.2.2.1 (b23 ne p).2.2.2.2.2.2.2.2.2.2.2.2.2.2.2.2.2.2.2.2.1 (b23 ne p).2.2.2.2.2.2.2.2.2.2.2.2.2.2.2.2.2.2.2.2.2.1 (b23 ne p).2.2.2.2.2.2.2.2.2.2.2.2.2.2.2.2.2.2.2.2.2.2):∀ a1 a2 a3 a4 a5 a6 a7 a8 a9 a10 a11 a12 a13 a14 a15 a16 a17 a18 a19 a20 a21 a22 a23,p a1 a2 a3 a4 a5 a6 a7 a8 a9 a10 a11 a12 a13 a14 a15 a16 a17 a18 a19 a20 a21 a22 a23:=fun a1 a2 a3 a4 a5 a6 a7 a8 a9 a10 a11 a12 a13 a14 a15 a16 a17 a18 a19 a20 a21 a22 a23=>bad_all ne (fun t=>p t.1 t.2.1 t.2.2.1 t.2.2.2.1 t.2.2.2.2.1 t.2.2.2.2.2.1 t.2.2.2.2.2.2.1 t.2.2.2.2.2.2.2.1 t.2.2.2.2.2.2.2.2.1 t.2.2.2.2.2.2.2.2.2.1 t.2.2.2.2.2.2.2.2.2.2.1 t.2.2.2.2.2.2.2.2.2.2.2.1 t.2.2.2.2.2.2.2.2.2.2.2.2.1 t.2.2.2.2.2.2.2.2.2.2.2.2.2.1 t.2.2.2.2.2.2.2.2.2.2.2.2.2.2.1 t.2.2.2.2.2.2.2.2.2.2.2.2.2.2.2.1 t.2.2.2.2.2.2.2.2.2.2.2.2.2.2.2.2.1 t.2.2.2.2.2.2.2.2.2.2.2.2.2.2.2.2.2.1 t.2.2.2.2.2.2.2.2.2.2.2.2.2.2.2.2.2.2.1 t.2.2.2.2.2.2.2.2.2.2.2.2.2.2.2.2.2.2.2.1 t.2.2.2.2.2.2.2.2.2.2.2.2.2.2.2.2.2.2.2.2.1 t.2.2.2.2.2.2.2.2.2.2.2.2.2.2.2.2.2.2.2.2.2.1 t.2.2.2.2.2.2.2.2.2.2.2.2.2.2.2.2.2.2.2.2.2.2) h (a1,a2,a3,a4,a5,a6,a7,a8,a9,a10,a11,a12,a13,a14,a15,a16,a17,a18,a19,a20,a21,a22,a23)
noncomputable def b24 {α1 α2 α3 α4 α5 α6 α7 α8 α9 α10 α11 α12 α13 α14 α15 α16 α17 α18 α19 α20 α21 α22 α23 α24:Type} (ne:Nonempty (α1×α2×α3×α4×α5×α6×α7×α8×α9×α10×α11×α12×α13×α14×α15×α16×α17×α18×α19×α20×α21×α22×α23×α24)) (p:α1→α2→α3→α4→α5→α6→α7→α8→α9→α10→α11→α12→α13→α14→α15→α16→α17→α18→α19→α20→α21→α22→α23→α24→Prop):α1×α2×α3×α4×α5×α6×α7×α8×α9×α10×α11×α12×α13×α14×α15×α16×α17×α18×α19×α20×α21×α22×α23×α24:=bad ne fun t=>p t.1 t.2.1 t.2.2.1 t.2.2.2.1 t.2.2.2.2.1 t.2.2.2.2.2.1 t.2.2.2.2.2.2.1 t.2.2.2.2.2.2.2.1 t.2.2.2.2.2.2.2.2.1 t.2.2.2.2.2.2.2.2.2.1 t.2.2.2.2.2.2.2.2.2.2.1 t.2.2.2.2.2.2.2.2.2.2.2.1 t.2.2.2.2.2.2.2.2.2.2.2.2.1 t.2.2.2.2.2.2.2.2.2.2.2.2.2.1 t.2.2.2.2.2.2.2.2.2.2.2.2.2.2.1 t.2.2.2.2.2.2.2.2.2.2.2.2.2.2.2.1 t.2.2.2.2.2.2.2.2.2.2.2.2.2.2.2.2.1 t.2.2.2.2.2.2.2.2.2.2.2.2.2.2.2.2.2.1 t.2.2.2.2.2.2.2.2.2.2.2.2.2.2.2.2.2.2.1 t.2.2.2.2.2.2.2.2.2.2.2.2.2.2.2.2.2.2.2.1 t.2.2.2.2.2.2.2.2.2.2.2.2.2.2.2.2.2.2.2.2.1 t.2.2.2.2.2.2.2.2.2.2.2.2.2.2.2.2.2.2.2.2.2.1 t.2.2.2.2.2.2.2.2.2.2.2.2.2.2.2.2.2.2.2.2.2.2.1 t.2.2.2.2.2.2.2.2.2.2.2.2.2.2.2.2.2.2.2.2.2.2.2
theorem all24 {α1 α2 α3 α4 α5 α6 α7 α8 α9 α10 α11 α12 α13 α14 α15 α16 α17 α18 α19 α20 α21 α22 α23 α24:Type} (ne:Nonempty (α1×α2×α3×α4×α5×α6×α7×α8×α9×α10×α11×α12×α13×α14×α15×α16×α17×α18×α19×α20×α21×α22×α23×α24)) {p:α1→α2→α3→α4→α5→α6→α7→α8→α9→α10→α11→α12→α13→α14→α15→α16→α17→α18→α19→α20→α21→α22→α23→α24→Prop} (h:p (b24 ne p).1 (b24 ne p).2.1 (b24 ne p).2.2.1 (b24 ne p).2.2.2.1 (b24 ne p).2.2.2.2.1 (b24 ne p).2.2.2.2.2.1 (b24 ne p).2.2.2.2.2.2.1 (b24 ne p).2.2.2.2.2.2.2.1 (b24 ne p).2.2.2.2.2.2.2.2.1 (b24 ne p).2.2.2.2.2.2.2.2.2.1 (b24 ne p).2.2.2.2.2.2.2.2.2.2.1 (b24 ne p).2.2.2.2.2.2.2.2.2.2.2.1 (b24 ne p).2.2.2.2.2.2.2.2.2.2.2.2.1 (b24 ne p).2.2.2.2.2.2.2.2.2.2.2.2.2.1 (b24 ne p).2.2.2.2.2.2.2.2.2.2.2.2.2.2.1 (b24 ne p).2.2.2.2.2.2.2.2.2.2.2.2.2.2.2.1 (b24 ne p).2.2.2.2.2.2.2.2.2.2.2.2.2.2.2.2.1 (b24 ne p).2.2.2.2.2.2.2.2.2.2.2.2.2.2.2.2.2.1 (b24 ne p).2.2.2.2.2.2.2.2.2.2.2.2.2.2.2.2.2.2.1 (b24 ne p).2.2.2.2.2.2.2.2.2.2.2.2.2.2.2.2.2.2.2.1 (b24 ne p).2.2.2.2.2.2.2.2.2.2.2.2.2.2.2.2.2.2.2.2.1 (b24 ne p).2.2.2.2.2.2.2.2.2.2.2.2.2.2.2.2.2.2.2.2.2.1 (b24 ne p).2.2.2.2.2.2.2.2.2.2.2.2.2.2.2.2.2.2.2.2.2.2.1 (b24 ne p).2.2.2.2.2.2.2.2.2.2.2.2.2.2.2.2.2.2.2.2.2.2.2):∀ a1 a2 a3 a4 a5 a6 a7 a8 a9 a10 a11 a12 a13 a14 a15 a16 a17 a18 a19 a20 a21 a22 a23 a24,p a1 a2 a3 a4 a5 a6 a7 a8 a9 a10 a11 a12 a13 a14 a15 a16 a17 a18 a19 a20 a21 a22 a23 a24:=fun a1 a2 a3 a4 a5 a6 a7 a8 a9 a10 a11 a12 a13 a14 a15 a16 a17 a18 a19 a20 a21 a22 a23 a24=>bad_all ne (fun t=>p t.1 t.2.1 t.2.2.1 t.2.2.2.1 t.2.2.2.2.1 t.2.2.2.2.2.1 t.2.2.2.2.2.2.1 t.2.2.2.2.2.2.2.1 t.2.2.2.2.2.2.2.2.1 t.2.2.2.2.2.2.2.2.2.1 t.2.2.2.2.2.2.2.2.2.2.1 t.2.2.2.2.2.2.2.2.2.2.2.1 t.2.2.2.2.2.2.2.2.2.2.2.2.1 t.2.2.2.2.2.2.2.2.2.2.2.2.2.1 t.2.2.2.2.2.2.2.2.2.2.2.2.2.2.1 t.2.2.2.2.2.2.2.2.2.2.2.2.2.2.2.1 t.2.2.2.2.2.2.2.2.2.2.2.2.2.2.2.2.1 t.2.2.2.2.2.2.2.2.2.2.2.2.2.2.2.2.2.1 t.2.2.2.2.2.2.2.2.2.2.2.2.2.2.2.2.2.2.1 t.2.2.2.2.2.2.2.2.2.2.2.2.2.2.2.2.2.2.2.1 t.2.2.2.2.2.2.2.2.2.2.2.2.2.2.2.2.2.2.2.2.1 t.2.2.2.2.2.2.2.2.2.2.2.2.2.2.2.2.2.2.2.2.2.1 t.2.2.2.2.2.2.2.2.2.2.2.2.2.2.2.2.2.2.2.2.2.2.1 t.2.2.2.2.2.2.2.2.2.2.2.2.2.2.2.2.2.2.2.2.2.2.2) h (a1,a2,a3,a4,a5,a6,a7,a8,a9,a10,a11,a12,a13,a14,a15,a16,a17,a18,a19,a20,a21,a22,a23,a24)
theorem im2 {A0 A1 G:Prop} (g:A0→A1→G):A0∧A1→G:=fun h=>g h.1 h.2
theorem im3 {A0 A1 A2 G:Prop} (g:A0→A1→A2→G):A0∧A1∧A2→G:=fun h=>g h.1 h.2.1 h.2.2
theorem im4 {A0 A1 A2 A3 G:Prop} (g:A0→A1→A2→A3→G):A0∧A1∧A2∧A3→G:=fun h=>g h.1 h.2.1 h.2.2.1 h.2.2.2
theorem im5 {A0 A1 A2 A3 A4 G:Prop} (g:A0→A1→A2→A3→A4→G):A0∧A1∧A2∧A3∧A4→G:=fun h=>g h.1 h.2.1 h.2.2.1 h.2.2.2.1 h.2.2.2.2
theorem im6 {A0 A1 A2 A3 A4 A5 G:Prop} (g:A0→A1→A2→A3→A4→A5→G):A0∧A1∧A2∧A3∧A4∧A5→G:=fun h=>g h.1 h.2.1 h.2.2.1 h.2.2.2.1 h.2.2.2.2.1 h.2.2.2.2.2
theorem im7 {A0 A1 A2 A3 A4 A5 A6 G:Prop} (g:A0→A1→A2→A3→A4→A5→A6→G):A0∧A1∧A2∧A3∧A4∧A5∧A6→G:=fun h=>g h.1 h.2.1 h.2.2.1 h.2.2.2.1 h.2.2.2.2.1 h.2.2.2.2.2.1 h.2.2.2.2.2.2
theorem im8 {A0 A1 A2 A3 A4 A5 A6 A7 G:Prop} (g:A0→A1→A2→A3→A4→A5→A6→A7→G):A0∧A1∧A2∧A3∧A4∧A5∧A6∧A7→G:=fun h=>g h.1 h.2.1 h.2.2.1 h.2.2.2.1 h.2.2.2.2.1 h.2.2.2.2.2.1 h.2.2.2.2.2.2.1 h.2.2.2.2.2.2.2
theorem xc0_3 {P0 P1 P2:Prop}  (h0:P0 ) (h1:P1 ) (h2:P2 ):P0∧P1∧P2:=⟨h0,h1,h2⟩
theorem xc0_4 {P0 P1 P2 P3:Prop}  (h0:P0 ) (h1:P1 ) (h2:P2 ) (h3:P3 ):P0∧P1∧P2∧P3:=⟨h0,h1,h2,h3⟩
theorem xc0_5 {P0 P1 P2 P3 P4:Prop}  (h0:P0 ) (h1:P1 ) (h2:P2 ) (h3:P3 ) (h4:P4 ):P0∧P1∧P2∧P3∧P4:=⟨h0,h1,h2,h3,h4⟩
theorem xc0_6 {P0 P1 P2 P3 P4 P5:Prop}  (h0:P0 ) (h1:P1 ) (h2:P2 ) (h3:P3 ) (h4:P4 ) (h5:P5 ):P0∧P1∧P2∧P3∧P4∧P5:=⟨h0,h1,h2,h3,h4,h5⟩
theorem xc0_7 {P0 P1 P2 P3 P4 P5 P6:Prop}  (h0:P0 ) (h1:P1 ) (h2:P2 ) (h3:P3 ) (h4:P4 ) (h5:P5 ) (h6:P6 ):P0∧P1∧P2∧P3∧P4∧P5∧P6:=⟨h0,h1,h2,h3,h4,h5,h6⟩
theorem xc0_8 {P0 P1 P2 P3 P4 P5 P6 P7:Prop}  (h0:P0 ) (h1:P1 ) (h2:P2 ) (h3:P3 ) (h4:P4 ) (h5:P5 ) (h6:P6 ) (h7:P7 ):P0∧P1∧P2∧P3∧P4∧P5∧P6∧P7:=⟨h0,h1,h2,h3,h4,h5,h6,h7⟩
theorem xc1_1 {α0:Type} {P0:α0→Prop} (a0:α0) (h0:P0 a0):∃ a0,P0 a0:=⟨a0,h0⟩
theorem xc1_2 {α0:Type} {P0 P1:α0→Prop} (a0:α0) (h0:P0 a0) (h1:P1 a0):∃ a0,P0 a0∧P1 a0:=⟨a0,h0,h1⟩
theorem xc1_3 {α0:Type} {P0 P1 P2:α0→Prop} (a0:α0) (h0:P0 a0) (h1:P1 a0) (h2:P2 a0):∃ a0,P0 a0∧P1 a0∧P2 a0:=⟨a0,h0,h1,h2⟩
theorem xc1_4 {α0:Type} {P0 P1 P2 P3:α0→Prop} (a0:α0) (h0:P0 a0) (h1:P1 a0) (h2:P2 a0) (h3:P3 a0):∃ a0,P0 a0∧P1 a0∧P2 a0∧P3 a0:=⟨a0,h0,h1,h2,h3⟩
theorem xc1_5 {α0:Type} {P0 P1 P2 P3 P4:α0→Prop} (a0:α0) (h0:P0 a0) (h1:P1 a0) (h2:P2 a0) (h3:P3 a0) (h4:P4 a0):∃ a0,P0 a0∧P1 a0∧P2 a0∧P3 a0∧P4 a0:=⟨a0,h0,h1,h2,h3,h4⟩
theorem xc1_6 {α0:Type} {P0 P1 P2 P3 P4 P5:α0→Prop} (a0:α0) (h0:P0 a0) (h1:P1 a0) (h2:P2 a0) (h3:P3 a0) (h4:P4 a0) (h5:P5 a0):∃ a0,P0 a0∧P1 a0∧P2 a0∧P3 a0∧P4 a0∧P5 a0:=⟨a0,h0,h1,h2,h3,h4,h5⟩
theorem xc2_1 {α0 α1:Type} {P0:α0→α1→Prop} (a0:α0) (a1:α1) (h0:P0 a0 a1):∃ a0 a1,P0 a0 a1:=⟨a0,a1,h0⟩
theorem xc2_2 {α0 α1:Type} {P0 P1:α0→α1→Prop} (a0:α0) (a1:α1) (h0:P0 a0 a1) (h1:P1 a0 a1):∃ a0 a1,P0 a0 a1∧P1 a0 a1:=⟨a0,a1,h0,h1⟩
theorem xc2_3 {α0 α1:Type} {P0 P1 P2:α0→α1→Prop} (a0:α0) (a1:α1) (h0:P0 a0 a1) (h1:P1 a0 a1) (h2:P2 a0 a1):∃ a0 a1,P0 a0 a1∧P1 a0 a1∧P2 a0 a1:=⟨a0,a1,h0,h1,h2⟩
theorem xc2_4 {α0 α1:Type} {P0 P1 P2 P3:α0→α1→Prop} (a0:α0) (a1:α1) (h0:P0 a0 a1) (h1:P1 a0 a1) (h2:P2 a0 a1) (h3:P3 a0 a1):∃ a0 a1,P0 a0 a1∧P1 a0 a1∧P2 a0 a1∧P3 a0 a1:=⟨a0,a1,h0,h1,h2,h3⟩
theorem xc2_5 {α0 α1:Type} {P0 P1 P2 P3 P4:α0→α1→Prop} (a0:α0) (a1:α1) (h0:P0 a0 a1) (h1:P1 a0 a1) (h2:P2 a0 a1) (h3:P3 a0 a1) (h4:P4 a0 a1):∃ a0 a1,P0 a0 a1∧P1 a0 a1∧P2 a0 a1∧P3 a0 a1∧P4 a0 a1:=⟨a0,a1,h0,h1,h2,h3,h4⟩
theorem xc2_6 {α0 α1:Type} {P0 P1 P2 P3 P4 P5:α0→α1→Prop} (a0:α0) (a1:α1) (h0:P0 a0 a1) (h1:P1 a0 a1) (h2:P2 a0 a1) (h3:P3 a0 a1) (h4:P4 a0 a1) (h5:P5 a0 a1):∃ a0 a1,P0 a0 a1∧P1 a0 a1∧P2 a0 a1∧P3 a0 a1∧P4 a0 a1∧P5 a0 a1:=⟨a0,a1,h0,h1,h2,h3,h4,h5⟩
theorem xc3_1 {α0 α1 α2:Type} {P0:α0→α1→α2→Prop} (a0:α0) (a1:α1) (a2:α2) (h0:P0 a0 a1 a2):∃ a0 a1 a2,P0 a0 a1 a2:=⟨a0,a1,a2,h0⟩
theorem xc3_2 {α0 α1 α2:Type} {P0 P1:α0→α1→α2→Prop} (a0:α0) (a1:α1) (a2:α2) (h0:P0 a0 a1 a2) (h1:P1 a0 a1 a2):∃ a0 a1 a2,P0 a0 a1 a2∧P1 a0 a1 a2:=⟨a0,a1,a2,h0,h1⟩
theorem xc3_3 {α0 α1 α2:Type} {P0 P1 P2:α0→α1→α2→Prop} (a0:α0) (a1:α1) (a2:α2) (h0:P0 a0 a1 a2) (h1:P1 a0 a1 a2) (h2:P2 a0 a1 a2):∃ a0 a1 a2,P0 a0 a1 a2∧P1 a0 a1 a2∧P2 a0 a1 a2:=⟨a0,a1,a2,h0,h1,h2⟩
theorem xc3_4 {α0 α1 α2:Type} {P0 P1 P2 P3:α0→α1→α2→Prop} (a0:α0) (a1:α1) (a2:α2) (h0:P0 a0 a1 a2) (h1:P1 a0 a1 a2) (h2:P2 a0 a1 a2) (h3:P3 a0 a1 a2):∃ a0 a1 a2,P0 a0 a1 a2∧P1 a0 a1 a2∧P2 a0 a1 a2∧P3 a0 a1 a2:=⟨a0,a1,a2,h0,h1,h2,h3⟩
theorem xc4_1 {α0 α1 α2 α3:Type} {P0:α0→α1→α2→α3→Prop} (a0:α0) (a1:α1) (a2:α2) (a3:α3) (h0:P0 a0 a1 a2 a3):∃ a0 a1 a2 a3,P0 a0 a1 a2 a3:=⟨a0,a1,a2,a3,h0⟩
theorem xc5_1 {α0 α1 α2 α3 α4:Type} {P0:α0→α1→α2→α3→α4→Prop} (a0:α0) (a1:α1) (a2:α2) (a3:α3) (a4:α4) (h0:P0 a0 a1 a2 a3 a4):∃ a0 a1 a2 a3 a4,P0 a0 a1 a2 a3 a4:=⟨a0,a1,a2,a3,a4,h0⟩
theorem xc6_1 {α0 α1 α2 α3 α4 α5:Type} {P0:α0→α1→α2→α3→α4→α5→Prop} (a0:α0) (a1:α1) (a2:α2) (a3:α3) (a4:α4) (a5:α5) (h0:P0 a0 a1 a2 a3 a4 a5):∃ a0 a1 a2 a3 a4 a5,P0 a0 a1 a2 a3 a4 a5:=⟨a0,a1,a2,a3,a4,a5,h0⟩
theorem xc10_1 {α0 α1 α2 α3 α4 α5 α6 α7 α8 α9:Type} {P0:α0→α1→α2→α3→α4→α5→α6→α7→α8→α9→Prop} (a0:α0) (a1:α1) (a2:α2) (a3:α3) (a4:α4) (a5:α5) (a6:α6) (a7:α7) (a8:α8) (a9:α9) (h0:P0 a0 a1 a2 a3 a4 a5 a6 a7 a8 a9):∃ a0 a1 a2 a3 a4 a5 a6 a7 a8 a9,P0 a0 a1 a2 a3 a4 a5 a6 a7 a8 a9:=⟨a0,a1,a2,a3,a4,a5,a6,a7,a8,a9,h0⟩
theorem xi1 {α0:Type} {P:α0→Prop} {G:Prop} (g:∀ a0,P a0→G):(∃ a0,P a0)→G:=fun h=>h.elim fun a0 h=>g a0 h
theorem xi2 {α0 α1:Type} {P:α0→α1→Prop} {G:Prop} (g:∀ a0 a1,P a0 a1→G):(∃ a0 a1,P a0 a1)→G:=fun h=>h.elim fun a0 h=>h.elim fun a1 h=>g a0 a1 h
theorem xi3 {α0 α1 α2:Type} {P:α0→α1→α2→Prop} {G:Prop} (g:∀ a0 a1 a2,P a0 a1 a2→G):(∃ a0 a1 a2,P a0 a1 a2)→G:=fun h=>h.elim fun a0 h=>h.elim fun a1 h=>h.elim fun a2 h=>g a0 a1 a2 h
theorem xi4 {α0 α1 α2 α3:Type} {P:α0→α1→α2→α3→Prop} {G:Prop} (g:∀ a0 a1 a2 a3,P a0 a1 a2 a3→G):(∃ a0 a1 a2 a3,P a0 a1 a2 a3)→G:=fun h=>h.elim fun a0 h=>h.elim fun a1 h=>h.elim fun a2 h=>h.elim fun a3 h=>g a0 a1 a2 a3 h
theorem xi5 {α0 α1 α2 α3 α4:Type} {P:α0→α1→α2→α3→α4→Prop} {G:Prop} (g:∀ a0 a1 a2 a3 a4,P a0 a1 a2 a3 a4→G):(∃ a0 a1 a2 a3 a4,P a0 a1 a2 a3 a4)→G:=fun h=>h.elim fun a0 h=>h.elim fun a1 h=>h.elim fun a2 h=>h.elim fun a3 h=>h.elim fun a4 h=>g a0 a1 a2 a3 a4 h
theorem xi6 {α0 α1 α2 α3 α4 α5:Type} {P:α0→α1→α2→α3→α4→α5→Prop} {G:Prop} (g:∀ a0 a1 a2 a3 a4 a5,P a0 a1 a2 a3 a4 a5→G):(∃ a0 a1 a2 a3 a4 a5,P a0 a1 a2 a3 a4 a5)→G:=fun h=>h.elim fun a0 h=>h.elim fun a1 h=>h.elim fun a2 h=>h.elim fun a3 h=>h.elim fun a4 h=>h.elim fun a5 h=>g a0 a1 a2 a3 a4 a5 h
theorem xi10 {α0 α1 α2 α3 α4 α5 α6 α7 α8 α9:Type} {P:α0→α1→α2→α3→α4→α5→α6→α7→α8→α9→Prop} {G:Prop} (g:∀ a0 a1 a2 a3 a4 a5 a6 a7 a8 a9,P a0 a1 a2 a3 a4 a5 a6 a7 a8 a9→G):(∃ a0 a1 a2 a3 a4 a5 a6 a7 a8 a9,P a0 a1 a2 a3 a4 a5 a6 a7 a8 a9)→G:=fun h=>h.elim fun a0 h=>h.elim fun a1 h=>h.elim fun a2 h=>h.elim fun a3 h=>h.elim fun a4 h=>h.elim fun a5 h=>h.elim fun a6 h=>h.elim fun a7 h=>h.elim fun a8 h=>h.elim fun a9 h=>g a0 a1 a2 a3 a4 a5 a6 a7 a8 a9 h
set_option genInjectivity true in
inductive V where
 | none
 | bool (b:Bool)
 | int (i:Int)
 | str (s:List Nat)
 | tup (vs:List V)
 | ref (a:Addr)
 | stat (v:Value)
noncomputable abbrev S (l:List Nat):Str:=⟨l.toArray⟩
noncomputable abbrev listO (items:List Value) (n:Nat):Obj:={ cls:=.type "list",data:=.seq items.toArray n }
noncomputable abbrev tupO (items:List Value) (n:Nat):Obj:={ cls:=.type "tuple",data:=.seq items.toArray n }
noncomputable abbrev dictO (es:List DictEntry) (n:Nat):Obj:={ cls:=.type "dict",data:=.dict es.toArray n }
noncomputable abbrev instO (C d:Addr):Obj:={ cls:=.ref C,dict:=some d,data:=.plain }
mutual
noncomputable def VR (h:Heap):Value→V→Prop
 | v,.none=>v=.none
 | v,.bool b=>v=.bool b
 | v,.int i=>∃ t,v=.int i t
 | v,.str l=>∃ t,v=.str (S l) t
 | v,.tup vs=>∃ a items n,v=.ref a∧h.get? a=some (tupO items n)∧VRs h items vs
 | v,.ref a=>v=.ref a
 | v,.stat u=>v=u
noncomputable def VRs (h:Heap):List Value→List V→Prop
 | items,[]=>items=[]
 | items,v::vs=>∃ x r,items=x::r∧VR h x v∧VRs h r vs
end
theorem VRs.nil {h:Heap}:VRs h [] []:=rfl
theorem VRs.cons {h:Heap} {x:Value} {r:List Value} {v:V} {vs:List V} (a:VR h x v) (b:VRs h r vs):VRs h (x::r) (v::vs):=⟨x,r,rfl,a,b⟩
noncomputable def EntR (P:Params) (h:Heap) (e:DictEntry) (p:Str×V):Prop:=(∃ t,e.key=.str p.1 t)∧e.hash=PyData.keyHash P p.1∧VR h e.val p.2
inductive All2 {α β:Type} (R:α→β→Prop):List α→List β→Prop where
 | nil:All2 R [] []
 | cons {a b as bs}:R a b→All2 R as bs→All2 R (a::as) (b::bs)
set_option genInjectivity true in
inductive MObj where
 | list (vs:List V)
 | inst (C d:Addr)
 | dict (es:List (Str×V))
 | frozen (vs:List V)
noncomputable def MObj.mut:MObj→Bool
 | .list _=>true
 | .dict _=>true
 | _=>false
noncomputable def MRep (P:Params) (h:Heap) (a:Addr):MObj→Prop
 | .list vs=>∃ items n,h.get? a=some (listO items n)∧VRs h items vs
 | .inst C d=>h.get? a=some (instO C d)
 | .dict es=>∃ ents n,h.get? a=some (dictO ents n)∧All2 (EntR P h) ents es
 | .frozen vs=>∃ items n,h.get? a=some (listO items n)∧VRs h items vs
noncomputable abbrev St:=Addr→Option MObj
noncomputable def mutAt (σ:St) (a:Addr):Bool:=match σ a with | some o=>o.mut | none=>false
noncomputable def upM (σ:St) (a:Addr) (o:MObj):St:=fun x=>if x=a then some o else σ x
theorem upd_self (σ:St) (a:Addr) (o:MObj):upM σ a o a=some o:=if_pos rfl
theorem upd_ne (σ:St) {a b:Addr} (o:MObj) (h:b≠a):upM σ a o b=σ b:=if_neg h
noncomputable def Keep (σ:St) (h h':Heap):Prop:=∀ b o,h.get? b=some o→mutAt σ b=false→h'.get? b=some o
structure Step (σ σ':St) (h h':Heap):Prop where
 keep:Keep σ h h'
 new:∀ a,mutAt σ' a=true→mutAt σ a=true∨h.get? a=none
theorem Step.refl (σ:St) (h:Heap):Step σ σ h h:=⟨fun _ _ e _=>e,fun _ e=>.inl e⟩
theorem Step.trans {σ σ₁ σ₂:St} {h h₁ h₂:Heap} (x:Step σ σ₁ h h₁) (y:Step σ₁ σ₂ h₁ h₂):Step σ σ₂ h h₂:=by
 refine ⟨fun b o e m=>y.keep b o (x.keep b o e m) ?_,fun a e=>?_⟩
 ·cases q:mutAt σ₁ b with
  | false=>rfl
  | true =>
   rcases x.new b q with h1 | h1
   ·rw [m] at h1
    cases h1
   ·rw [e] at h1
    cases h1
 ·rcases y.new a e with h1 | h1
  ·exact x.new a h1
  ·cases q:h.get? a with
   | none=>exact .inr rfl
   | some o =>
    cases m:mutAt σ a with
    | true=>exact .inl rfl
    | false=>rw [x.keep a o q m] at h1; cases h1
structure Cx where
 prog:Program
 w:World
 h0:Heap
 mg:Str→Option Value
 mb:Str→Option Value
 g:h0.Ns mainGlobals mg
 b:h0.Ns builtinsNs mb
 blt:∀ x:Str,x≠"__name__"→mb x=bootBuiltins x
 nolimit:h0.NoLimit
 nodigits:∃ mc,h0.Ns cStatics mc∧mc "sys.int_max_str_digits"=none
 K:Frag
 k:K.In h0
structure Sim (c:Cx) (σ:St) (h:Heap):Prop where
 keep:∀ b o,c.h0.get? b=some o→h.get? b=some o
 rep:∀ a x,σ a=some x→MRep c.w.params h a x
 new:∀ a,mutAt σ a=true→c.h0.get? a=none
theorem mut_of {σ:St} {a:Addr} (h:mutAt σ a=true):(∃ vs,σ a=some (.list vs))∨∃ es,σ a=some (.dict es):=by
 unfold mutAt at h
 cases q:σ a with
 | none=>rw [q] at h; cases h
 | some o =>
  rw [q] at h
  cases o with
  | list vs=>exact .inl ⟨vs,rfl⟩
  | dict es=>exact .inr ⟨es,rfl⟩
  | inst _ _=>cases h
  | frozen _=>cases h
theorem Sim.mut_obj {c:Cx} {σ:St} {h:Heap} (s:Sim c σ h) {a:Addr} (m:mutAt σ a=true):∃ o,h.get? a=some o∧(o.cls=.type "list"∨o.cls=.type "dict"):=by
 rcases mut_of m with ⟨vs,q⟩ | ⟨es,q⟩
 ·refine xi2 ?_ (s.rep a _ q)
  intro items n
  refine im2 ?_
  intro e _
  exact xc1_2 _ e (.inl rfl)
 ·refine xi2 ?_ (s.rep a _ q)
  intro items n
  refine im2 ?_
  intro e _
  exact xc1_2 _ e (.inr rfl)
theorem Sim.not_mut {c:Cx} {σ:St} {h:Heap} (s:Sim c σ h) {a:Addr} {o:Obj} (e:h.get? a=some o) (h1:o.cls≠.type "list") (h2:o.cls≠.type "dict"):mutAt σ a=false:=by
 cases q:mutAt σ a with
 | false=>rfl
 | true =>
  refine xi1 ?_ (s.mut_obj q)
  intro o'
  refine im2 ?_
  intro e' hc
  rw [e] at e'
  cases e'
  rcases hc with hc | hc
  ·exact absurd hc h1
  ·exact absurd hc h2
theorem Sim.fresh {c:Cx} {σ:St} {h:Heap} (s:Sim c σ h) {a:Addr} (e:h.get? a=none):σ a=none:=by
 cases q:σ a with
 | none=>rfl
 | some x =>
  have:=s.rep a x q
  cases x with
  | list vs=>obtain ⟨_,_,z,_⟩:=this; rw [e] at z; cases z
  | dict vs=>obtain ⟨_,_,z,_⟩:=this; rw [e] at z; cases z
  | frozen vs=>obtain ⟨_,_,z,_⟩:=this; rw [e] at z; cases z
  | inst _ _=>have z:h.get? a=_:=this; rw [e] at z; cases z
noncomputable def TupKeep (h h':Heap):Prop:=∀ a items n,h.get? a=some (tupO items n)→h'.get? a=some (tupO items n)
mutual
theorem VR.keeps {h h':Heap} (k:TupKeep h h'):∀ {v:Value} {x:V},VR h v x→VR h' v x
 | _,.none,r=>r
 | _,.bool _,r=>r
 | _,.int _,r=>r
 | _,.str _,r=>r
 | _,.ref _,r=>r
 | _,.stat _,r=>r
 | _,.tup vs,r=>by
  refine xi3 ?_ (r)
  intro a items n
  refine im3 ?_
  intro e q z
  exact xc3_3 a items n e (k a items n q) (VRs.keeps k z)
theorem VRs.keeps {h h':Heap} (k:TupKeep h h'):∀ {l:List Value} {xs:List V},VRs h l xs→VRs h' l xs
 | _,[],r=>r
 | _,v::vs,r=>by
  refine xi2 ?_ (r)
  intro x l
  refine im3 ?_
  intro e a b
  exact xc2_3 x l e (VR.keeps k a) (VRs.keeps k b)
end
theorem EntR.keeps {P:Params} {h h':Heap} (k:TupKeep h h') {e:DictEntry} {p:Str×V} (r:EntR P h e p):EntR P h' e p:=⟨r.1,r.2.1,r.2.2.keeps k⟩
theorem All2.imp {α β:Type} {R R':α→β→Prop} (k:∀ a b,R a b→R' a b) {l:List α} {m:List β} (r:All2 R l m):All2 R' l m:=by
 induction r with
 | nil=>exact .nil
 | cons a _ ih=>exact .cons (k _ _ a) ih
theorem Sim.tups {c:Cx} {σ σ':St} {h h':Heap} (s:Sim c σ h) (k:Step σ σ' h h'):TupKeep h h':=fun a items n e =>
 k.keep a _ e (s.not_mut e (by simp) (by simp))
theorem VRs.length {h:Heap} {l:List Value} {xs:List V} (r:VRs h l xs):l.length=xs.length:=by
 induction xs generalizing l with
 | nil=>rw [show l=[] from r]; rfl
 | cons v vs ih=>obtain ⟨x,l,rfl,_,b⟩:=r; exact congrArg (·+1) (ih b)
theorem VRs.get {h:Heap} {l:List Value} {xs:List V} {i:Nat} {x:V} (r:VRs h l xs) (e:xs[i]?=some x):∃ v,l[i]?=some v∧VR h v x:=by
 induction xs generalizing l i with
 | nil=>cases e
 | cons v vs ih =>
  obtain ⟨u,l,rfl,a,b⟩:=r
  cases i with
  | zero=>cases e; exact ⟨u,rfl,a⟩
  | succ i=>have z:=ih b (i:=i) e; exact z
theorem VRs.append {h:Heap} {l m:List Value} {xs ys:List V} (r:VRs h l xs) (q:VRs h m ys):VRs h (l++m) (xs++ys):=by
 induction xs generalizing l with
 | nil=>rw [show l=[] from r]; exact q
 | cons v vs ih=>obtain ⟨u,l,rfl,a,b⟩:=r; exact ⟨u,l++m,rfl,a,ih b⟩
theorem VRs.take {h:Heap} {l:List Value} {xs:List V} (n:Nat) (r:VRs h l xs):VRs h (l.take n) (xs.take n):=by
 induction xs generalizing l n with
 | nil=>rw [show l=[] from r]; cases n <;> exact VRs.nil
 | cons v vs ih=>cases n with
  | zero=>exact VRs.nil
  | succ n=>obtain ⟨u,l,rfl,a,b⟩:=r; exact VRs.cons a (ih n b)
theorem VRs.drop {h:Heap} {l:List Value} {xs:List V} (n:Nat) (r:VRs h l xs):VRs h (l.drop n) (xs.drop n):=by
 induction xs generalizing l n with
 | nil=>rw [show l=[] from r]; cases n <;> exact VRs.nil
 | cons v vs ih=>cases n with
  | zero=>exact r
  | succ n=>obtain ⟨u,l,rfl,a,b⟩:=r; exact ih n b
structure Room (A:Around) (k:Nat):Prop where
 handled:A.handled=none
 depth:A.depth+3 * k+3 < recursionLimit
 units:A.units+100 * k+200 < cLine
noncomputable def PostV (c:Cx) (σ:St) (s:Shared) (Q:V→St→Prop) (v:Value) (s':Shared):Prop :=
 ∃ x σ' h' t',s'={ s with heap:=h',toks:=t' }∧VR h' v x∧Sim c σ' h'∧Step σ σ' s.heap h'∧Q x σ'
theorem PostV.mono {c:Cx} {σ:St} {s:Shared} {Q Q':V→St→Prop} (k:∀ x σ',Q x σ'→Q' x σ') {v:Value} {s':Shared} (p:PostV c σ s Q v s'):PostV c σ s Q' v s':=by
 refine xi4 ?_ (p)
 intro x σ' h' t'
 refine im5 ?_
 intro e r m st q
 exact xc4_1 x σ' h' t' (xc0_5 e r m st (k _ _ q))
theorem PostV.before {c:Cx} {σ σ₁:St} {s:Shared} {h₁:Heap} {t₁:Nat} {Q:V→St→Prop} (st:Step σ σ₁ s.heap h₁) {v:Value} {s':Shared} (p:PostV c σ₁ { s with heap:=h₁,toks:=t₁ } Q v s'):PostV c σ s Q v s':=by
 refine xi4 ?_ (p)
 intro x σ' h' t'
 refine im5 ?_
 intro e r m st' q
 exact xc4_1 x σ' h' t' (xc0_5 e r m (st.trans st') q)
noncomputable def CallW (c:Cx) (k:Nat) (f:Value) (args:List V) (σ:St) (Q:V→St→Prop):Prop :=
 ∀ A s vals,Room A k→Sim c σ s.heap→VRs s.heap vals args→wpAny (model c.prog c.w) A (call f vals) (PostV c σ s Q) (fun _ _=>False) s
theorem CallW.mono {c:Cx} {k:Nat} {f:Value} {args:List V} {σ:St} {Q Q':V→St→Prop} (h:CallW c k f args σ Q) (kk:∀ x σ',Q x σ'→Q' x σ'):CallW c k f args σ Q' :=
 fun A s vals r sm va=>wpAny_mono (h A s vals r sm va) (fun _ _ p=>p.mono kk) fun _ _ e=>e
noncomputable abbrev Loc:=Str→Option V
noncomputable def setL (ρ:Loc) (x:Str) (v:V):Loc:=fun y=>if y=x then some v else ρ y
structure EnvOk (sc:Scope) (env:Env):Prop where
 kind:sc.kind=.function
 scope:env.scope.kind=.function
 names:∀ x,env.kindOf x=sc.names.lookup x
 globals:env.globals=mainGlobals
 builtins:env.builtins=builtinsNs
structure FrR (env:Env) (ρ:Loc) (σ:St) (h:Heap):Prop where
 ns:∃ m,h.Ns env.locals m∧∀ x v,env.kindOf x=some .local→ρ x=some v→∃ u,m x=some u∧VR h u v
 cell:∀ x cl,env.cells.lookup x=some cl→∃ ov,h.IsCell cl ov∧∀ v,env.kindOf x≠some .local→ρ x=some v→∃ u,ov=some u∧VR h u v
 has:∀ x v,ρ x=some v→env.kindOf x=some .local∨((env.kindOf x=some .cell∨env.kindOf x=some .free)∧∃ cl,env.cells.lookup x=some cl)
 apart:∀ x y cl,env.cells.lookup x=some cl→env.cells.lookup y=some cl→x=y
 off:∀ x cl,env.cells.lookup x=some cl→cl≠env.locals
 offL:mutAt σ env.locals=false
 offC:∀ x cl,env.cells.lookup x=some cl→mutAt σ cl=false
theorem FrR.step {c:Cx} {env:Env} {ρ:Loc} {σ σ':St} {h h':Heap} (F:FrR env ρ σ h) (sm:Sim c σ h) (st:Step σ σ' h h'):FrR env ρ σ' h':=by
 have tk:=sm.tups st
 refine xi1 ?_ (F.ns)
 intro m
 refine im2 ?_
 intro hn hm
 have off':∀ a o,h.get? a=some o→mutAt σ a=false→mutAt σ' a=false:=fun a o e q=>by
  cases z:mutAt σ' a with
  | false=>rfl
  | true =>
   rcases st.new a z with y | y
   ·rw [q] at y
    cases y
   ·rw [e] at y
    cases y
 refine ⟨⟨m,?_,fun x v a b=>let ⟨u,p,q⟩:=hm x v a b; ⟨u,p,q.keeps tk⟩⟩,fun x cl e=>?_,F.has,F.apart,F.off,?_,fun x cl e=>?_⟩
 ·refine xi3 ?_ (hn)
  intro o es ep
  refine im2 ?_
  intro ho r
  exact xc3_2 o es ep (st.keep _ _ ho F.offL) r
 ·refine xi1 ?_ (F.cell x cl e)
  intro ov
  refine im2 ?_
  refine xi1 ?_
  intro o
  refine im2 ?_
  intro ho hd q
  exact xc1_2 ov ⟨o,st.keep _ _ ho (F.offC x cl e),hd⟩ (fun v a b=>let ⟨u,p,z⟩:=q v a b; ⟨u,p,z.keeps tk⟩)
 ·refine xi3 ?_ (hn)
  intro o es ep
  refine im2 ?_
  intro ho r
  exact off' _ _ ho F.offL
 ·refine xi1 ?_ (F.cell x cl e)
  intro ov
  refine im2 ?_
  refine xi1 ?_
  intro o
  refine im2 ?_
  intro ho hd q
  exact off' _ _ ho (F.offC x cl e)
noncomputable def EV (c:Cx) (k:Nat) (e:Expr) (sc:Scope) (ρ:Loc) (σ:St) (Q:V→St→Prop):Prop :=
 ∀ env A s,EnvOk sc env→Room A k→Sim c σ s.heap→FrR env ρ σ s.heap→wpAny (model c.prog c.w) A (eval e env) (PostV c σ s Q) (fun _ _=>False) s
noncomputable def TV (c:Cx) (k:Nat) (e:Expr) (sc:Scope) (ρ:Loc) (σ:St) (Q:Bool→St→Prop):Prop :=
 ∀ env A s,EnvOk sc env→Room A k→Sim c σ s.heap→FrR env ρ σ s.heap →
  wpAny (model c.prog c.w) A (isTrue e env (eval e env)) (fun b s'=>∃ σ' h' t',s'={ s with heap:=h',toks:=t' }∧Sim c σ' h'∧Step σ σ' s.heap h'∧Q b σ') (fun _ _=>False) s
theorem EV.mono {c:Cx} {k:Nat} {e:Expr} {sc:Scope} {ρ:Loc} {σ:St} {Q Q':V→St→Prop} (h:EV c k e sc ρ σ Q) (kk:∀ x σ',Q x σ'→Q' x σ'):EV c k e sc ρ σ Q' :=
 fun env A s a b d f=>wpAny_mono (h env A s a b d f) (fun _ _ p=>p.mono kk) fun _ _ e=>e
theorem bo1 (P:PySem.Params):(boot_heap P).isNs mainGlobals=true:=by kernel_rfl
theorem bo2 (P:PySem.Params):(boot_heap P).isNs builtinsNs=true:=by kernel_rfl
theorem bo3 (P:PySem.Params):(boot_heap P).isNs cStatics=true:=by kernel_rfl
theorem bo4 (P:PySem.Params):(boot_heap P).bltView=bltViewBooted:=by kernel_rfl
theorem bo5 (P:PySem.Params):(boot_heap P).nsMap cStatics "sys.recursionlimit"=none:=by kernel_rfl
theorem bo6 (P:PySem.Params):(boot_heap P).nsMap cStatics "sys.int_max_str_digits"=none:=by kernel_rfl
theorem ne_world:Nonempty World:=⟨⟨fun _ _=>0,by constructor <;> (intros; first | exact default | exact (fun _=>default) | (constructor <;> first | exact default | (intros; exact default)))⟩⟩
theorem ne_cx:Nonempty Cx:=ne_world.elim fun w=>⟨⟨PySem.W.plainProg [],w,boot_heap w.params,_,_,.of_isNs (bo1 _),.of_isNs (bo2 _),fun x hx=>Heap.of_bltView (bo2 _) (bo4 _) x hx,⟨_,.of_isNs (bo3 _),bo5 _⟩,⟨_,.of_isNs (bo3 _),bo6 _⟩,[],fun _ _ e=>by cases e⟩⟩
noncomputable def MObj.tag:MObj→Nat
 | .list _=>0
 | .inst _ _=>1
 | .dict _=>2
 | .frozen _=>3
theorem neO {σ:St} {a b:Addr} {o:MObj} (y:σ a=none) (x:σ b=some o):a≠b:=fun e=>by rw [e,x] at y; cases y
theorem neS {σ:St} {a b:Addr} {o p:MObj} (y:σ a=some o) (x:σ b=some p) (n:(o.tag==p.tag)=false):a≠b:=fun e=>by rw [e,x] at y; cases y; rw [beq_self_eq_true] at n; cases n
noncomputable def env0 (sc:Scope):Env:={ scope:=sc,locals:=0,globals:=0,cells:=[] }
theorem swap_eq {T:List Expr} {v:Expr} {env env':Env} (hb:env.blockKind=env'.blockKind) (hk:env.kindOf=env'.kindOf):swappedStores T v env=swappedStores T v env':=by
 delta swappedStores
 rw [hb,hk]
section
variable {c:Cx} {k:Nat} {sc:Scope} {ρ:Loc} {σ:St}
theorem Room.mono {A:Around} {k j:Nat} (h:j≤k) (r:Room A k):Room A j:=⟨r.handled,by have:=r.depth; exact ar504 h this,by have:=r.units; exact ar505 h this⟩
theorem PostV.now {s:Shared} {Q:V→St→Prop} {v:Value} {x:V} {h':Heap} {t':Nat} {σ':St} (sm:Sim c σ' h') (st:Step σ σ' s.heap h') (r:VR h' v x) (q:Q x σ'):PostV c σ s Q v { s with heap:=h',toks:=t' } :=
 ⟨x,σ',h',t',rfl,r,sm,st,q⟩
theorem PostV.here {s:Shared} {Q:V→St→Prop} {v:Value} {x:V} (sm:Sim c σ s.heap) (r:VR s.heap v x) (q:Q x σ):PostV c σ s Q v s :=
 ⟨x,σ,s.heap,s.toks,rfl,r,sm,Step.refl _ _,q⟩
theorem PostV.tok {s:Shared} {Q:V→St→Prop} {v:Value} {x:V} {t:Nat} (sm:Sim c σ s.heap) (r:VR s.heap v x) (q:Q x σ):PostV c σ s Q v { s with toks:=t } :=
 ⟨x,σ,s.heap,t,rfl,r,sm,Step.refl _ _,q⟩
theorem EV.andThen {e:Expr} {Q:V→St→Prop} {env:Env} {A:Around} {s:Shared} {P:Value→Shared→Prop} (h:EV c k e sc ρ σ Q) (ok:EnvOk sc env) (rm:Room A k) (sm:Sim c σ s.heap) (F:FrR env ρ σ s.heap)
  (go:∀ v x σ' h' t',VR h' v x→Sim c σ' h'→Step σ σ' s.heap h'→FrR env ρ σ' h'→Q x σ'→P v { s with heap:=h',toks:=t' }) :
  wpAny (model c.prog c.w) A (eval e env) P (fun _ _=>False) s:=by
 refine wpAny_mono (h env A s ok rm sm F) (fun v s' p=>?_) fun _ _ e=>e
 refine xi4 ?_ (p)
 intro x σ' h' t'
 refine im5 ?_
 intro hq173
 obtain rfl:=hq173
 intro r sm' st q
 exact go v x σ' h' t' r sm' st (F.step sm st) q
theorem EV.loc {x:Str} {p:Pos} {v:V} {Q:V→St→Prop} (hk:(sc.names.lookup x=some .local∨sc.names.lookup x=some .cell)) (hd:(x==("__debug__":Str))=false) (hv:ρ x=some v) (q:Q v σ):EV c k (.Name x p) sc ρ σ Q:=by
 intro env A s ok rm sm F
 refine wpAny_Name ?_ hd
 rcases hk with hk | hk
 ·have hk':env.kindOf x=some .local:=(ok.names x).trans hk
  refine xi1 ?_ (F.ns)
  intro m
  refine im2 ?_
  intro hn hm
  refine xi1 ?_ (hm x v hk' hv)
  intro u
  refine im2 ?_
  intro e r
  exact wpAny_loadName_local ok.scope hk' hn e (PostV.here sm r q)
 ·have hk':env.kindOf x=some .cell:=(ok.names x).trans hk
  rcases F.has x v hv with z | ⟨_,cl,hc⟩
  ·rw [hk'] at z
   cases z
  ·refine xi1 ?_ (F.cell x cl hc)
   intro ov
   refine im2 ?_
   intro ic z
   refine xi1 ?_ (z v (by rw [hk']; simp) hv)
   intro u
   refine im2 ?_
   intro hq174
   obtain rfl:=hq174
   intro r
   exact wpAny_loadName_cell ok.scope hk' hc ic (PostV.here sm r q)
theorem loadName_glob {env:Env} {A:Around} {s:Shared} {x:Str} {P:Value→Shared→Prop} (ok:EnvOk sc env) (hk:sc.names.lookup x=some .globalImplicit) (h:wpAny (model c.prog c.w) A (loadGlobal env x) P (fun _ _=>False) s) :
  wpAny (model c.prog c.w) A (loadName env x) P (fun _ _=>False) s:=by
 revert ok hk h
 revert c; revert sc; revert env; revert A; revert s; revert P; revert x
 walk_at "close 7"
 intro x P s A env sc c ok hk h
 have hk':env.kindOf x=some .globalImplicit:=(ok.names x).trans hk
 delta loadName
 have hb:env.blockKind=.function:=by delta Env.blockKind; rw [ok.scope]; rfl
 rw [hb,ok.scope,hk']
 exact h
theorem EV.glob {x:Str} {p:Pos} {u:Value} {v:V} {Q:V→St→Prop} (hk:sc.names.lookup x=some .globalImplicit) (hd:(x==("__debug__":Str))=false) (hu:c.mg x=some u) (hv:VR c.h0 u v) (q:Q v σ):EV c k (.Name x p) sc ρ σ Q:=by
 intro env A s ok rm sm F
 refine wpAny_Name (loadName_glob ok hk ?_) hd
 unfold loadGlobal
 rw [ok.globals]
 refine wpAny_bind (wpAny_nsGet (c.g.keeps sm.keep) ?_)
 rw [hu]
 exact wpAny_pure (PostV.here sm (hv.keeps fun a items n e=>sm.keep _ _ e) q)
theorem EV.blt {x:Str} {p:Pos} {u:Value} {Q:V→St→Prop} (hk:sc.names.lookup x=some .globalImplicit) (hd:(x==("__debug__":Str))=false) (hu:c.mg x=none) (hb:bootBuiltins x=some u) (hn:x≠"__name__") (q:Q (.stat u) σ):EV c k (.Name x p) sc ρ σ Q:=by
 intro env A s ok rm sm F
 refine wpAny_Name (loadName_glob ok hk ?_) hd
 unfold loadGlobal
 rw [ok.globals,ok.builtins]
 refine wpAny_bind (wpAny_nsGet (c.g.keeps sm.keep) ?_)
 rw [hu]
 refine wpAny_bind (wpAny_nsGet (c.b.keeps sm.keep) ?_)
 rw [c.blt x hn,hb]
 exact wpAny_pure (PostV.here (x:=.stat u) sm rfl q)
theorem EV.cint {i:Int} {kk:Nat} {p:Pos} {Q:V→St→Prop} (q:Q (.int i) σ):EV c k (.Constant (.int i) kk p) sc ρ σ Q:=by
 intro env A s ok rm sm F
 exact wpAny_Constant_int (PostV.tok (x:=.int i) sm ⟨_,rfl⟩ q)
theorem S_cps (x:Str):S x.cps.toList=x:=by cases x; simp
theorem EV.cstr {x:Str} {kk:Nat} {p:Pos} {Q:V→St→Prop} (q:Q (.str x.cps.toList) σ):EV c k (.Constant (.str x) kk p) sc ρ σ Q:=by
 intro env A s ok rm sm F
 exact wpAny_Constant_str (PostV.tok (x:=.str x.cps.toList) sm ⟨_,by rw [S_cps]⟩ q)
theorem EV.cbool {b:Bool} {kk:Nat} {p:Pos} {Q:V→St→Prop} (q:Q (.bool b) σ):EV c k (.Constant (.bool b) kk p) sc ρ σ Q:=by
 intro env A s ok rm sm F
 exact wpAny_Constant_bool (PostV.here (x:=.bool b) sm rfl q)
theorem EV.cnone {kk:Nat} {p:Pos} {Q:V→St→Prop} (q:Q .none σ):EV c k (.Constant .none kk p) sc ρ σ Q:=by
 intro env A s ok rm sm F
 exact wpAny_Constant_none (PostV.here (x:=.none) sm rfl q)
noncomputable def Op2 (c:Cx) (k:Nat) (f:Value→Value→Sem Value) (a b:V) (σ:St) (Q:V→St→Prop):Prop :=
 ∀ A s va vb,Room A k→Sim c σ s.heap→VR s.heap va a→VR s.heap vb b→wpAny (model c.prog c.w) A (f va vb) (PostV c σ s Q) (fun _ _=>False) s
noncomputable def Op1 (c:Cx) (k:Nat) (f:Value→Sem Value) (a:V) (σ:St) (Q:V→St→Prop):Prop :=
 ∀ A s va,Room A k→Sim c σ s.heap→VR s.heap va a→wpAny (model c.prog c.w) A (f va) (PostV c σ s Q) (fun _ _=>False) s
noncomputable def TruthW (c:Cx) (k:Nat) (a:V) (σ:St) (b:Bool):Prop :=
 ∀ A s va (P:Bool→Shared→Prop) E,Room A k→Sim c σ s.heap→VR s.heap va a→(∀ t,P b { s with toks:=t })→wpAny (model c.prog c.w) A (truthy va) P E s
theorem wpAny_before {A:Around} {s:Shared} {t:Sem Value} {Q:V→St→Prop} {σ':St} {h':Heap} {t':Nat} (st:Step σ σ' s.heap h') (h:wpAny (model c.prog c.w) A t (PostV c σ' { s with heap:=h',toks:=t' } Q) (fun _ _=>False) { s with heap:=h',toks:=t' }) :
  wpAny (model c.prog c.w) A t (PostV c σ s Q) (fun _ _=>False) { s with heap:=h',toks:=t' } :=
 wpAny_mono h (fun _ _ p=>p.before st) fun _ _ e=>e
theorem EV.bin {l r:Expr} {op:Operator} {p:Pos} {Q:V→St→Prop} (h:EV c k l sc ρ σ fun a σ₁=>EV c k r sc ρ σ₁ fun b σ₂=>Op2 c k (binaryOp op) a b σ₂ Q):EV c k (.BinOp l op r p) sc ρ σ Q:=by
 intro env A s ok rm sm F
 refine wpAny_BinOp (h.andThen ok rm sm F fun va a σ₁ h₁ t₁ ra sm₁ st₁ F₁ q₁=>?_)
 refine q₁.andThen (s:={ s with heap:=h₁,toks:=t₁ }) ok rm sm₁ F₁ fun vb b σ₂ h₂ t₂ rb sm₂ st₂ F₂ q₂=>?_
 exact wpAny_before (st₁.trans st₂) (q₂ A { s with heap:=h₂,toks:=t₂ } va vb rm sm₂ (ra.keeps (sm₁.tups st₂)) rb)
theorem EV.cmp {l r:Expr} {op:CmpOp} {p:Pos} {Q:V→St→Prop} (hm:behindInMarks op r=false) (h:EV c k l sc ρ σ fun a σ₁=>EV c k r sc ρ σ₁ fun b σ₂=>Op2 c k (compareOp op) a b σ₂ Q):EV c k (.Compare l [op] [r] p) sc ρ σ Q:=by
 intro env A s ok rm sm F
 refine wpAny_Compare1 (h.andThen ok rm sm F fun va a σ₁ h₁ t₁ ra sm₁ st₁ F₁ q₁=>?_) hm
 refine q₁.andThen (s:={ s with heap:=h₁,toks:=t₁ }) ok rm sm₁ F₁ fun vb b σ₂ h₂ t₂ rb sm₂ st₂ F₂ q₂=>?_
 exact wpAny_before (st₁.trans st₂) (q₂ A { s with heap:=h₂,toks:=t₂ } va vb rm sm₂ (ra.keeps (sm₁.tups st₂)) rb)
theorem EV.un {e:Expr} {op:PySem.UnaryOp} {p:Pos} {Q:V→St→Prop} (h:EV c k e sc ρ σ fun a σ₁=>Op1 c k (unaryOp op) a σ₁ Q):EV c k (.UnaryOp op e p) sc ρ σ Q:=by
 intro env A s ok rm sm F
 refine wpAny_UnaryOp (h.andThen ok rm sm F fun va a σ₁ h₁ t₁ ra sm₁ st₁ F₁ q₁=>?_)
 exact wpAny_before st₁ (q₁ A { s with heap:=h₁,toks:=t₁ } va rm sm₁ ra)
noncomputable def PostB (c:Cx) (σ:St) (s:Shared) (Q:Bool→St→Prop) (b:Bool) (s':Shared):Prop:=∃ σ' h' t',s'={ s with heap:=h',toks:=t' }∧Sim c σ' h'∧Step σ σ' s.heap h'∧Q b σ'
theorem PostB.before {σ₁:St} {s:Shared} {h₁:Heap} {t₁:Nat} {Q:Bool→St→Prop} (st:Step σ σ₁ s.heap h₁) {v:Bool} {s':Shared} (p:PostB c σ₁ { s with heap:=h₁,toks:=t₁ } Q v s'):PostB c σ s Q v s':=by
 revert st p
 revert c; revert σ; revert s; revert Q; revert σ₁ h₁ t₁ v s'
 walk_at "close 9"
 intro σ₁ h₁ t₁ v s' Q s σ c st p
 refine xi3 ?_ (p)
 intro σ' h' t'
 refine im4 ?_
 intro e m st' q
 exact xc3_4 σ' h' t' e m (st.trans st') q
theorem wpAny_beforeB {A:Around} {s:Shared} {t:Sem Bool} {Q:Bool→St→Prop} {σ':St} {h':Heap} {t':Nat} (st:Step σ σ' s.heap h') (h:wpAny (model c.prog c.w) A t (PostB c σ' { s with heap:=h',toks:=t' } Q) (fun _ _=>False) { s with heap:=h',toks:=t' }) :
  wpAny (model c.prog c.w) A t (PostB c σ s Q) (fun _ _=>False) { s with heap:=h',toks:=t' } :=
 wpAny_mono h (fun _ _ p=>p.before st) fun _ _ e=>e
theorem TV.andThen {e:Expr} {Q:Bool→St→Prop} {env:Env} {A:Around} {s:Shared} {P:Bool→Shared→Prop} (h:TV c k e sc ρ σ Q) (ok:EnvOk sc env) (rm:Room A k) (sm:Sim c σ s.heap) (F:FrR env ρ σ s.heap)
  (go:∀ b σ' h' t',Sim c σ' h'→Step σ σ' s.heap h'→FrR env ρ σ' h'→Q b σ'→P b { s with heap:=h',toks:=t' }) :
  wpAny (model c.prog c.w) A (isTrue e env (eval e env)) P (fun _ _=>False) s:=by
 refine wpAny_mono (h env A s ok rm sm F) (fun v s' p=>?_) fun _ _ e=>e
 refine xi3 ?_ (p)
 intro σ' h' t'
 refine im4 ?_
 intro hq175
 obtain rfl:=hq175
 intro sm' st q
 exact go v σ' h' t' sm' st (F.step sm st) q
theorem TV.cmp {l r:Expr} {op:CmpOp} {p:Pos} {Q:Bool→St→Prop} (hm:behindInMarks op r=false) (h:EV c k l sc ρ σ fun a σ₁=>EV c k r sc ρ σ₁ fun b σ₂=>Op2 c k (compareOp op) a b σ₂ fun x σ₃=>∃ z,x=.bool z∧Q z σ₃):TV c k (.Compare l [op] [r] p) sc ρ σ Q:=by
 revert hm h
 revert c; revert k; revert sc; revert ρ; revert σ; revert Q; revert r; revert l op p
 walk_at "close 10"
 intro l op p r Q σ ρ sc k c hm h
 intro env A s ok rm sm F
 refine wpAny_isTrue_Compare1 (h.andThen ok rm sm F fun va a σ₁ h₁ t₁ ra sm₁ st₁ F₁ q₁=>?_) hm
 refine q₁.andThen (s:={ s with heap:=h₁,toks:=t₁ }) ok rm sm₁ F₁ fun vb b σ₂ h₂ t₂ rb sm₂ st₂ F₂ q₂=>?_
 refine wpAny_mono (q₂ A { s with heap:=h₂,toks:=t₂ } va vb rm sm₂ (ra.keeps (sm₁.tups st₂)) rb) (fun v s' pp=>?_) fun _ _ e=>e
 refine xi4 ?_ (pp)
 intro x σ' h' t'
 refine im5 ?_
 intro hq176
 obtain rfl:=hq176
 intro r sm' st
 refine xi1 ?_
 intro z
 refine im2 ?_
 intro hq177
 obtain rfl:=hq177
 intro q
 rw [show v=.bool z from r]
 exact wpAny_truthy_bool ⟨σ',h',t',rfl,sm',(st₁.trans st₂).trans st,q⟩
theorem TV.not {e:Expr} {p:Pos} {Q:Bool→St→Prop} (h:TV c k e sc ρ σ fun b=>Q (!b)):TV c k (.UnaryOp .Not e p) sc ρ σ Q:=by
 intro env A s ok rm sm F
 refine wpAny_isTrue_Not (wpAny_mono (h env A s ok rm sm F) (fun b s' pp=>?_) fun _ _ e=>e)
 exact pp
end
noncomputable def AllV (c:Cx) (k:Nat) (op:BoolOp) (sc:Scope) (ρ:Loc):List Expr→St→(Bool→St→Prop)→Prop
 | [],σ,Q=>Q (op==.And) σ
 | e::r,σ,Q=>TV c k e sc ρ σ fun b σ'=>match op,b with
  | .And,false=>Q false σ'
  | .Or,true=>Q true σ'
  | _,_=>AllV c k op sc ρ r σ' Q
section
variable {c:Cx} {k:Nat} {sc:Scope} {ρ:Loc}
theorem allTrue_cons (op:BoolOp) (x:Expr) (rest:List Expr) (env:Env):allTrue op (x::rest) env=(do
  match op,← isTrue x env (eval x env) with
  | .And,false=>pure false
  | .Or,true=>pure true
  | _,_=>allTrue op rest env):=rfl
theorem AllV.run {op:BoolOp} {env:Env} {A:Around} (ok:EnvOk sc env) (rm:Room A k):∀ {l:List Expr} {σ:St} {s:Shared} {Q:Bool→St→Prop},Sim c σ s.heap→FrR env ρ σ s.heap→AllV c k op sc ρ l σ Q →
  wpAny (model c.prog c.w) A (allTrue op l env) (PostB c σ s Q) (fun _ _=>False) s:=by
 intro l
 induction l with
 | nil =>
  intro σ s Q sm F h
  exact wpAny_pure ⟨σ,s.heap,s.toks,rfl,sm,Step.refl _ _,h⟩
 | cons e r ih =>
  intro σ s Q sm F h
  rw [allTrue_cons]
  refine wpAny_bind (TV.andThen h ok rm sm F fun b σ' h' t' sm' st F' q=>?_)
  cases op <;> cases b
  ·exact wpAny_pure ⟨σ',h',t',rfl,sm',st,q⟩
  ·exact wpAny_beforeB st (ih sm' F' q)
  ·exact wpAny_beforeB st (ih sm' F' q)
  ·exact wpAny_pure ⟨σ',h',t',rfl,sm',st,q⟩
theorem TV.boolop {σ:St} {op:BoolOp} {l:List Expr} {p:Pos} {Q:Bool→St→Prop} (h:AllV c k op sc ρ l σ Q):TV c k (.BoolOp op l p) sc ρ σ Q:=by
 intro env A s ok rm sm F
 exact wpAny_isTrue_BoolOp (AllV.run ok rm sm F h)
theorem EV.ifexp {σ:St} {t a b:Expr} {p:Pos} {Q:V→St→Prop} (h:TV c k t sc ρ σ fun z σ'=>if z=true then EV c k a sc ρ σ' Q else EV c k b sc ρ σ' Q):EV c k (.IfExp t a b p) sc ρ σ Q:=by
 intro env A s ok rm sm F
 refine wpAny_IfExp (TV.andThen h ok rm sm F fun z σ' h' t' sm' st F' q=>?_)
 cases z
 ·exact wpAny_before st (q env A { s with heap:=h',toks:=t' } ok rm sm' F')
 ·exact wpAny_before st (q env A { s with heap:=h',toks:=t' } ok rm sm' F')
end
theorem MRep.keep {P:Params} {h h':Heap} {a:Addr} {x:MObj} (k:∀ o,h.get? a=some o→h'.get? a=some o) (tk:TupKeep h h') (r:MRep P h a x):MRep P h' a x:=by
 cases x with
 | list vs=>obtain ⟨i,n,e,z⟩:=r; exact ⟨i,n,k _ e,z.keeps tk⟩
 | frozen vs=>obtain ⟨i,n,e,z⟩:=r; exact ⟨i,n,k _ e,z.keeps tk⟩
 | dict es=>obtain ⟨i,n,e,z⟩:=r; exact ⟨i,n,k _ e,z.imp fun _ _ y=>y.keeps tk⟩
 | inst C d=>exact k _ r
section
variable {c:Cx} {σ:St} {h:Heap}
theorem tup_push (h:Heap) (o:Obj):TupKeep h (h.push o):=fun _ _ _ e=>Heap.get?_push_of_some o e
theorem Sim.push (s:Sim c σ h) (o:Obj):Sim c σ (h.push o) :=
 ⟨fun b o' e=>Heap.get?_push_of_some o (s.keep b o' e),fun a x e=>(s.rep a x e).keep (fun _ z=>Heap.get?_push_of_some o z) (tup_push h o),s.new⟩
theorem Step.push (σ:St) (h:Heap) (o:Obj):Step σ σ h (h.push o):=⟨fun _ _ e _=>Heap.get?_push_of_some o e,fun _ e=>.inl e⟩
theorem get_size_none (h:Heap):h.get? h.objs.size=none:=by
 cases e:h.get? h.objs.size with
 | none=>rfl
 | some o=>exact absurd (Heap.lt_size e) (Nat.lt_irrefl _)
theorem mutAt_upd {σ:St} {a b:Addr} {x:MObj}:mutAt (upM σ a x) b=if b=a then x.mut else mutAt σ b:=by
 unfold mutAt upM
 by_cases q:b=a <;> simp [q]
theorem Sim.alloc (s:Sim c σ h) {o:Obj} {x:MObj} (r:MRep c.w.params (h.push o) h.objs.size x):Sim c (upM σ h.objs.size x) (h.push o):=by
 refine ⟨fun b o' e=>Heap.get?_push_of_some o (s.keep b o' e),fun a y e=>?_,fun a e=>?_⟩
 ·unfold upM at e
  split at e
  ·rename_i q; subst q; cases e; exact r
  ·exact (s.rep a y e).keep (fun _ z=>Heap.get?_push_of_some o z) (tup_push h o)
 ·rw [mutAt_upd] at e
  split at e
  ·rename_i q
   subst q
   cases z:c.h0.get? h.objs.size with
   | none=>rfl
   | some o'=>have:=s.keep _ _ z; rw [get_size_none] at this; cases this
  ·exact s.new a e
theorem Step.alloc (σ:St) (h:Heap) (o:Obj) (x:MObj):Step σ (upM σ h.objs.size x) h (h.push o):=by
 refine ⟨fun _ _ e _=>Heap.get?_push_of_some o e,fun a e=>?_⟩
 rw [mutAt_upd] at e
 split at e
 ·rename_i q; subst q; exact .inr (get_size_none h)
 ·exact .inl e
theorem tup_same {h h':Heap} {a:Addr} {o:Obj} (hs:Heap.SameBut a h h') (e:h.get? a=some o) (hc:o.cls≠.type "tuple"):TupKeep h h':=fun b items n q=>by
 refine (hs.2 b fun z=>?_).trans q
 subst z
 rw [e] at q
 cases q
 exact hc rfl
theorem Sim.update (s:Sim c σ h) {h':Heap} {a:Addr} {x:MObj} (m:mutAt σ a=true) (hs:Heap.SameBut a h h') (r:MRep c.w.params h' a x):Sim c (upM σ a x) h':=by
 refine xi1 ?_ (s.mut_obj m)
 intro o
 refine im2 ?_
 intro e hc
 have tk:TupKeep h h':=tup_same hs e (by rcases hc with q | q <;> rw [q] <;> simp)
 refine ⟨fun b o' q=>(hs.2 b fun z=>?_).trans (s.keep b o' q),fun b y q=>?_,fun b q=>?_⟩
 ·subst z
  have:=s.new _ m
  rw [q] at this
  cases this
 ·unfold upM at q
  split at q
  ·rename_i z; subst z; cases q; exact r
  ·rename_i z; exact (s.rep b y q).keep (fun _ w=>(hs.2 b z).trans w) tk
 ·rw [mutAt_upd] at q
  split at q
  ·rename_i z; subst z; exact s.new _ m
  ·exact s.new b q
theorem Step.update {h':Heap} {a:Addr} (x:MObj) (m:mutAt σ a=true) (hs:Heap.SameBut a h h'):Step σ (upM σ a x) h h':=by
 refine ⟨fun b o e q=>(hs.2 b fun z=>?_).trans e,fun b q=>?_⟩
 ·subst z
  rw [m] at q
  cases q
 ·rw [mutAt_upd] at q
  split at q
  ·rename_i z; subst z; exact .inl m
  ·exact .inl q
theorem mutAt_list {a:Addr} {vs:List V} (e:σ a=some (.list vs)):mutAt σ a=true:=by unfold mutAt; rw [e]; rfl
theorem mutAt_dict {a:Addr} {vs:List (Str×V)} (e:σ a=some (.dict vs)):mutAt σ a=true:=by unfold mutAt; rw [e]; rfl
theorem PostV.newTup {s:Shared} {Q:V→St→Prop} {items:List Value} {vs:List V} {t':Nat} (sm:Sim c σ s.heap) (r:VRs s.heap items vs) (q:Q (.tup vs) σ) :
  PostV c σ s Q (.ref s.heap.objs.size) { s with heap:=s.heap.push (tupO items 0),toks:=t' } :=
 ⟨.tup vs,σ,_,t',rfl,⟨_,items,0,rfl,Heap.get?_push_size _ rfl,r.keeps (tup_push _ _)⟩,sm.push _,Step.push _ _ _,q⟩
theorem PostV.newList {s:Shared} {Q:V→St→Prop} {items:List Value} {vs:List V} {t':Nat} (sm:Sim c σ s.heap) (r:VRs s.heap items vs) (q:∀ l,σ l=none→Q (.ref l) (upM σ l (.list vs))) :
  PostV c σ s Q (.ref s.heap.objs.size) { s with heap:=s.heap.push (listO items 0),toks:=t' } :=
 ⟨.ref s.heap.objs.size,_,_,t',rfl,rfl,sm.alloc (x:=.list vs) ⟨items,0,Heap.get?_push_size _ rfl,r.keeps (tup_push _ _)⟩,Step.alloc _ _ _ _,q _ (sm.fresh (get_size_none _))⟩
end
noncomputable def V.isNone:V→Bool
 | .none=>true
 | _=>false
mutual
noncomputable def V.py:V→PyData
 | .none=>.none
 | .bool b=>.bool b
 | .int i=>.int i
 | .str l=>.str (S l)
 | .tup vs=>.tuple (V.pys vs)
 | .ref _=>.none
 | .stat _=>.none
noncomputable def V.pys:List V→List PyData
 | []=>[]
 | v::vs=>V.py v::V.pys vs
end
mutual
noncomputable def V.ok:V→Bool
 | .none=>true
 | .bool _=>true
 | .int _=>true
 | .str l=>l.all (· < 0x110000)
 | .tup vs=>V.oks vs
 | .ref _=>false
 | .stat _=>false
noncomputable def V.oks:List V→Bool
 | []=>true
 | v::vs=>V.ok v&&V.oks vs
end
noncomputable def veq (a b:V):Bool:=PyData.eqv a.py b.py
theorem strOk_S (l:List Nat):PyData.strOk (S l)=l.all (· < 0x110000):=by simp [PyData.strOk]
mutual
theorem V.lay:∀ {v:V},v.ok=true→v.py.canLay0=true
 | .none,_=>rfl
 | .bool _,_=>rfl
 | .int _,_=>rfl
 | .str l,h=>(strOk_S l).trans h
 | .tup vs,h=>V.lays (vs:=vs) h
 | .ref _,h=>by cases h
 | .stat _,h=>by cases h
theorem V.lays:∀ {vs:List V},V.oks vs=true→PyData.canLayAll0 (V.pys vs)=true
 | [],_=>rfl
 | v::vs,h=>by
  have h':(v.ok&&V.oks vs)=true:=h
  rw [Bool.and_eq_true] at h'
  show ((V.py v).canLay0&&PyData.canLayAll0 (V.pys vs))=true
  rw [V.lay h'.1,V.lays h'.2]
  rfl
end
mutual
theorem VR.reads {h:Heap}:∀ {v:V} {u:Value},v.ok=true→VR h u v→∃ as,Reads h u v.py as
 | .none,_,_,r=>by rw [show _=Value.none from r]; exact ⟨_,.none⟩
 | .bool b,_,_,r=>by rw [show _=Value.bool b from r]; exact ⟨_,.bool b⟩
 | .int i,_,_,r=>by obtain ⟨t,rfl⟩:=r; exact ⟨_,.int i t⟩
 | .str l,_,_,r=>by obtain ⟨t,rfl⟩:=r; exact ⟨_,.str _ t⟩
 | .ref _,_,h,_=>by cases h
 | .stat _,_,h,_=>by cases h
 | .tup vs,_,ok,r=>by
  refine xi3 ?_ (r)
  intro a items n
  refine im3 ?_
  intro hq178
  obtain rfl:=hq178
  intro e q
  refine xi1 ?_ (VRs.reads (vs:=vs) ok q)
  intro as z
  exact xc1_1 as (.tuple e rfl rfl (by simpa using z))
theorem VRs.reads {h:Heap}:∀ {vs:List V} {us:List Value},V.oks vs=true→VRs h us vs→∃ as,ReadsAll h us (V.pys vs) as
 | [],_,_,r=>by rw [show _=[] from r]; exact ⟨_,.nil⟩
 | v::vs,_,ok,r=>by
  refine xi2 ?_ (r)
  intro x l
  refine im3 ?_
  intro hq179
  obtain rfl:=hq179
  intro a b
  have h':(v.ok&&V.oks vs)=true:=ok
  rw [Bool.and_eq_true] at h'
  refine xi1 ?_ (VR.reads h'.1 a)
  intro as z
  refine xi1 ?_ (VRs.reads h'.2 b)
  intro bs y
  exact xc1_1 _ (.cons z y)
end
section
variable {c:Cx} {k:Nat} {σ:St} {Q:V→St→Prop} {a b:Int} {x y:List Nat}
theorem Op2.addInt (q:Q (.int (a+b)) σ):Op2 c k (binaryOp .Add) (.int a) (.int b) σ Q:=by
 intro A s _ _ rm sm
 refine xi1 ?_
 intro t hq180
 obtain rfl:=hq180
 refine xi1 ?_
 intro u hq181
 obtain rfl:=hq181
 exact add_int (PostV.tok (x:=.int _) sm ⟨_,rfl⟩ q)
theorem Op2.subInt (q:Q (.int (a - b)) σ):Op2 c k (binaryOp .Sub) (.int a) (.int b) σ Q:=by
 intro A s _ _ rm sm
 refine xi1 ?_
 intro t hq182
 obtain rfl:=hq182
 refine xi1 ?_
 intro u hq183
 obtain rfl:=hq183
 exact sub_int (PostV.tok (x:=.int _) sm ⟨_,rfl⟩ q)
theorem Op2.mulInt (hm:IntMulOk a b) (q:Q (.int (a * b)) σ):Op2 c k (binaryOp .Mult) (.int a) (.int b) σ Q:=by
 intro A s _ _ rm sm
 refine xi1 ?_
 intro t hq184
 obtain rfl:=hq184
 refine xi1 ?_
 intro u hq185
 obtain rfl:=hq185
 exact mul_int (PostV.tok (x:=.int _) sm ⟨_,rfl⟩ q) hm
theorem Op2.modInt (hb:b≠0) (q:Q (.int (a.fmod b)) σ):Op2 c k (binaryOp .Mod) (.int a) (.int b) σ Q:=by
 intro A s _ _ rm sm
 refine xi1 ?_
 intro t hq186
 obtain rfl:=hq186
 refine xi1 ?_
 intro u hq187
 obtain rfl:=hq187
 exact mod_int' hb (PostV.tok (x:=.int _) sm ⟨_,rfl⟩ q)
theorem Op2.powInt (hn:0≤b) (hsz:(Builtin.Int.intBits a:Int) * b≤2 ^ 27) (q:Q (.int (a ^ b.toNat)) σ):Op2 c k (binaryOp .Pow) (.int a) (.int b) σ Q:=by
 intro A s _ _ rm sm
 refine xi1 ?_
 intro t hq188
 obtain rfl:=hq188
 refine xi1 ?_
 intro u hq189
 obtain rfl:=hq189
 exact pow_int hn hsz (PostV.tok (x:=.int _) sm ⟨_,rfl⟩ q)
theorem Op2.ltInt (q:Q (.bool (decide (a < b))) σ):Op2 c k (compareOp .Lt) (.int a) (.int b) σ Q:=by
 intro A s _ _ rm sm
 refine xi1 ?_
 intro t hq190
 obtain rfl:=hq190
 refine xi1 ?_
 intro u hq191
 obtain rfl:=hq191
 exact lt_int (PostV.here (x:=.bool _) sm rfl q)
theorem Op2.gtInt (q:Q (.bool (decide (b < a))) σ):Op2 c k (compareOp .Gt) (.int a) (.int b) σ Q:=by
 intro A s _ _ rm sm
 refine xi1 ?_
 intro t hq192
 obtain rfl:=hq192
 refine xi1 ?_
 intro u hq193
 obtain rfl:=hq193
 exact gt_int (PostV.here (x:=.bool _) sm rfl q)
theorem Op2.leInt (q:Q (.bool (decide (a≤b))) σ):Op2 c k (compareOp .LtE) (.int a) (.int b) σ Q:=by
 intro A s _ _ rm sm
 refine xi1 ?_
 intro t hq194
 obtain rfl:=hq194
 refine xi1 ?_
 intro u hq195
 obtain rfl:=hq195
 exact le_int (PostV.here (x:=.bool _) sm rfl q)
theorem Op2.geInt (q:Q (.bool (decide (b≤a))) σ):Op2 c k (compareOp .GtE) (.int a) (.int b) σ Q:=by
 intro A s _ _ rm sm
 refine xi1 ?_
 intro t hq196
 obtain rfl:=hq196
 refine xi1 ?_
 intro u hq197
 obtain rfl:=hq197
 exact ge_int (PostV.here (x:=.bool _) sm rfl q)
theorem Op2.eqInt (q:Q (.bool (a==b)) σ):Op2 c k (compareOp .Eq) (.int a) (.int b) σ Q:=by
 intro A s _ _ rm sm
 refine xi1 ?_
 intro t hq198
 obtain rfl:=hq198
 refine xi1 ?_
 intro u hq199
 obtain rfl:=hq199
 exact eq_int (PostV.here (x:=.bool _) sm rfl q)
theorem Op2.neInt (q:Q (.bool (a != b)) σ):Op2 c k (compareOp .NotEq) (.int a) (.int b) σ Q:=by
 intro A s _ _ rm sm
 refine xi1 ?_
 intro t hq200
 obtain rfl:=hq200
 refine xi1 ?_
 intro u hq201
 obtain rfl:=hq201
 exact ne_int (PostV.here (x:=.bool _) sm rfl q)
theorem S_beq (x y:List Nat):(S x==S y)=(x==y):=by
 rw [Bool.eq_iff_iff]
 simp
theorem Op2.eqStr (q:Q (.bool (x==y)) σ):Op2 c k (compareOp .Eq) (.str x) (.str y) σ Q:=by
 intro A s _ _ rm sm
 refine xi1 ?_
 intro t hq202
 obtain rfl:=hq202
 refine xi1 ?_
 intro u hq203
 obtain rfl:=hq203
 exact eq_str (PostV.here (x:=.bool _) sm (by rw [S_beq]; rfl) q)
theorem Op2.neStr (q:Q (.bool (x != y)) σ):Op2 c k (compareOp .NotEq) (.str x) (.str y) σ Q:=by
 intro A s _ _ rm sm
 refine xi1 ?_
 intro t hq204
 obtain rfl:=hq204
 refine xi1 ?_
 intro u hq205
 obtain rfl:=hq205
 exact ne_str (PostV.here (x:=.bool _) sm (by show Value.bool (!(S x==S y))=_; rw [S_beq]; rfl) q)
theorem Op2.eqBool {p r:Bool} (q:Q (.bool (p==r)) σ):Op2 c k (compareOp .Eq) (.bool p) (.bool r) σ Q:=by
 rintro A s _ _ rm sm rfl rfl
 exact eq_bool (PostV.here (x:=.bool _) sm rfl q)
theorem Op2.neBool {p r:Bool} (q:Q (.bool (p != r)) σ):Op2 c k (compareOp .NotEq) (.bool p) (.bool r) σ Q:=by
 rintro A s _ _ rm sm rfl rfl
 exact ne_bool (PostV.here (x:=.bool _) sm rfl q)
theorem S_append (x y:List Nat):S x++S y=S (x++y):=by
 show Str.append (S x) (S y)=_
 unfold Str.append; simp
theorem Op2.addStr (hsz:x.length+y.length≤sizeLine) (q:Q (.str (x++y)) σ):Op2 c k (binaryOp .Add) (.str x) (.str y) σ Q:=by
 intro A s _ _ rm sm
 refine xi1 ?_
 intro t hq206
 obtain rfl:=hq206
 refine xi1 ?_
 intro u hq207
 obtain rfl:=hq207
 refine add_str (fun t' tk=>PostV.tok (x:=.str _) sm ⟨t',by rw [S_append]⟩ q) ?_
 simpa [Str.length] using hsz
noncomputable def strIn (needle hay:List Nat):Bool:=!(Builtin.Str.occurrences (S hay) (S needle) 0 (S hay).length 1).isEmpty
theorem Op2.inStr (q:Q (.bool (strIn x y)) σ):Op2 c k (compareOp .In) (.str x) (.str y) σ Q:=by
 intro A s _ _ rm sm
 refine xi1 ?_
 intro t hq208
 obtain rfl:=hq208
 refine xi1 ?_
 intro u hq209
 obtain rfl:=hq209
 exact in_str (PostV.here (x:=.bool _) sm rfl q)
theorem Op2.notInStr (q:Q (.bool (!strIn x y)) σ):Op2 c k (compareOp .NotIn) (.str x) (.str y) σ Q:=by
 intro A s _ _ rm sm
 refine xi1 ?_
 intro t hq210
 obtain rfl:=hq210
 refine xi1 ?_
 intro u hq211
 obtain rfl:=hq211
 exact notIn_str (PostV.here (x:=.bool _) sm rfl q)
theorem strIn_one (n:Nat) (hay:List Nat):strIn [n] hay=decide (n∈hay):=by
 unfold strIn
 have:=StrLaws.found_one (S hay) n
 simpa using this
theorem Op2.eqData {u v:V} (hu:u.ok=true) (hv:v.ok=true) (hd:u.py.depth≤64) (q:Q (.bool (veq u v)) σ):Op2 c k (compareOp .Eq) u v σ Q:=by
 intro A s va vb rm sm ra rb
 refine xi1 ?_ (VR.reads hu ra)
 intro as ra
 refine xi1 ?_ (VR.reads hv rb)
 intro bs rb
 refine SeqAt.compareEq_reads ra rb (V.lay hu) (V.lay hv) ?_ (PostV.here (x:=.bool _) sm rfl q)
 have:=rm.units
 have h2:min u.py.depth v.py.depth≤u.py.depth:=Nat.min_le_left _ _
 exact ar506 hd this
theorem Op2.neData {u v:V} (hu:u.ok=true) (hv:v.ok=true) (hd:u.py.depth≤64) (q:Q (.bool (!veq u v)) σ):Op2 c k (compareOp .NotEq) u v σ Q:=by
 intro A s va vb rm sm ra rb
 refine xi1 ?_ (VR.reads hu ra)
 intro as ra
 refine xi1 ?_ (VR.reads hv rb)
 intro bs rb
 refine SeqAt.compareNe_reads ra rb (V.lay hu) (V.lay hv) ?_ (PostV.here (x:=.bool _) sm rfl q)
 have:=rm.units
 have h2:min u.py.depth v.py.depth≤u.py.depth:=Nat.min_le_left _ _
 exact ar506 hd this
theorem IsL_of {h:Heap} {l:Addr} {items:List Value} {n:Nat} (e:h.get? l=some (listO items n)):h.IsList l items.toArray:=⟨_,e,rfl,n,rfl⟩
theorem Sim.list {s:Heap} {l:Addr} {vs:List V} (sm:Sim c σ s) (e:σ l=some (.list vs)∨σ l=some (.frozen vs)):∃ items n,s.get? l=some (listO items n)∧VRs s items vs:=by
 rcases e with e | e
 ·exact sm.rep l _ e
 ·exact sm.rep l _ e
theorem Op2.eqNil {l m:Addr} {vs:List V} (e1:σ l=some (.list vs)∨σ l=some (.frozen vs)) (e2:σ m=some (.list [])∨σ m=some (.frozen [])) (q:Q (.bool vs.isEmpty) σ):Op2 c k (compareOp .Eq) (.ref l) (.ref m) σ Q:=by
 rintro A s _ _ rm sm rfl rfl
 refine xi2 ?_ (sm.list e1)
 intro i1 n1
 refine im2 ?_
 intro g1 r1
 refine xi2 ?_ (sm.list e2)
 intro i2 n2
 refine im2 ?_
 intro g2 r2
 have z2:i2=[]:=r2
 subst z2
 have hu:A.units < cLine:=by have:=rm.units; exact ar507 this
 cases vs with
 | nil =>
  have z1:i1=[]:=r1
  subst z1
  refine SeqAt.eq_listAt (e:=fun _=>true) (IsL_of g1) (IsL_of g2) rfl hu (fun j h1=>absurd h1 (by simp)) ?_
  exact PostV.here (x:=.bool true) sm rfl q
 | cons v vs =>
  refine xi2 ?_ (r1)
  intro x r
  refine im3 ?_
  intro hq212
  obtain rfl:=hq212
  intro _ _
  refine SeqAt.eq_list_lengthsAt (IsL_of g1) (IsL_of g2) (by simp) hu ?_
  exact PostV.here (x:=.bool false) sm rfl q
theorem Op2.neNil {l m:Addr} {vs:List V} (e1:σ l=some (.list vs)∨σ l=some (.frozen vs)) (e2:σ m=some (.list [])∨σ m=some (.frozen [])) (q:Q (.bool (!vs.isEmpty)) σ):Op2 c k (compareOp .NotEq) (.ref l) (.ref m) σ Q:=by
 revert e1 e2 q
 revert c; revert k; revert σ; revert Q; revert l m vs
 walk_at "close 7"
 intro l m vs Q σ k c e1 e2 q
 rintro A s _ _ rm sm rfl rfl
 refine xi2 ?_ (sm.list e1)
 intro i1 n1
 refine im2 ?_
 intro g1 r1
 refine xi2 ?_ (sm.list e2)
 intro i2 n2
 refine im2 ?_
 intro g2 r2
 have z2:i2=[]:=r2
 subst z2
 have hu:A.units < cLine:=by have:=rm.units; exact ar507 this
 cases vs with
 | nil =>
  have z1:i1=[]:=r1
  subst z1
  refine SeqAt.RcNeAt.lists (e:=fun _=>true) (IsL_of g1) (IsL_of g2) rfl hu (fun j h1=>absurd h1 (by simp)) c.prog c.w _ _ ?_
  exact PostV.here (x:=.bool false) sm rfl q
 | cons v vs =>
  refine xi2 ?_ (r1)
  intro x r
  refine im3 ?_
  intro hq213
  obtain rfl:=hq213
  intro _ _
  refine SeqAt.RcNeAt.lists_lengths (IsL_of g1) (IsL_of g2) (by simp) hu c.prog c.w _ _ ?_
  exact PostV.here (x:=.bool true) sm rfl q
theorem Op2.neLists {l m:Addr} {us vs:List V} (e1:σ l=some (.list us)∨σ l=some (.frozen us)) (e2:σ m=some (.list vs)∨σ m=some (.frozen vs)) (hu:V.oks us=true) (hv:V.oks vs=true) (hd:PyData.depthAll (V.pys us)≤64)
  (q:Q (.bool (!PyData.eqvAll (V.pys us) (V.pys vs))) σ):Op2 c k (compareOp .NotEq) (.ref l) (.ref m) σ Q:=by
 rintro A s _ _ rm sm rfl rfl
 refine xi2 ?_ (sm.list e1)
 intro i1 n1
 refine im2 ?_
 intro g1 r1
 refine xi2 ?_ (sm.list e2)
 intro i2 n2
 refine im2 ?_
 intro g2 r2
 refine xi1 ?_ (VRs.reads hu r1)
 intro as r1
 refine xi1 ?_ (VRs.reads hv r2)
 intro bs r2
 refine SeqAt.compareNe_reads (.list g1 rfl rfl (by simpa using r1)) (.list g2 rfl rfl (by simpa using r2)) (V.lays hu) (V.lays hv) ?_ (PostV.here (x:=.bool _) sm rfl q)
 have:=rm.units
 have h2:min (PyData.list (V.pys us)).depth (PyData.list (V.pys vs)).depth≤(PyData.list (V.pys us)).depth:=Nat.min_le_left _ _
 have h3:(PyData.list (V.pys us)).depth=PyData.depthAll (V.pys us)+1:=rfl
 exact ar508 hd this h3
noncomputable def vin (v:V) (vs:List V):Bool:=(V.pys vs).any fun y=>PyData.eqv y v.py
theorem Op2.inTup {u:V} {vs:List V} (hu:u.ok=true) (hv:V.oks vs=true) (hd:u.py.depth≤64) (q:Q (.bool (vin u vs)) σ):Op2 c k (compareOp .In) u (.tup vs) σ Q:=by
 intro A s va vb rm sm ra rb
 refine xi1 ?_ (VR.reads hu ra)
 intro as ra
 refine xi1 ?_ (VR.reads (v:=.tup vs) hv rb)
 intro bs rb
 refine SeqAt.in_tuple_reads rb ra (V.lays hv) (V.lay hu) ?_ (PostV.here (x:=.bool _) sm rfl q)
 have:=rm.units
 have h2:min (PyData.depthAll (V.pys vs)) u.py.depth≤u.py.depth:=Nat.min_le_right _ _
 exact ar509 hd this
theorem Op2.notInTup {u:V} {vs:List V} (hu:u.ok=true) (hv:V.oks vs=true) (hd:u.py.depth≤64) (q:Q (.bool (!vin u vs)) σ):Op2 c k (compareOp .NotIn) u (.tup vs) σ Q:=by
 intro A s va vb rm sm ra rb
 refine xi1 ?_ (VR.reads hu ra)
 intro as ra
 refine xi1 ?_ (VR.reads (v:=.tup vs) hv rb)
 intro bs rb
 refine SeqAt.notIn_tuple_reads rb ra (V.lays hv) (V.lay hu) ?_ (PostV.here (x:=.bool _) sm rfl q)
 have:=rm.units
 have h2:min (PyData.depthAll (V.pys vs)) u.py.depth≤u.py.depth:=Nat.min_le_right _ _
 exact ar509 hd this
theorem Op2.inList {u:V} {l:Addr} {vs:List V} (e:σ l=some (.list vs)∨σ l=some (.frozen vs)) (hu:u.ok=true) (hv:V.oks vs=true) (hd:u.py.depth≤64) (q:Q (.bool (vin u vs)) σ):Op2 c k (compareOp .In) u (.ref l) σ Q:=by
 rintro A s va _ rm sm ra rfl
 refine xi1 ?_ (VR.reads hu ra)
 intro as ra
 refine xi2 ?_ (sm.list e)
 intro i1 n1
 refine im2 ?_
 intro g1 r1
 refine xi1 ?_ (VRs.reads hv r1)
 intro bs rb
 refine SeqAt.in_list_reads (.list g1 rfl rfl (by simpa using rb)) ra (V.lays hv) (V.lay hu) ?_ (PostV.here (x:=.bool _) sm rfl q)
 have:=rm.units
 have h2:min (PyData.depthAll (V.pys vs)) u.py.depth≤u.py.depth:=Nat.min_le_right _ _
 exact ar509 hd this
theorem Op2.notInList {u:V} {l:Addr} {vs:List V} (e:σ l=some (.list vs)∨σ l=some (.frozen vs)) (hu:u.ok=true) (hv:V.oks vs=true) (hd:u.py.depth≤64) (q:Q (.bool (!vin u vs)) σ):Op2 c k (compareOp .NotIn) u (.ref l) σ Q:=by
 rintro A s va _ rm sm ra rfl
 refine xi1 ?_ (VR.reads hu ra)
 intro as ra
 refine xi2 ?_ (sm.list e)
 intro i1 n1
 refine im2 ?_
 intro g1 r1
 refine xi1 ?_ (VRs.reads hv r1)
 intro bs rb
 refine SeqAt.notIn_list_reads (.list g1 rfl rfl (by simpa using rb)) ra (V.lays hv) (V.lay hu) ?_ (PostV.here (x:=.bool _) sm rfl q)
 have:=rm.units
 have h2:min (PyData.depthAll (V.pys vs)) u.py.depth≤u.py.depth:=Nat.min_le_right _ _
 exact ar509 hd this
theorem Op2.addList {l m:Addr} {us vs:List V} (e1:σ l=some (.list us)∨σ l=some (.frozen us)) (e2:σ m=some (.list vs)∨σ m=some (.frozen vs)) (hsz:us.length+vs.length≤sizeLine) (q:∀ l,σ l=none→Q (.ref l) (upM σ l (.list (us++vs)))) :
  Op2 c k (binaryOp .Add) (.ref l) (.ref m) σ Q:=by
 rintro A s _ _ rm sm rfl rfl
 refine xi2 ?_ (sm.list e1)
 intro i1 n1
 refine im2 ?_
 intro g1 r1
 refine xi2 ?_ (sm.list e2)
 intro i2 n2
 refine im2 ?_
 intro g2 r2
 refine P.add_list g1 g2 ?_ (by simpa [r1.length,r2.length] using hsz)
 have:=PostV.newList (t':=s.toks) (Q:=Q) sm (r1.append r2) q
 simpa using this
theorem Op2.addTup {us vs:List V} (h1:us≠[]) (h2:vs≠[]) (hsz:us.length+vs.length≤sizeLine) (q:Q (.tup (us++vs)) σ) :
  Op2 c k (binaryOp .Add) (.tup us) (.tup vs) σ Q:=by
 revert h1 h2 hsz q
 revert c; revert k; revert σ; revert Q; revert us vs
 walk_at "close 6"
 intro us vs Q σ k c h1 h2 hsz q
 intro A s _ _ rm sm
 refine xi3 ?_
 intro a i1 n1
 refine im3 ?_
 intro hq214
 obtain rfl:=hq214
 intro g1 r1
 refine xi3 ?_
 intro b i2 n2
 refine im3 ?_
 intro hq215
 obtain rfl:=hq215
 intro g2 r2
 refine P.add_tuple g1 g2 ?_ ?_ ?_ (by simpa [r1.length,r2.length] using hsz)
 ·intro e
  apply h1
  have:=r1.length
  have e':i1=[]:=by simpa using e
  rw [e'] at this
  exact List.eq_nil_of_length_eq_zero this.symm
 ·intro e
  apply h2
  have:=r2.length
  have e':i2=[]:=by simpa using e
  rw [e'] at this
  exact List.eq_nil_of_length_eq_zero this.symm
 ·have:=PostV.newTup (t':=s.toks) (Q:=Q) sm (r1.append r2) q
  simpa using this
theorem Op1.negInt (q:Q (.int (-a)) σ):Op1 c k (unaryOp .USub) (.int a) σ Q:=by
 intro A s _ rm sm
 refine xi1 ?_
 intro t hq216
 obtain rfl:=hq216
 exact neg_int (PostV.tok (x:=.int _) sm ⟨_,rfl⟩ q)
theorem Op1.notBool {p:Bool} (q:Q (.bool (!p)) σ):Op1 c k (unaryOp .Not) (.bool p) σ Q:=by
 rintro A s _ rm sm rfl
 unfold unaryOp
 refine wpAny_holding ?_
 show wpAny _ _ (truthy (Value.bool p) >>= fun z=>pure (Value.bool (!z))) _ _ _
 exact wpAny_bind (wpAny_truthy_bool (wpAny_pure (PostV.here (x:=.bool _) sm rfl q)))
theorem Op2.isNone {u:V} (hn:∀ w,u≠.stat w) (q:Q (.bool u.isNone) σ):Op2 c k (compareOp .Is) u .none σ Q:=by
 rintro A s va _ rm sm ra rfl
 have key:isSame va .none=pure u.isNone:=by
  clear q
  cases u with
  | none=>rw [show va=.none from ra]; rfl
  | bool b=>rw [show va=.bool b from ra]; rfl
  | int i=>obtain ⟨t,rfl⟩:=ra; rfl
  | str l=>obtain ⟨t,rfl⟩:=ra; rfl
  | tup vs=>obtain ⟨a,i,n,rfl,_,_⟩:=ra; rfl
  | ref a=>rw [show va=.ref a from ra]; rfl
  | stat w=>exact absurd rfl (hn w)
 show wpAny _ _ (isSame va Value.none >>= fun z=>pure (Value.bool z)) _ _ _
 rw [key]
 exact wpAny_bind (wpAny_pure (wpAny_pure (PostV.here (x:=.bool _) sm rfl q)))
theorem TruthW.bool {p:Bool}:TruthW c k (.bool p) σ p:=by
 rintro A s _ P E rm sm rfl h
 exact wpAny_truthy_bool (h s.toks)
end
theorem letTemp_str (v:Expr) (x:Str) (u:Tok) (r:Value):letTemporaryGo v (.str x u) r=pure ():=by cases v <;> rfl
noncomputable def TailW (c:Cx) (k:Nat) (value slice:Expr) (o i:V) (σ:St) (Q:V→St→Prop):Prop:=Op2 c k (subscriptTail value slice) o i σ Q
noncomputable def NoSlice (slice:Expr):Prop:=∀ o i,subscripted slice false o i=operate [o,i] (getItem o i)
section
variable {c:Cx} {k:Nat} {sc:Scope} {ρ:Loc} {σ:St} {Q:V→St→Prop}
theorem EV.sub {v i:Expr} {p:Pos} (h:EV c k v sc ρ σ fun a σ₁=>EV c k i sc ρ σ₁ fun b σ₂=>TailW c k v i a b σ₂ Q):EV c k (.Subscript v i p) sc ρ σ Q:=by
 intro env A s ok rm sm F
 refine Subscript_ (h.andThen ok rm sm F fun va a σ₁ h₁ t₁ ra sm₁ st₁ F₁ q₁=>?_)
 refine q₁.andThen (s:={ s with heap:=h₁,toks:=t₁ }) ok rm sm₁ F₁ fun vb b σ₂ h₂ t₂ rb sm₂ st₂ F₂ q₂=>?_
 exact wpAny_before (st₁.trans st₂) (q₂ A { s with heap:=h₂,toks:=t₂ } va vb rm sm₂ (ra.keeps (sm₁.tups st₂)) rb)
theorem TailW.list {v i:Expr} {l:Addr} {vs:List V} {j:Int} {x:V} (hs:NoSlice i) (e:σ l=some (.list vs)∨σ l=some (.frozen vs)) (h0:0≤j) (h1:j < 2 ^ 63) (hx:vs[j.toNat]?=some x) (q:Q x σ) :
  TailW c k v i (.ref l) (.int j) σ Q:=by
 revert hs e h0 h1 hx q
 revert c; revert k; revert σ; revert Q; revert v i l vs j x
 walk_at "close 10"
 intro v i l vs j x Q σ k c hs e h0 h1 hx q
 intro A s _ _ rm sm
 rintro rfl
 refine xi1 ?_
 intro t hq217
 obtain rfl:=hq217
 refine xi2 ?_ (sm.list e)
 intro its n
 refine im2 ?_
 intro g r
 refine xi1 ?_ (r.get hx)
 intro u
 refine im2 ?_
 intro hu ru
 exact tail_any (IsL_of g).typeIs slot_list_getitem.lookup (wpAny_getItem_list (IsL_of g) h0 h1 (by simpa using hu) (PostV.here sm ru q)) (hs _ _)
theorem TailW.listNeg {v i:Expr} {l:Addr} {vs:List V} {j:Int} {x:V} (hs:NoSlice i) (e:σ l=some (.list vs)∨σ l=some (.frozen vs)) (h0:j < 0) (h1:-(vs.length:Int)≤j) (h2:-(2 ^ 63)≤j) (hx:vs[(j+vs.length).toNat]?=some x) (q:Q x σ) :
  TailW c k v i (.ref l) (.int j) σ Q:=by
 intro A s _ _ rm sm
 rintro rfl
 refine xi1 ?_
 intro t hq218
 obtain rfl:=hq218
 refine xi2 ?_ (sm.list e)
 intro its n
 refine im2 ?_
 intro g r
 refine xi1 ?_ (r.get hx)
 intro u
 refine im2 ?_
 intro hu ru
 have hl:=r.length
 exact tail_any (IsL_of g).typeIs slot_list_getitem.lookup (wpAny_getItem_list_neg (IsL_of g) h0 (by simpa [hl] using h1) h2 (by simpa [hl] using hu) (PostV.here sm ru q)) (hs _ _)
theorem IsT_of {h:Heap} {l:Addr} {items:List Value} {n:Nat} (e:h.get? l=some (tupO items n)):IsTup h l items.toArray:=⟨_,e,rfl,n,rfl⟩
theorem TailW.tup {v i:Expr} {vs:List V} {j:Int} {m:Nat} {x:V} (hs:NoSlice i) (hlo:-2 ^ 63≤j) (hhi:j < 2 ^ 63) (hk:seqIndex? j vs.length=some m) (hx:vs[m]?=some x) (q:Q x σ) :
  TailW c k v i (.tup vs) (.int j) σ Q:=by
 revert hs hlo hhi hk hx q
 revert c; revert k; revert σ; revert Q; revert v i vs j m x
 walk_at "close 10"
 intro v i vs j m x Q σ k c hs hlo hhi hk hx q
 intro A s _ _ rm sm
 refine xi3 ?_
 intro a its n
 refine im3 ?_
 intro hq219
 obtain rfl:=hq219
 intro g r
 refine xi1 ?_
 intro t hq220
 obtain rfl:=hq220
 refine xi1 ?_ (r.get hx)
 intro u
 refine im2 ?_
 intro hu ru
 exact tail_any (IsT_of g).typeIs slot_tuple_getitem.lookup (P.getItem_tuple g hlo hhi (by simpa [r.length] using hk) (by simpa using hu) (PostV.here sm ru q)) (hs _ _)
theorem TailW.str {v i:Expr} {l:List Nat} {j:Int} {m x:Nat} (hs:NoSlice i) (hlo:-2 ^ 63≤j) (hhi:j < 2 ^ 63) (hk:seqIndex? j l.length=some m) (hx:l[m]?=some x) (q:Q (.str [x]) σ) :
  TailW c k v i (.str l) (.int j) σ Q:=by
 intro A s _ _ rm sm
 refine xi1 ?_
 intro u hq221
 obtain rfl:=hq221
 refine xi1 ?_
 intro t hq222
 obtain rfl:=hq222
 have hch:Txt.charAt (S l) j=some x:=by
  unfold Txt.charAt
  rw [show (S l).length=l.length from by simp [Str.length],hk]
  simpa using hx
 have hr:fitsSsize j=true:=by
  unfold fitsSsize; rw [Bool.not_eq_true',Bool.or_eq_false_iff,decide_eq_false_iff_not,decide_eq_false_iff_not]; exact ar510 hlo hhi
 refine tail_of_ItemOn (SB.item hr (by rw [hch]; rfl) ?_) (hs _ _) (fun r=>letTemp_str _ _ _ _)
 refine PostV.tok (x:=.str [x]) sm ⟨s.toks,?_⟩ q
 unfold Txt.item
 rw [hch]
 rfl
noncomputable def PartV (c:Cx) (k:Nat) (e:Option Expr) (sc:Scope) (ρ:Loc) (σ:St) (Q:Option Int→St→Prop):Prop:=match e with
 | none=>Q none σ
 | some e=>EV c k e sc ρ σ fun v σ'=>∃ i,v=.int i∧Q (some i) σ'
theorem PartV.run {e:Option Expr} {QQ:Option Int→St→Prop} {env:Env} {A:Around} {s:Shared} {P:Value→Shared→Prop} (h:PartV c k e sc ρ σ QQ) (ok:EnvOk sc env) (rm:Room A k) (sm:Sim c σ s.heap) (F:FrR env ρ σ s.heap)
  (go:∀ v x σ' h' t',IsPart v x→Sim c σ' h'→Step σ σ' s.heap h'→FrR env ρ σ' h'→QQ x σ'→P v { s with heap:=h',toks:=t' }) :
  wpAny (model c.prog c.w) A (evalPart e env) P (fun _ _=>False) s:=by
 cases e with
 | none=>exact wpAny_pure (go _ _ σ s.heap s.toks .none sm (Step.refl _ _) F h)
 | some e =>
  rw [evalPart_some]
  refine EV.andThen h ok rm sm F fun v x σ' h' t' r sm' st F' q=>?_
  refine xi1 ?_ (q)
  intro i
  refine im2 ?_
  intro hq223
  obtain rfl:=hq223
  intro q
  refine xi1 ?_ (r)
  intro t hq224
  obtain rfl:=hq224
  exact go _ _ σ' h' t' (.int i t) sm' st F' q
theorem wpAny_Sub_Slice {prog:Program} {w:World} {A:Around} {E:Value→Shared→Prop} {s:Shared} {env:Env} {value:Expr} {lower upper:Option Expr} {p pos:Pos} {P:Value→Shared→Prop}
  (h:wpAny (model prog w) A (eval value env) (fun o s₁=>wpAny (model prog w) A (eval (.Slice lower upper none p) env) (fun i s₂=>∃ T id,typeLookup (.type T) "__getitem__"=pure (some (.builtin id))∧s₂.TypeIs o T∧wpAny (model prog w) A (getItem o i) P E s₂) E s₁) E s) :
  wpAny (model prog w) A (eval (.Subscript value (.Slice lower upper none p) pos) env) P E s:=by
 rw [eval_Subscript]
 refine wpAny_bind (wpAny_mono h (fun o s₁ h₁=>wpAny_bind (wpAny_holding (wpAny_mono h₁ (fun i s₂ h₂=>wpAny_bind (wpAny_standAt ?_)) fun _ _ x=>x)))
  fun _ _ x=>x)
 refine xi2 ?_ (h₂)
 intro T id
 refine im3 ?_
 intro hl hT hg
 have fin:wpAny (model prog w) A (operate [i,o] (getItem o i)) (fun r s₃=>wpAny (model prog w) A (letTemporaryGo value o r >>= fun _=>pure r) P E s₃) E s₂ :=
  wpAny_operating (wpAny_mono hg (fun r s₃ h₃=>wpAny_bind (wpAny_letTemporaryGo (wpAny_pure h₃))) fun _ _ x=>x)
 refine wpAny_bind ?_
 rw [getitemInPython_of_ne hT.not_modules]
 refine wpAny_bind (wpAny_specialOf hT hl ?_)
 first
  | exact wpAny_pure (wpAny_bind fin)
  | exact wpAny_bind (wpAny_pure (wpAny_bind fin))
  | exact wpAny_bind fin
noncomputable def CutW (c:Cx) (k:Nat) (o:V) (lo hi:Option Int) (σ:St) (Q:V→St→Prop):Prop :=
 ∀ A s vo sl vl vu,Room A k→Sim c σ s.heap→VR s.heap vo o→s.heap.get? sl=some { cls:=.type "slice",data:=.fields #[vl,vu,.none] }→IsPart vl lo→IsPart vu hi →
  ∃ T id,typeLookup (.type T) "__getitem__"=pure (some (.builtin id))∧s.TypeIs vo T∧wpAny (model c.prog c.w) A (getItem vo (.ref sl)) (PostV c σ s Q) (fun _ _=>False) s
theorem EV.cut {v:Expr} {l u:Option Expr} {p p':Pos} (h:EV c k v sc ρ σ fun a σ₁=>PartV c k l sc ρ σ₁ fun x σ₂=>PartV c k u sc ρ σ₂ fun y σ₃=>CutW c k a x y σ₃ Q):EV c k (.Subscript v (.Slice l u none p) p') sc ρ σ Q:=by
 intro env A s ok rm sm F
 refine wpAny_Sub_Slice (h.andThen ok rm sm F fun va a σ₁ h₁ t₁ ra sm₁ st₁ F₁ q₁=>?_)
 refine wpAny_Slice (PartV.run (s:={ s with heap:=h₁,toks:=t₁ }) q₁ ok rm sm₁ F₁ fun vl x σ₂ h₂ t₂ rl sm₂ st₂ F₂ q₂=>?_)
 refine PartV.run (s:={ s with heap:=h₂,toks:=t₂ }) q₂ ok rm sm₂ F₂ fun vu y σ₃ h₃ t₃ ru sm₃ st₃ F₃ q₃=>?_
 rw [evalPart_none]
 refine wpAny_pure ?_
 have st:=st₁.trans (st₂.trans st₃)
 have st4:=Step.push σ₃ h₃ { cls:=.type "slice",data:=.fields #[vl,vu,.none] }
 obtain ⟨T,id,a1,a2,a3⟩:=q₃ A { s with heap:=h₃.push { cls:=.type "slice",data:=.fields #[vl,vu,.none] },toks:=t₃ } va h₃.objs.size vl vu rm (sm₃.push _)
  ((ra.keeps (sm₁.tups (st₂.trans st₃))).keeps (tup_push _ _)) (Heap.get?_push_size _ rfl) rl ru
 exact xc2_3 T id a1 a2 (wpAny_before (st.trans st4) a3)
noncomputable def clipN (n:Nat) (lo hi:Option Int):Nat×Nat:=(lo.elim 0 (clipAt n),hi.elim n (clipAt n))
noncomputable def cutL {α:Type} (l:List α) (lo hi:Option Int):List α:=(l.drop (clipN l.length lo hi).1).take ((clipN l.length lo hi).2 - (clipN l.length lo hi).1)
theorem CutW.list {l:Addr} {vs:List V} {lo hi:Option Int} (e:σ l=some (.list vs)∨σ l=some (.frozen vs)) (hsz:vs.length≤sizeLine) (q:∀ m,σ m=none→Q (.ref m) (upM σ m (.list (cutL vs lo hi)))) :
  CutW c k (.ref l) lo hi σ Q:=by
 rintro A s _ sl vl vu rm sm rfl hs pl pu
 refine xi2 ?_ (sm.list e)
 intro its n
 refine im2 ?_
 intro g r
 refine xc2_3 ("list") _ slot_list_getitem.lookup ((IsL_of g).typeIs) (wpAny_getItem_list_slice (IsL_of g) ⟨_,hs,rfl,rfl⟩ pl pu .none (by simp) ?_ (by simpa [r.length] using hsz))
 rw [slicePick_plain]
 have hr:VRs s.heap ((its.drop (clipN its.length lo hi).1).take ((clipN its.length lo hi).2 - (clipN its.length lo hi).1)) (cutL vs lo hi):=by
  unfold cutL; rw [r.length]; exact (r.drop _).take _
 have:=PostV.newList (t':=s.toks) (Q:=Q) sm hr q
 simpa [clipN] using this
theorem slicePart_of {M:Model} {A:Around} {E:Value→Shared→Prop} {s:Shared} {v:Value} {x:Option Int} {P:Option Int→Shared→Prop} (p:IsPart v x) (h:P x s):wpAny M A (Builtin.Slice.slicePartIndex v) P E s:=by
 cases p with
 | none=>exact wpAny_pure h
 | int i t =>
  unfold Builtin.Slice.slicePartIndex
  rw [if_neg (show ¬ ((Value.int i t==Value.none)=true) from Bool.false_ne_true)]
  refine wpAny_bind (wpAny_specialOf (T:="int") (typeIs_int s i t) int_index ?_)
  simp only [Option.isNone_some,Bool.false_eq_true,if_false]
  exact wpAny_bind (wpAny_of_eq (a:=i) rfl (wpAny_pure h))
theorem sliceApplied_of {M:Model} {A:Around} {E:Value→Shared→Prop} {s:Shared} {sl:Addr} {n:Nat} {vl vu:Value} {lo hi:Option Int} {P:Int×Int×Nat→Shared→Prop} (hs:s.heap.IsSliceOf sl vl vu .none) (pl:IsPart vl lo) (pu:IsPart vu hi)
  (h:P ((clipN n lo hi).1,1,(clipN n lo hi).2 - (clipN n lo hi).1) s):wpAny M A (Builtin.Slice.sliceApplied (.ref sl) (pure (n:Int))) P E s:=by
 revert hs pl pu h
 revert A; revert s; revert P; revert E; revert n; revert M sl vl vu lo hi
 walk_at "close 11"
 intro M sl vl vu lo hi n E P s A hs pl pu h
 refine xi1 ?_ (id hs)
 intro os
 refine im3 ?_
 intro hos hcs hds
 unfold Builtin.Slice.sliceApplied Builtin.Slice.sliceFields
 refine wpAny_bind (wpAny_bind (wpAny_field hos hds (x:=vl) rfl (wpAny_bind (wpAny_field hos hds (x:=vu) rfl (wpAny_bind (wpAny_field hos hds (x:=.none) rfl (wpAny_pure ?_)))))))
 refine wpAny_bind (slicePart_of .none ?_)
 show wpAny _ _ (if ((1:Int)==0)=true then _ else _) _ _ s
 rw [if_neg (by decide)]
 refine wpAny_bind (slicePart_of pl (wpAny_bind (slicePart_of pu (wpAny_bind (wpAny_pure ?_)))))
 show wpAny _ _ (match Builtin.Slice.sliceAdjust lo hi 1 (n:Int) with | (lo,hi)=>pure (lo,(1:Int),Builtin.Slice.slicePlaces lo hi 1)) _ _ s
 have e:Builtin.Slice.sliceAdjust lo hi 1 (n:Int)=(((clipN n lo hi).1:Int),((clipN n lo hi).2:Int)):=by
  unfold Builtin.Slice.sliceAdjust clipN
  have h1:¬ ((1:Int) < 0):=by decide
  simp only [h1,if_false]
  have cl:∀ v:Int,(if v < 0 then max (v+n) 0 else min v (n:Int))=(clipAt n v:Int):=by
   intro v
   rw [clipAt_cast]
   split <;> walk_at "o"
  congr 1
  ·cases lo <;> simp [cl]
  ·cases hi <;> simp [cl]
 rw [e]
 have p:Builtin.Slice.slicePlaces ((clipN n lo hi).1:Int) ((clipN n lo hi).2:Int) 1=(clipN n lo hi).2 - (clipN n lo hi).1:=by
  unfold Builtin.Slice.slicePlaces
  have h1:(1:Int) > 0:=by decide
  simp only [h1,if_true,Int.ediv_one]
  split <;> walk_at "o"
 show wpAny _ _ (pure (((clipN n lo hi).1:Int),(1:Int),Builtin.Slice.slicePlaces ((clipN n lo hi).1:Int) ((clipN n lo hi).2:Int) 1)) _ _ s
 rw [p]
 exact wpAny_pure h
theorem pick_cut (xs:Array Value) (a m:Nat):((List.range m).filterMap fun (k:Nat)=>xs[((a:Int)+(k:Int) * 1).toNat]?).toArray=((xs.toList.drop a).take m).toArray:=by
 have e:(fun (k:Nat)=>xs[((a:Int)+(k:Int) * 1).toNat]?)=fun k=>xs[a+k]?:=by
  funext k
  have:((a:Int)+(k:Int) * 1).toNat=a+k:=by exact ar511
  rw [this]
 rw [e]
 have:=pick_run xs a m
 rw [List.filterMap_map] at this
 have e2:((fun x=>xs[x]?) ∘ fun x=>a+x)=fun k=>xs[a+k]?:=rfl
 rw [e2] at this
 rw [this]
theorem getItem_tuple_cut {A:Around} {E:Value→Shared→Prop} {s:Shared} {t sl:Addr} {items:Array Value} {lo hi:Option Int} {vl vu:Value} {P:Value→Shared→Prop} (ht:IsTup s.heap t items) (hs:s.heap.IsSliceOf sl vl vu .none) (pl:IsPart vl lo) (pu:IsPart vu hi)
  (h1:(clipN items.size lo hi).1=0→(clipN items.size lo hi).2 - (clipN items.size lo hi).1=items.size→P (.ref t) s)
  (h2:P (.ref s.heap.objs.size) { s with heap:=s.heap.push { cls:=.type "tuple",data:=.seq ((items.toList.drop (clipN items.size lo hi).1).take ((clipN items.size lo hi).2 - (clipN items.size lo hi).1)).toArray } })
  (hsz:items.size≤sizeLine):wpAny (model c.prog c.w) A (getItem (.ref t) (.ref sl)) P E s:=by
 revert ht hs pl pu h1 h2 hsz
 revert c; revert A; revert s; revert P; revert E; revert t sl items lo hi vl vu
 walk_at "close 12"
 intro t sl items lo hi vl vu E P s A c ht hs pl pu h1 h2 hsz
 have hdrop:sizeOk (.seq ((items.toList.drop (clipN items.size lo hi).1).take ((clipN items.size lo hi).2 - (clipN items.size lo hi).1)).toArray):=by
  show (_:Array Value).size≤sizeLine
  rw [List.size_toArray,List.length_take,List.length_drop,Array.length_toList]
  exact ar512 hsz
 refine xi1 ?_ (id hs)
 intro os
 refine im3 ?_
 intro hos hcs hds
 have hTs:s.TypeIs (.ref sl) "slice":=⟨os,hos,hcs⟩
 unfold getItem
 refine wpAny_holding ?_
 refine wpAny_bind (wpAny_sequenceKey ht.typeIs (by decide) ?_)
 refine wpAny_bind (wpAny_callSpecial?_slot (name:=Str.ofString "__getitem__") ht.typeIs slot_tuple_getitem
  (wpAny_call_entry slot_tuple_getitem ht.typeIs entry_tuple_getitem ?_ (args_tuple_getitem _ _)))
 show wpAny _ _ (Builtin.Tuple.tupleItemsOf (.ref t) >>= _) _ _ s
 refine wpAny_bind (tupleItemsOf_ ht ?_)
 refine wpAny_bind (wpAny_typeOf hTs ?_)
 rw [if_pos (by decide)]
 refine wpAny_bind (sliceApplied_of hs pl pu ?_)
 by_cases hw:(clipN items.size lo hi).1=0∧(clipN items.size lo hi).2 - (clipN items.size lo hi).1=items.size
 ·have hyes:(((clipN items.size lo hi).1:Int)==0&&(1:Int)==1&&((clipN items.size lo hi).2 - (clipN items.size lo hi).1)==items.size)=true:=by
   rw [hw.2,hw.1]
   simp
  show wpAny _ _ (if (((clipN items.size lo hi).1:Int)==0&&(1:Int)==1&&((clipN items.size lo hi).2 - (clipN items.size lo hi).1)==items.size)=true then _ else _) _ _ s
  rw [if_pos hyes]
  unfold Builtin.Tuple.tupleIsExact
  refine wpAny_bind (wpAny_bind (wpAny_typeOf ht.typeIs ?_))
  refine wpAny_pure ?_
  rw [if_pos (by decide)]
  exact wpAny_bind (wpAny_rule (wpAny_pure ⟨_,rfl,wpAny_pure (h1 hw.1 hw.2)⟩))
 ·have hno:¬ ((((clipN items.size lo hi).1:Int)==0&&(1:Int)==1&&((clipN items.size lo hi).2 - (clipN items.size lo hi).1)==items.size)=true):=by
   intro z
   simp only [Bool.and_eq_true,beq_iff_eq] at z
   exact hw ⟨by walk_at "o",z.2⟩
  show wpAny _ _ (if (((clipN items.size lo hi).1:Int)==0&&(1:Int)==1&&((clipN items.size lo hi).2 - (clipN items.size lo hi).1)==items.size)=true then _ else _) _ _ s
  rw [if_neg hno,pick_cut]
  first
   | exact wpAny_bind (m:=Builtin.Tuple.tupleExact _) (wpAny_newObj_type (wpAny_pure ⟨_,rfl,wpAny_pure h2⟩) hdrop)
   | exact wpAny_bind (m:=Builtin.Tuple.tupleExact _) (wpAny_newObj_type (wpAny_bind (wpAny_pure (wpAny_pure ⟨_,rfl,wpAny_pure h2⟩))) hdrop)
   | exact wpAny_bind (wpAny_bind (m:=Builtin.Tuple.tupleExact _) (wpAny_newObj_type (wpAny_pure (wpAny_pure ⟨_,rfl,wpAny_pure h2⟩)) hdrop))
   | exact wpAny_bind (wpAny_bind (m:=Builtin.Tuple.tupleExact _) (wpAny_newObj_type (wpAny_pure ⟨_,rfl,wpAny_pure h2⟩) hdrop))
theorem CutW.tup {vs:List V} {lo hi:Option Int} (hsz:vs.length≤sizeLine) (q:Q (.tup (cutL vs lo hi)) σ):CutW c k (.tup vs) lo hi σ Q:=by
 revert hsz q
 revert c; revert k; revert σ; revert Q; revert vs lo hi
 walk_at "close 7"
 intro vs lo hi Q σ k c hsz q
 intro A s _ sl vl vu rm sm
 refine xi3 ?_
 intro a its n
 refine im3 ?_
 intro hq225
 obtain rfl:=hq225
 intro g r hs pl pu
 have hr:VRs s.heap ((its.drop (clipN its.length lo hi).1).take ((clipN its.length lo hi).2 - (clipN its.length lo hi).1)) (cutL vs lo hi):=by
  unfold cutL; rw [r.length]; exact (r.drop _).take _
 refine xc2_3 ("tuple") _ slot_tuple_getitem.lookup ((IsT_of g).typeIs) (getItem_tuple_cut (IsT_of g) ⟨_,hs,rfl,rfl⟩ pl pu (fun e1 e2=>?_) ?_ (by simpa [r.length] using hsz))
 ·refine PostV.here (x:=.tup (cutL vs lo hi)) sm ⟨a,its,n,rfl,g,?_⟩ q
  simp only [List.size_toArray] at e1 e2
  rw [e2,e1,List.drop_zero,List.take_of_length_le (Nat.le_refl _)] at hr
  exact hr
 ·have:=PostV.newTup (t':=s.toks) (Q:=Q) sm hr q
  simpa using this
theorem CutW.str {l:List Nat} {i j:Int} (hsz:l.length≤sizeLine) (h0:0≤i) (h1:i≤j) (h2:j≤l.length) (q:Q (.str ((l.drop i.toNat).take (j - i).toNat)) σ):CutW c k (.str l) (some i) (some j) σ Q:=by
 revert hsz h0 h1 h2 q
 revert c; revert k; revert σ; revert Q; revert l i j
 walk_at "close 7"
 intro l i j Q σ k c hsz h0 h1 h2 q
 intro A s _ sl vl vu rm sm
 refine xi1 ?_
 intro t hq226
 obtain rfl:=hq226
 intro hs pl pu
 cases pl with
 | int _ ti =>
 cases pu with
 | int _ tj =>
 have hl:(S l).length=l.length:=by simp [Str.length]
 refine xc2_3 ("str") _ F.slot_str_getitem.lookup (typeIs_str _ _ _) (wpAny_getItem_str_slice (l:=some (i,ti)) (u:=some (j,tj)) (st:=none) ⟨_,hs,rfl,rfl⟩ rfl ?_)
 refine post_val_or_str (y:=S l) ⟨Nat.le_trans (Txt.slice_le (S l) (some i) (some j)) (by rw [hl]; exact hsz),fun t' k'=>?_⟩
 refine PostV.tok (x:=.str _) sm ⟨t',?_⟩ q
 have e:=eq_of_beq (slice_closesL (x:=S l) h0 h1 (by rw [hl]; exact h2))
 have e':(if ((Option.map (fun x:Int×Tok=>x.1) none).getD 1==1&&(slicePicked (S l) (some (i,ti)) (some (j,tj)) none).length==(S l).length)=true then S l else ⟨((slicePicked (S l) (some (i,ti)) (some (j,tj)) none).filterMap ((S l).cps[·]?)).toArray⟩)=Txt.slice (S l) (some i) (some j):=rfl
 show Value.str (Txt.slice (S l) (some i) (some j)) t'=_
 rw [e]
end
noncomputable def EVs (c:Cx) (k:Nat) (sc:Scope) (ρ:Loc):List Expr→St→(List V→St→Prop)→Prop
 | [],σ,Q=>Q [] σ
 | e::r,σ,Q=>EV c k e sc ρ σ fun v σ'=>EVs c k sc ρ r σ' fun vs σ''=>Q (v::vs) σ''
noncomputable def plainE (e:Expr):Bool:=!isStarred e
theorem starEach_plain {e:Expr} (h:plainE e=true) (r:List Expr) (env:Env):starEach (e::r) env=(false,eval e env)::starEach r env:=by
 cases e <;> first | rfl | cases h
theorem backTo_plain (p:Pos) (t:Sem Value) (r:List (Bool×Sem Value)):backTo p ((false,t)::r)=(false,t)::backTo p r:=rfl
theorem backTo_any (p:Pos):∀ {l:List Expr} {env:Env},l.all plainE=true→(backTo p (starEach l env)).any (·.1)=false
 | [],_,_=>rfl
 | e::r,env,h=>by
  rw [List.all_cons,Bool.and_eq_true] at h
  rw [starEach_plain h.1,backTo_plain,List.any_cons,backTo_any p h.2]
  rfl
theorem backTo_len (p:Pos) (l:List Expr) (env:Env):(backTo p (starEach l env)).length=l.length:=by
 unfold backTo
 rw [List.length_map]
 induction l with
 | nil=>rfl
 | cons e r ih=>cases e <;> exact congrArg (·+1) ih
section
variable {c:Cx} {k:Nat} {sc:Scope} {ρ:Loc}
theorem EVs.run {env:Env} {A:Around} (ok:EnvOk sc env) (rm:Room A k) (p:Pos):∀ {l:List Expr} {σ:St} {s:Shared} {Q:List V→St→Prop} {P:List Value→Shared→Prop},l.all plainE=true→EVs c k sc ρ l σ Q→Sim c σ s.heap→FrR env ρ σ s.heap →
  (∀ vs xs σ' h' t',VRs h' vs xs→xs.length=l.length→Sim c σ' h'→Step σ σ' s.heap h'→FrR env ρ σ' h'→Q xs σ'→P vs { s with heap:=h',toks:=t' }) →
  wpAny (model c.prog c.w) A (spliced (backTo p (starEach l env))) P (fun _ _=>False) s:=by
 intro l
 induction l with
 | nil=>exact fun _ h sm F go=>Calls.spliced_nil (go [] [] _ _ _ rfl rfl sm (Step.refl _ _) F h)
 | cons e r ih =>
  intro σ s Q P hp h sm F go
  rw [List.all_cons,Bool.and_eq_true] at hp
  rw [starEach_plain hp.1,backTo_plain]
  refine Calls.spliced_cons (EV.andThen h ok rm sm F fun v x σ₁ h₁ t₁ r₁ sm₁ st₁ F₁ q₁=>?_)
  refine ih (s:={ s with heap:=h₁,toks:=t₁ }) hp.2 q₁ sm₁ F₁ fun vs xs σ₂ h₂ t₂ r₂ hl sm₂ st₂ F₂ q₂=>?_
  exact go (v::vs) (x::xs) σ₂ h₂ t₂ (VRs.cons (r₁.keeps (sm₁.tups st₂)) r₂) (by rw [List.length_cons,List.length_cons,hl]) sm₂ (st₁.trans st₂) F₂ q₂
theorem EV.tuple {σ:St} {l:List Expr} {n:Nat} {p:Pos} {Q:V→St→Prop} (hp:l.all plainE=true) (hn:l.length≤sizeLine) (h:EVs c k sc ρ l σ fun vs σ'=>Q (.tup vs) σ'):EV c k (.Tuple l n p) sc ρ σ Q:=by
 intro env A s ok rm sm F
 refine Tuple_ (EVs.run ok rm p hp h sm F fun vs xs σ' h' t' r hl sm' st F' q=>?_)
 refine wpAny_before st ?_
 refine wpAny_newObj_type (PostV.newTup (s:={ s with heap:=h',toks:=t' }) sm' r q) ?_
 show vs.toArray.size≤sizeLine
 rw [List.size_toArray,r.length,hl]
 exact hn
theorem EV.list {σ:St} {l:List Expr} {p:Pos} {Q:V→St→Prop} (hp:l.all plainE=true) (hn:l.length≤sizeLine) (h:EVs c k sc ρ l σ fun vs σ'=>∀ m,σ' m=none→Q (.ref m) (upM σ' m (.list vs))):EV c k (.List l p) sc ρ σ Q:=by
 intro env A s ok rm sm F
 refine List_ (EVs.run ok rm p hp h sm F fun vs xs σ' h' t' r hl sm' st F' q=>?_)
 refine wpAny_before st ?_
 refine wpAny_newObj_type (PostV.newList (s:={ s with heap:=h',toks:=t' }) sm' r q) ?_
 show vs.toArray.size≤sizeLine
 rw [List.size_toArray,r.length,hl]
 exact hn
noncomputable def Kept (c:Cx) (f:Value):Prop:=∀ h:Heap,(∀ b o,c.h0.get? b=some o→h.get? b=some o)→∃ kk,(kk=Keeper.frame∨kk=Keeper.machine∨kk=Keeper.boundFrame)∧Looks (model c.prog c.w) h (keeperOf f) kk
theorem Kept.builtin {id:String}:Kept c (.builtin id):=fun _ _=>⟨.machine,.inr (.inl rfl),Looks.of_pure rfl⟩
theorem Kept.type {id:String}:Kept c (.type id):=fun _ _=>⟨.machine,.inr (.inl rfl),Looks.of_pure rfl⟩
theorem Kept.of (e:keepIn c.K f=true):Kept c f:=fun h kk=>by
 refine xi1 ?_ (looks_keep (M:=model c.prog c.w) e (c.k.keeps kk))
 intro k
 refine im2 ?_
 intro a b
 exact xc1_2 k (a.elim .inl fun z=>.inr (.inl z)) b
theorem evalArgs_any {M:Model} {A:Around} {E:Value→Shared→Prop} {s:Shared} {f:Value} {l:List Expr} {env:Env} {p:Pos} {P:Args→Shared→Prop} (hp:l.all plainE=true)
  (h:wpAny M A (spliced (backTo p (starEach l env))) (fun vs s'=>P ⟨vs,[]⟩ s') E s):wpAny M A (evalArgs f true (backTo p (starEach l env)) []) P E s:=by
 cases l with
 | nil =>
  unfold evalArgs
  show wpAny M A (spliced [] >>= _) P E s
  refine wpAny_bind (wpAny_mono h (fun vs s' h'=>?_) fun _ _ x=>x)
  refine wpAny_bind (wpAny_pure ?_)
  refine wpAny_holding ?_
  exact wpAny_bind (wpAny_pure (wpAny_bind (wpAny_pure (wpAny_pure h'))))
 | cons e r =>
  rw [List.all_cons,Bool.and_eq_true] at hp
  rw [starEach_plain hp.1,backTo_plain] at h ⊢
  exact Calls.evalArgs_plain h
theorem callWith_any {env:Env} {A:Around} (ok:EnvOk sc env) (rm:Room A k) {p:Pos} {f:Value} {first:List Value} {xf:List V} {l:List Expr} {σ:St} {s:Shared} {Q:V→St→Prop} (hp:l.all plainE=true) (hk:Kept c f)
  (h:EVs c k sc ρ l σ fun vs σ'=>CallW c k f (xf++vs) σ' Q) (rf:VRs s.heap first xf) (sm:Sim c σ s.heap) (F:FrR env ρ σ s.heap) :
  wpAny (model c.prog c.w) A (callWith p f first (backTo p (starEach l env)) []) (PostV c σ s Q) (fun _ _=>False) s:=by
 refine callWith_of (P:=fun h=>∀ b o,c.h0.get? b=some o→h.get? b=some o) (by rw [backTo_any p hp]; rfl) hk ?_
 refine evalArgs_any hp (EVs.run ok rm p hp h sm F fun vs xs σ' h' t' r hl sm' st F' q=>⟨sm'.keep,?_⟩)
 exact wpAny_before st (q A { s with heap:=h',toks:=t' } _ rm sm' ((rf.keeps (sm.tups st)).append r))
theorem eval_Call_plain {f:Expr} (hf:∃ x q,f=.Name x q) (l:List Expr) (p:Pos) (env:Env):eval (.Call f l [] p) env=(do callWith p (← eval f env) [] (backTo p (starEach l env)) (backToKw p (keywordEach [] env))):=by
 obtain ⟨x,q,rfl⟩:=hf; rfl
theorem EV.call {σ:St} {f:Expr} {l:List Expr} {p:Pos} {Q:V→St→Prop} (hf:∃ x q,f=.Name x q) (hp:l.all plainE=true) (h:EV c k f sc ρ σ fun v σ'=>∃ u,v=.stat u∧Kept c u∧EVs c k sc ρ l σ' fun vs σ''=>CallW c k u vs σ'' Q):EV c k (.Call f l [] p) sc ρ σ Q:=by
 intro env A s ok rm sm F
 rw [eval_Call_plain hf]
 refine wpAny_bind (h.andThen ok rm sm F fun va a σ₁ h₁ t₁ ra sm₁ st₁ F₁ q₁=>?_)
 refine xi1 ?_ (q₁)
 intro u
 refine im3 ?_
 intro hq227
 obtain rfl:=hq227
 intro hk q₁
 rw [show va=u from ra]
 exact wpAny_before st₁ (callWith_any (s:={ s with heap:=h₁,toks:=t₁ }) (first:=[]) (xf:=[]) ok rm hp hk q₁ rfl sm₁ F₁)
noncomputable def MethR (c:Cx) (k:Nat) (name:Str) (o:V) (σ:St) (f:Value):Prop :=
 Kept c f∧∀ A s vo pl (P:Value×List Value→Shared→Prop) E,Room A k→Sim c σ s.heap→VR s.heap vo o→P (f,[vo]) s→wpAny (model c.prog c.w) A (getMethod vo name pl) P E s
theorem EV.meth {σ:St} {o:Expr} {name:Str} {l:List Expr} {p ap:Pos} {Q:V→St→Prop} (hb:∀ env w,attributeBase o name env w=w) (hl:(ap.endLine==p.line)=true) (hp:l.all plainE=true) (hn:l.length < 29)
  (h:EV c k o sc ρ σ fun v σ'=>∃ f,MethR c k name v σ' f∧EVs c k sc ρ l σ' fun vs σ''=>CallW c k f (v::vs) σ'' Q):EV c k (.Call (.Attribute o name ap) l [] p) sc ρ σ Q:=by
 revert hb hl hp hn h
 revert c; revert k; revert sc; revert ρ; revert σ; revert Q; revert o name l p ap
 walk_at "close 11"
 intro o name l p ap Q σ ρ sc k c hb hl hp hn h
 intro env A s ok rm sm F
 have hform:methodCallForm (l.length+([]:List Keyword).length) (backTo p (starEach l env)) (backToKw p (keywordEach [] env))=true:=by
  unfold methodCallForm
  have h1:(backTo p (starEach l env)).all (!·.1)=true:=by
   have:=backTo_any (env:=env) p hp
   rw [List.any_eq_false] at this
   rw [List.all_eq_true]
   intro x hx
   have:=this x hx
   simpa using this
  rw [h1]
  show _=true
  rw [show backToKw p (keywordEach [] env)=[] from rfl]
  simp
  exact ar513 hn
 have hpos:methodCallPos true o env ap p=pure p:=by unfold methodCallPos; simp [hl]
 have e0:eval (.Call (.Attribute o name ap) l [] p) env=(do
  let ov ← attributeBase o name env (eval o env)
  standAt ap.atName
  methodCall o name ap p env ov (l.length+([]:List Keyword).length) (backTo p (starEach l env)) (backToKw p (keywordEach [] env))):=rfl
 rw [e0,hb]
 refine wpAny_bind (h.andThen ok rm sm F fun va a σ₁ h₁ t₁ ra sm₁ st₁ F₁ q₁=>?_)
 refine xi1 ?_ (q₁)
 intro f
 refine im2 ?_
 refine im2 ?_
 intro hk hm q₁
 refine wpAny_bind (wpAny_standAt ?_)
 unfold methodCall
 rw [hform]
 refine wpAny_bind (wpAny_holding ?_)
 refine hm A { s with heap:=h₁,toks:=t₁ } va _ _ _ rm sm₁ ra ?_
 refine wpAny_bind ?_
 rw [hpos]
 refine wpAny_pure ?_
 exact wpAny_before st₁ (callWith_any (s:={ s with heap:=h₁,toks:=t₁ }) (first:=[va]) (xf:=[a]) ok rm hp hk q₁ (VRs.cons ra rfl) sm₁ F₁)
end
section
variable {c:Cx} {k:Nat} {σ:St} {Q:V→St→Prop}
theorem VRs.one {h:Heap} {vals:List Value} {x:V} (r:VRs h vals [x]):∃ v,vals=[v]∧VR h v x:=by
 refine xi2 ?_ (r)
 intro v l
 refine im3 ?_
 intro hq228
 obtain rfl:=hq228
 intro a b
 rw [show l=[] from b]
 exact xc1_2 v rfl a
theorem VRs.two {h:Heap} {vals:List Value} {x y:V} (r:VRs h vals [x,y]):∃ v u,vals=[v,u]∧VR h v x∧VR h u y:=by
 revert r
 revert h vals x y
 walk_at "close 4"
 intro h vals x y r
 refine xi2 ?_ (r)
 intro v l
 refine im3 ?_
 intro hq229
 obtain rfl:=hq229
 intro a b
 refine xi1 ?_ (b.one)
 intro u
 refine im2 ?_
 intro hq230
 obtain rfl:=hq230
 intro q
 exact xc2_3 v u rfl a q
theorem CallW.lenList {l:Addr} {vs:List V} (e:σ l=some (.list vs)∨σ l=some (.frozen vs)) (hf:(vs.length:Int) < 2 ^ 63) (q:Q (.int vs.length) σ):CallW c k (.builtin "len") [.ref l] σ Q:=by
 intro A s vals rm sm r
 refine xi1 ?_ (r.one)
 intro _
 refine im2 ?_
 intro hq231
 obtain rfl:=hq231
 intro hq232
 obtain rfl:=hq232
 refine xi2 ?_ (sm.list e)
 intro its n
 refine im2 ?_
 intro g r
 refine Calls.call_len_list (IsL_of g) (by simpa [r.length] using hf) ?_
 exact PostV.tok (x:=.int vs.length) sm ⟨s.toks+1,by simp [r.length]⟩ q
theorem CallW.lenTup {vs:List V} (hf:(vs.length:Int) < 2 ^ 63) (q:Q (.int vs.length) σ):CallW c k (.builtin "len") [.tup vs] σ Q:=by
 intro A s vals rm sm r
 refine xi1 ?_ (r.one)
 intro _
 refine im2 ?_
 intro hq233
 obtain rfl:=hq233
 refine xi3 ?_
 intro a its n
 refine im3 ?_
 intro hq234
 obtain rfl:=hq234
 intro g r
 refine P.len_tuple g (by simp [r.length]; exact ar514 hf) ?_
 exact PostV.tok (x:=.int vs.length) sm ⟨s.toks+1,by simp [r.length]⟩ q
theorem CallW.lenStr {l:List Nat} (hf:(l.length:Int) < 2 ^ 63) (q:Q (.int l.length) σ):CallW c k (.builtin "len") [.str l] σ Q:=by
 intro A s vals rm sm r
 refine xi1 ?_ (r.one)
 intro _
 refine im2 ?_
 intro hq235
 obtain rfl:=hq235
 refine xi1 ?_
 intro t hq236
 obtain rfl:=hq236
 refine PyProof.Rows.len_str (by simp [Str.length]; exact ar514 hf) ?_
 exact PostV.tok (x:=.int l.length) sm ⟨s.toks+1,by simp [Str.length]⟩ q
theorem CallW.absInt {i:Int} (q:Q (.int (if i < 0 then -i else i)) σ):CallW c k (.builtin "abs") [.int i] σ Q:=by
 intro A s vals rm sm r
 refine xi1 ?_ (r.one)
 intro _
 refine im2 ?_
 intro hq237
 obtain rfl:=hq237
 refine xi1 ?_
 intro t hq238
 obtain rfl:=hq238
 exact call_abs_int fun u tk=>PostV.tok (x:=.int _) sm ⟨u,rfl⟩ q
theorem CallW.intInt {i:Int} (q:Q (.int i) σ):CallW c k (.type "int") [.int i] σ Q:=by
 intro A s vals rm sm r
 refine xi1 ?_ (r.one)
 intro _
 refine im2 ?_
 intro hq239
 obtain rfl:=hq239
 refine xi1 ?_
 intro t hq240
 obtain rfl:=hq240
 exact call_int_int (PostV.here (x:=.int _) sm ⟨t,rfl⟩ q)
theorem CallW.intStr {l:List Nat} {i:Int} (hn:PySem.intText? (S l)=some i) (hl:l.length≤640) (q:Q (.int i) σ):CallW c k (.type "int") [.str l] σ Q:=by
 intro A s vals rm sm r
 refine xi1 ?_ (r.one)
 intro _
 refine im2 ?_
 intro hq241
 obtain rfl:=hq241
 refine xi1 ?_
 intro t hq242
 obtain rfl:=hq242
 exact KIN.call_text hn (by simpa [Str.length] using hl) (PostV.tok (x:=.int _) sm ⟨_,rfl⟩ q)
theorem CallW.strInt {i:Int} (hi:i.natAbs.log2 < 1920) (q:Q (.str (Str.ofString (toString i)).cps.toList) σ):CallW c k (.type "str") [.int i] σ Q:=by
 intro A s vals rm sm r
 refine xi1 ?_ (r.one)
 intro _
 refine im2 ?_
 intro hq243
 obtain rfl:=hq243
 refine xi1 ?_
 intro t hq244
 obtain rfl:=hq244
 exact P.str_of_int hi (PostV.tok (x:=.str _) sm ⟨_,by rw [S_cps]⟩ q)
theorem CallW.tupList {l:Addr} {vs:List V} (e:σ l=some (.list vs)∨σ l=some (.frozen vs)) (hf:vs.length≤sizeLine) (q:Q (.tup vs) σ):CallW c k (.type "tuple") [.ref l] σ Q:=by
 intro A s vals rm sm r
 refine xi1 ?_ (r.one)
 intro _
 refine im2 ?_
 intro hq245
 obtain rfl:=hq245
 intro hq246
 obtain rfl:=hq246
 refine xi2 ?_ (sm.list e)
 intro its n
 refine im2 ?_
 intro g r
 refine call_tuple_list (IsL_of g) (fun h' hk=>?_) (by simpa [r.length] using hf)
 have sm':Sim c σ h':=⟨fun b o e=>hk b o (sm.keep b o e),fun a x e=>(sm.rep a x e).keep (fun o z=>hk a o z) fun a i n z=>hk a _ z,sm.new⟩
 have st':Step σ σ s.heap h':=⟨fun b o e _=>hk b o e,fun _ e=>.inl e⟩
 have:=PostV.newTup (s:={ s with heap:=h' }) (t':=s.toks) (Q:=Q) sm' (r.keeps fun a i n z=>hk a _ z) q
 exact this.before (h₁:=h') (t₁:=s.toks) st'
theorem keep_all {s:Shared} {h':Heap} (sm:Sim c σ s.heap) (hk:∀ b o,s.heap.get? b=some o→h'.get? b=some o):Sim c σ h'∧Step σ σ s.heap h'∧TupKeep s.heap h' :=
 ⟨⟨fun b o e=>hk b o (sm.keep b o e),fun a x e=>(sm.rep a x e).keep (fun o z=>hk a o z) fun a i n z=>hk a _ z,sm.new⟩,⟨fun b o e _=>hk b o e,fun _ e=>.inl e⟩,fun a i n z=>hk a _ z⟩
theorem PostV.grownList {s:Shared} {D:Addr} {h':Heap} {items:List Value} {n t':Nat} {vs:List V} (sm:Sim c σ s.heap) (hk:∀ b o,s.heap.get? b=some o→h'.get? b=some o) (hD:s.heap.get? D=none) (g:h'.get? D=some (listO items n))
  (r:VRs s.heap items vs) (q:∀ m,σ m=none→Q (.ref m) (upM σ m (.list vs))):PostV c σ s Q (.ref D) { s with heap:=h',toks:=t' }:=by
 revert sm hk hD g r q
 revert c; revert σ; revert s; revert Q; revert n; revert D h' items t' vs
 walk_at "close 10"
 intro D h' items t' vs n Q s σ c sm hk hD g r q
 refine im3 ?_ (keep_all sm hk)
 intro sm' st' tk
 have hn:=sm.fresh hD
 refine xc4_1 (.ref D) (upM σ D (.list vs)) h' t' (xc0_5 rfl rfl ?_ ?_ (q D hn))
 ·refine ⟨sm'.keep,fun a y e=>?_,fun a e=>?_⟩
  ·unfold upM at e
   split at e
   ·rename_i z; subst z; cases e; exact ⟨items,n,g,r.keeps tk⟩
   ·exact sm'.rep a y e
  ·rw [mutAt_upd] at e
   split at e
   ·rename_i z
    subst z
    cases w:c.h0.get? a with
    | none=>rfl
    | some o'=>have:=sm.keep _ _ w; rw [hD] at this; cases this
   ·exact sm.new a e
 ·refine ⟨st'.keep,fun a e=>?_⟩
  rw [mutAt_upd] at e
  split at e
  ·rename_i z; subst z; exact .inr hD
  ·exact .inl e
theorem CallW.listTup {vs:List V} (hf:vs.length≤sizeLine) (q:∀ m,σ m=none→Q (.ref m) (upM σ m (.list vs))):CallW c k (.type "list") [.tup vs] σ Q:=by
 revert hf q
 revert c; revert k; revert σ; revert Q; revert vs
 walk_at "close 5"
 intro vs Q σ k c hf q
 intro A s vals rm sm r
 refine xi1 ?_ (r.one)
 intro _
 refine im2 ?_
 intro hq247
 obtain rfl:=hq247
 refine xi3 ?_
 intro a its n
 refine im3 ?_
 intro hq248
 obtain rfl:=hq248
 intro g r
 refine call_list_seq (hsz:=by simpa [r.length] using hf) a (.inr rfl) g rfl rfl fun h' c' hk hD=>?_
 exact PostV.grownList (items:=its) (n:=c') (t':=s.toks) sm hk (get_size_none _) (by simpa using hD) r q
theorem CallW.append {l:Addr} {vs:List V} {x:V} (e:σ l=some (.list vs)) (hf:vs.length < sizeLine) (q:Q .none (upM σ l (.list (vs++[x])))):CallW c k (.builtin "list.append") [.ref l,x] σ Q:=by
 intro A s vals rm sm r
 refine xi2 ?_ (r.two)
 intro _ u
 refine im3 ?_
 intro hq249
 obtain rfl:=hq249
 intro hq250
 obtain rfl:=hq250
 intro ru
 refine xi2 ?_ (sm.rep l _ e)
 intro its n
 refine im2 ?_
 intro g r
 have hz:its.toArray.size≤sizeLine:=by simp [r.length]; exact ar341 hf
 refine call_meets F.slot_list_append ⟨_,g,rfl⟩ F.entry_list_append (F.args_list_append_2 _ _) (list_append l its.toArray n u hz) ⟨g,?_⟩
 have m:=mutAt_list e
 have hs:=Heap.SameBut.update s.heap l (Obj.mapSeq fun z=>z.push u)
 have g':(s.heap.update l (Obj.mapSeq fun z=>z.push u)).get? l=some (listO (its++[u]) (n+1)):=by
  have:=IsL.update g (fun z=>z.push u)
  simpa [IsL] using this
 have tk:TupKeep s.heap (s.heap.update l (Obj.mapSeq fun z=>z.push u)):=tup_same hs g (by simp)
 exact PostV.now (x:=.none) (sm.update m hs (x:=.list (vs++[x])) ⟨_,_,g',(r.keeps tk).append (VRs.cons (ru.keeps tk) rfl)⟩) (Step.update _ m hs) rfl q
theorem Sim.type_list {h:Heap} {l:Addr} {vs:List V} (sm:Sim c σ h) (e:σ l=some (.list vs)∨σ l=some (.frozen vs)):∃ o,h.get? l=some o∧o.cls=.type "list"∧o.dict=none:=by
 refine xi2 ?_ (sm.list e)
 intro its n
 refine im2 ?_
 intro g _
 exact xc1_3 _ g rfl rfl
theorem MethR.listOf {l:Addr} {vs:List V} {name:Str} {id:String} (slot:Slot "list" name id) (hty:typeOf (.builtin id)=pure (.type "method_descriptor")) (e:σ l=some (.list vs)∨σ l=some (.frozen vs)):MethR c k name (.ref l) σ (.builtin id):=by
 refine ⟨Kept.builtin,?_⟩
 rintro A s _ pl P E rm sm rfl h
 refine xi1 ?_ (sm.type_list e)
 intro o
 refine im3 ?_
 intro g hc hd
 exact getMethod_builtin ⟨_,g,hc⟩ F.plainAttrs_list slot hty (fun a z=>by cases z; exact ⟨_,g,hd⟩) h
theorem MethR.append {l:Addr} {vs:List V} (e:σ l=some (.list vs)∨σ l=some (.frozen vs)):MethR c k "append" (.ref l) σ (.builtin "list.append"):=MethR.listOf F.slot_list_append F.type_list_append e
theorem MethR.index {l:Addr} {vs:List V} (e:σ l=some (.list vs)∨σ l=some (.frozen vs)):MethR c k "index" (.ref l) σ (.builtin "list.index"):=MethR.listOf F.slot_list_index F.type_list_index e
set_option maxRecDepth 100000 in
theorem MethR.strOf {l:List Nat} {name:Str} {id:String} (slot:Slot "str" name id) (hty:typeOf (.builtin id)=pure (.type "method_descriptor")):MethR c k name (.str l) σ (.builtin id):=by
 refine ⟨Kept.builtin,?_⟩
 intro A s _ pl P E rm sm
 refine xi1 ?_
 intro t hq251
 obtain rfl:=hq251
 intro h
 exact getMethod_builtin (typeIs_str _ _ _) F.plainAttrs_str slot hty (fun _ z=>nomatch z) h
theorem MethR.join {l:List Nat}:MethR c k "join" (.str l) σ (.builtin "str.join"):=MethR.strOf F.slot_str_join F.type_str_join
theorem MethR.split {l:List Nat}:MethR c k "split" (.str l) σ (.builtin "str.split"):=MethR.strOf F.slot_str_split F.type_str_split
noncomputable def strVs (ls:List (List Nat)):List V:=ls.map .str
theorem strs_of {h:Heap}:∀ {ls:List (List Nat)} {its:List Value},VRs h its (strVs ls)→∃ l:List (Str×Tok),strValues l=its∧l.map (·.1)=ls.map S
 | [],its,r=>by rw [show its=[] from r]; exact ⟨[],rfl,rfl⟩
 | x::xs,its,r=>by
  refine xi2 ?_ (r)
  intro v l
  refine im3 ?_
  intro hq252
  obtain rfl:=hq252
  refine xi1 ?_
  intro t hq253
  obtain rfl:=hq253
  intro b
  refine xi1 ?_ (strs_of (ls:=xs) b)
  intro l'
  refine im2 ?_
  intro e1 e2
  exact xc1_2 ((S x,t)::l') (by rw [← e1]; rfl) (by simp [e2])
noncomputable def joinL (sep:List Nat):List (List Nat)→List Nat
 | []=>[]
 | [x]=>x
 | x::y::r=>x++sep++joinL sep (y::r)
theorem join_S (sep:List Nat):∀ ls:List (List Nat),Str.join (S sep) (ls.map S)=S (joinL sep ls)
 | []=>rfl
 | [x]=>rfl
 | x::y::r=>by
  have:=join_S sep (y::r)
  show S x++S sep++Str.join (S sep) ((y::r).map S)=_
  rw [this,S_append,S_append]
  rfl
theorem txt_join (sep:List Nat) (ls:List (List Nat)):Txt.join (S sep) (ls.map S)=S (joinL sep ls):=by
 show Builtin.Str.glued _ _=_
 rw [StrLaws.glued_eq_join,join_S]
theorem sum_S (ls:List (List Nat)):((ls.map S).map (·.length)).sum=(ls.map List.length).sum:=by
 induction ls with
 | nil=>rfl
 | cons x r ih=>rw [List.map_cons,List.map_cons,List.sum_cons,List.map_cons,List.sum_cons,ih]; simp [Str.length]
theorem joinOk_of {sep:List Nat} {ls:List (List Nat)} (h:(ls.map List.length).sum+ls.length * sep.length≤sizeLine):Builtin.Str.tooLong ((ls.map S).toArray.foldl (·+·.length+(S sep).length) 0)=false:=by
 rw [StrLaws.joinTotal,sum_S,List.length_map]
 unfold Builtin.Str.tooLong
 refine decide_eq_false (Nat.not_lt.mpr ?_)
 have e2:(S sep).length=sep.length:=by simp [Str.length]
 rw [e2]
 exact h
theorem CallW.joinList {sep:List Nat} {ls:List (List Nat)} {l:Addr} (e:σ l=some (.list (strVs ls))∨σ l=some (.frozen (strVs ls))) (hf:(ls.map List.length).sum+ls.length * sep.length≤sizeLine) (q:Q (.str (joinL sep ls)) σ):CallW c k (.builtin "str.join") [.str sep,.ref l] σ Q:=by
 revert e hf q
 revert c; revert k; revert σ; revert Q; revert sep ls l
 walk_at "close 7"
 intro sep ls l Q σ k c e hf q
 intro A s vals rm sm r
 refine xi2 ?_ (r.two)
 intro _ _
 refine im3 ?_
 intro hq254
 obtain rfl:=hq254
 refine xi1 ?_
 intro t hq255
 obtain rfl:=hq255
 intro hq256
 obtain rfl:=hq256
 refine xi2 ?_ (sm.list e)
 intro its n
 refine im2 ?_
 intro g r
 refine xi1 ?_ (strs_of r)
 intro l'
 refine im2 ?_
 intro hq257
 obtain rfl:=hq257
 intro e2
 refine SC.join (IsL_of g) e2 (by unfold JoinOk; rw [joinOk_of hf]; rfl) fun t' k'=>?_
 rw [txt_join]
 exact PostV.tok (x:=.str _) sm ⟨t',rfl⟩ q
theorem CallW.joinTup {sep:List Nat} {ls:List (List Nat)} (hf:(ls.map List.length).sum+ls.length * sep.length≤sizeLine) (q:Q (.str (joinL sep ls)) σ):CallW c k (.builtin "str.join") [.str sep,.tup (strVs ls)] σ Q:=by
 revert hf q
 revert c; revert k; revert σ; revert Q; revert sep ls
 walk_at "close 6"
 intro sep ls Q σ k c hf q
 intro A s vals rm sm r
 refine xi2 ?_ (r.two)
 intro _ _
 refine im3 ?_
 intro hq258
 obtain rfl:=hq258
 refine xi1 ?_
 intro t hq259
 obtain rfl:=hq259
 refine xi3 ?_
 intro a its n
 refine im3 ?_
 intro hq260
 obtain rfl:=hq260
 intro g r
 refine xi1 ?_ (strs_of r)
 intro l'
 refine im2 ?_
 intro hq261
 obtain rfl:=hq261
 intro e2
 have hok:Builtin.Str.tooLong ((l'.map (·.1)).toArray.foldl (·+·.length+(S sep).length) 0)=false:=by rw [e2]; exact joinOk_of hf
 refine call_meets F.slot_str_join (typeIs_str _ _ _) F.entry_str_join (F.args_str_join_2 _ _) (meets_str_join_tuple (S sep) t a l' hok) ⟨⟨_,_,g,rfl,rfl⟩,?_⟩
 refine post_join l' ⟨joinFit_length hok,fun t' k'=>?_⟩
 rw [e2,txt_join]
 exact PostV.tok (x:=.str _) sm ⟨t',rfl⟩ q
noncomputable def wordsL (l:List Nat):List (List Nat):=(Txt.words (S l)).map (·.cps.toList)
theorem CallW.split {l:List Nat} (hf:l.length≤sizeLine) (hw:(Builtin.Str.spaceWords (S l) ((S l).length+1)).length≤sizeLine) (q:∀ m,σ m=none→Q (.ref m) (upM σ m (.list (strVs (wordsL l))))):CallW c k (.builtin "str.split") [.str l] σ Q:=by
 intro A s vals rm sm r
 refine xi1 ?_ (r.one)
 intro _
 refine im2 ?_
 intro hq262
 obtain rfl:=hq262
 refine xi1 ?_
 intro t hq263
 obtain rfl:=hq263
 refine call_meets F.slot_str_split (typeIs_str _ _ _) F.entry_str_split (F.args_str_split_1 _) (meets_str_split_space (S l) t (by simpa [Str.length] using hf) hw) ?_
 have fin:∀ (ps:List (Str×Tok)) (t':Nat),ps.map (·.1)=Txt.words (S l)→PostV c σ s Q (.ref s.heap.objs.size) { s with heap:=s.heap.push (listO (strValues ps) 0),toks:=t' }:=by
  intro ps t' e
  refine PostV.newList sm ?_ q
  unfold wordsL strVs
  rw [← e]
  clear e
  induction ps with
  | nil=>rfl
  | cons p r ih=>exact VRs.cons ⟨p.2,by rw [S_cps]⟩ ih
 cases hw:Builtin.Str.spaceWords (S l) ((S l).length+1)==[(0,(S l).length)]
 ·simp only [Bool.false_eq_true,if_false]
  rw [strsFrom_eq]
  exact fin (numbered s.toks (PySem.wordsOf (S l))) _ ((numbered_texts _ _).trans (if_neg (ne_true_of_eq_false hw)).symm)
 ·simp only [if_true]
  exact fin [(S l,t)] s.toks (if_pos hw).symm
end
noncomputable def OwnA (env:Env) (b:Addr):Prop:=b=env.locals∨∃ x,env.cells.lookup x=some b
structure Fresh (c:Cx) (env:Env):Prop where
 no:∀ b,OwnA env b→c.h0.get? b=none
 cells:∀ x,env.kindOf x=some .cell→∃ cl,env.cells.lookup x=some cl
structure StepF (env:Env) (σ σ':St) (h h':Heap):Prop where
 keep:∀ b o,h.get? b=some o→mutAt σ b=false→¬ OwnA env b→h'.get? b=some o
 new:∀ a,mutAt σ' a=true→mutAt σ a=true∨h.get? a=none
 own:∀ b o,h.get? b=some o→OwnA env b→∃ o',h'.get? b=some o'
 tups:TupKeep h h'
section
variable {c:Cx} {k:Nat} {sc:Scope} {env:Env} {ρ:Loc} {σ:St}
theorem FrR.ownGet {h:Heap} (F:FrR env ρ σ h) {b:Addr} (e:OwnA env b):∃ o,h.get? b=some o∧mutAt σ b=false∧((∃ es ep,o.data=.dict es ep)∨∃ v,o.data=.cell v):=by
 revert F e
 revert env; revert ρ; revert σ; revert h b
 walk_at "close 5"
 intro h b σ ρ env F e
 rcases e with rfl | ⟨x,hx⟩
 ·refine xi1 ?_ (F.ns)
  intro m
  refine im2 ?_
  refine xi3 ?_
  intro o es ep
  refine im3 ?_
  intro ho hd _ _
  exact xc1_3 o ho F.offL (.inl ⟨es,ep,hd⟩)
 ·refine xi1 ?_ (F.cell x b hx)
  intro ov
  refine im2 ?_
  refine xi1 ?_
  intro o
  refine im2 ?_
  intro ho hd _
  exact xc1_3 o ho (F.offC x b hx) (.inr ⟨_,hd⟩)
theorem Step.toF {σ':St} {h h':Heap} (F:FrR env ρ σ h) (sm:Sim c σ h) (st:Step σ σ' h h'):StepF env σ σ' h h' :=
 ⟨fun b o e m _=>st.keep b o e m,st.new,fun b o e ow=>by
  refine xi1 ?_ (F.ownGet ow)
  intro o'
  refine im3 ?_
  intro e' m _
  exact ⟨_,st.keep _ _ e' m⟩,sm.tups st⟩
theorem StepF.refl {h:Heap}:StepF env σ σ h h:=⟨fun _ _ e _ _=>e,fun _ e=>.inl e,fun _ o e _=>⟨o,e⟩,fun _ _ _ e=>e⟩
theorem StepF.trans {σ₁ σ₂:St} {h h₁ h₂:Heap} (x:StepF env σ σ₁ h h₁) (y:StepF env σ₁ σ₂ h₁ h₂):StepF env σ σ₂ h h₂:=by
 refine ⟨fun b o e m n=>y.keep b o (x.keep b o e m n) ?_ n,fun a e=>?_,fun b o e n=>?_,fun a i n e=>y.tups _ _ _ (x.tups _ _ _ e)⟩
 ·cases q:mutAt σ₁ b with
  | false=>rfl
  | true =>
   rcases x.new b q with h1 | h1
   ·rw [m] at h1
    cases h1
   ·rw [e] at h1
    cases h1
 ·rcases y.new a e with h1 | h1
  ·exact x.new a h1
  ·cases q:h.get? a with
   | none=>exact .inr rfl
   | some o =>
    cases m:mutAt σ a with
    | true=>exact .inl rfl
    | false =>
     by_cases ow:OwnA env a
     ·refine xi1 ?_ (x.own _ _ q ow)
      intro o' e'
      rw [h1] at e'
      cases e'
     ·rw [x.keep a o q m ow] at h1
      cases h1
 ·refine xi1 ?_ (x.own _ _ e n)
  intro o' e'
  exact y.own _ _ e' n
theorem get_same {a b:Addr} {h h':Heap} (hs:Heap.SameBut a h h') (n:b≠a):h'.get? b=h.get? b:=hs.2 b n
theorem Sim.ownSame {h h':Heap} {a:Addr} (sm:Sim c σ h) (F:FrR env ρ σ h) (fr:Fresh c env) (ow:OwnA env a) (hs:Heap.SameBut a h h') (lv:∃ o,h'.get? a=some o):Sim c σ h'∧StepF env σ σ h h':=by
 refine xi1 ?_ (F.ownGet ow)
 intro o
 refine im3 ?_
 intro ho hm hd
 have tk:TupKeep h h':=fun b items n e=>by
  by_cases q:b=a
  ·subst q
   rw [ho] at e
   cases e
   rcases hd with ⟨_,_,z⟩ | ⟨_,z⟩ <;> cases z
  ·rw [get_same hs q]
   exact e
 refine ⟨⟨fun b o' e=>?_,fun b x e=>?_,sm.new⟩,⟨fun b o' e _ n=>?_,fun _ e=>.inl e,fun b o' e n=>?_,tk⟩⟩
 ·rw [get_same hs]
  ·exact sm.keep _ _ e
  ·rintro rfl
   rw [fr.no _ ow] at e
   cases e
 ·have r:=sm.rep b x e
  have q:b≠a:=by
   rintro rfl
   cases x with
   | list vs=>unfold mutAt at hm; rw [e] at hm; cases hm
   | dict vs=>unfold mutAt at hm; rw [e] at hm; cases hm
   | inst C d=>have z:h.get? b=_:=r; rw [ho] at z; cases z; rcases hd with ⟨_,_,z⟩ | ⟨_,z⟩ <;> cases z
   | frozen vs=>obtain ⟨_,_,z,_⟩:=r; rw [ho] at z; cases z; rcases hd with ⟨_,_,z⟩ | ⟨_,z⟩ <;> cases z
  exact r.keep (fun o z=>by rw [get_same hs q]; exact z) tk
 ·rw [get_same hs]
  ·exact e
  ·rintro rfl
   exact n ow
 ·by_cases q:b=a
  ·subst q
   exact lv
  ·exact xc1_1 o' (by rw [get_same hs q]; exact e)
noncomputable def PostL (c:Cx) (env:Env) (σ:St) (s:Shared) (N:Loc→St→Prop) (s':Shared):Prop :=
 ∃ ρ' σ' h' t',s'={ s with heap:=h',toks:=t' }∧Sim c σ' h'∧StepF env σ σ' s.heap h'∧FrR env ρ' σ' h'∧N ρ' σ'
noncomputable def PostX (c:Cx) (env:Env) (σ:St) (s:Shared) (N:Loc→St→Prop) (R:V→St→Prop) (f:Flow) (s':Shared):Prop :=
 ∃ ρ' σ' h' t',s'={ s with heap:=h',toks:=t' }∧Sim c σ' h'∧StepF env σ σ' s.heap h'∧FrR env ρ' σ' h'∧(match f with | .next=>N ρ' σ' | .ret v=>∃ x,VR h' v x∧R x σ' | _=>False)
theorem PostL.before {σ₁:St} {s:Shared} {h₁:Heap} {t₁:Nat} {N:Loc→St→Prop} (st:StepF env σ σ₁ s.heap h₁) {s':Shared} (p:PostL c env σ₁ { s with heap:=h₁,toks:=t₁ } N s'):PostL c env σ s N s':=by
 revert st p
 revert c; revert env; revert σ; revert s; revert N; revert σ₁ h₁ t₁ s'
 walk_at "close 9"
 intro σ₁ h₁ t₁ s' N s σ env c st p
 refine xi4 ?_ (p)
 intro ρ' σ' h' t'
 refine im5 ?_
 intro e sm st' F q
 exact xc4_1 ρ' σ' h' t' (xc0_5 e sm (st.trans st') F q)
theorem PostX.before {σ₁:St} {s:Shared} {h₁:Heap} {t₁:Nat} {N:Loc→St→Prop} {R:V→St→Prop} (st:StepF env σ σ₁ s.heap h₁) {f:Flow} {s':Shared} (p:PostX c env σ₁ { s with heap:=h₁,toks:=t₁ } N R f s'):PostX c env σ s N R f s':=by
 revert st p
 revert c; revert env; revert σ; revert s; revert N; revert R; revert σ₁ h₁ t₁ f s'
 walk_at "close 11"
 intro σ₁ h₁ t₁ f s' R N s σ env c st p
 refine xi4 ?_ (p)
 intro ρ' σ' h' t'
 refine im5 ?_
 intro e sm st' F q
 exact xc4_1 ρ' σ' h' t' (xc0_5 e sm (st.trans st') F q)
noncomputable def SV (c:Cx) (k:Nat) (st:Stmt) (sc:Scope) (ρ:Loc) (σ:St) (N:Loc→St→Prop) (R:V→St→Prop):Prop :=
 ∀ env A s,EnvOk sc env→Fresh c env→Room A k→Sim c σ s.heap→FrR env ρ σ s.heap→wpAny (model c.prog c.w) A (exec st env) (PostX c env σ s N R) (fun _ _=>False) s
noncomputable def XV (c:Cx) (k:Nat) (b:List Stmt) (sc:Scope) (ρ:Loc) (σ:St) (N:Loc→St→Prop) (R:V→St→Prop):Prop :=
 ∀ env A s,EnvOk sc env→Fresh c env→Room A k→Sim c σ s.heap→FrR env ρ σ s.heap→wpAny (model c.prog c.w) A (execs b env) (PostX c env σ s N R) (fun _ _=>False) s
noncomputable def TgV (c:Cx) (k:Nat) (t:Expr) (sc:Scope) (ρ:Loc) (σ:St) (x:V) (N:Loc→St→Prop):Prop :=
 ∀ env A s v,EnvOk sc env→Fresh c env→Room A k→Sim c σ s.heap→FrR env ρ σ s.heap→VR s.heap v x→wpAny (model c.prog c.w) A (assign t env v) (fun _=>PostL c env σ s N) (fun _ _=>False) s
variable {N:Loc→St→Prop} {R:V→St→Prop}
theorem PostX.mono {s:Shared} {N':Loc→St→Prop} {R':V→St→Prop} (hn:∀ ρ σ,N ρ σ→N' ρ σ) (hr:∀ x σ,R x σ→R' x σ) {f:Flow} {s':Shared} (p:PostX c env σ s N R f s'):PostX c env σ s N' R' f s':=by
 revert hn hr p
 revert c; revert env; revert σ; revert s; revert N; revert R; revert N' R' f s'
 walk_at "close 10"
 intro N' R' f s' R N s σ env c hn hr p
 refine xi4 ?_ (p)
 intro ρ' σ' h' t'
 refine im5 ?_
 intro e sm st' F q
 refine xc4_1 ρ' σ' h' t' (xc0_5 e sm st' F ?_)
 cases f with
 | next=>exact hn _ _ q
 | ret v=>obtain ⟨x,r,q⟩:=q; exact ⟨x,r,hr _ _ q⟩
 | brk=>exact q
 | cont=>exact q
theorem XV.mono {b:List Stmt} {N':Loc→St→Prop} {R':V→St→Prop} (h:XV c k b sc ρ σ N R) (hn:∀ ρ σ,N ρ σ→N' ρ σ) (hr:∀ x σ,R x σ→R' x σ):XV c k b sc ρ σ N' R' :=
 fun env A s a b d e f=>wpAny_mono (h env A s a b d e f) (fun _ _ p=>p.mono hn hr) fun _ _ e=>e
theorem SV.mono {b:Stmt} {N':Loc→St→Prop} {R':V→St→Prop} (h:SV c k b sc ρ σ N R) (hn:∀ ρ σ,N ρ σ→N' ρ σ) (hr:∀ x σ,R x σ→R' x σ):SV c k b sc ρ σ N' R' :=
 fun env A s a b d e f=>wpAny_mono (h env A s a b d e f) (fun _ _ p=>p.mono hn hr) fun _ _ e=>e
theorem XV.nil (q:N ρ σ):XV c k [] sc ρ σ N R:=fun _ _ s _ _ _ sm F=>wpAny_execs_nil ⟨ρ,σ,s.heap,s.toks,rfl,sm,StepF.refl,F,q⟩
theorem XV.cons {st:Stmt} {b:List Stmt} (h:SV c k st sc ρ σ (fun ρ' σ'=>XV c k b sc ρ' σ' N R) R):XV c k (st::b) sc ρ σ N R:=by
 revert h
 revert c; revert k; revert sc; revert ρ; revert σ; revert N; revert R; revert st b
 walk_at "close 9"
 intro st b R N σ ρ sc k c h
 intro env A s ok fr rm sm F
 refine wpAny_execs_cons (wpAny_mono (h env A s ok fr rm sm F) (fun f s' p=>?_) fun _ _ e=>e)
 refine xi4 ?_ (p)
 intro ρ' σ' h' t'
 refine im5 ?_
 intro hq264
 obtain rfl:=hq264
 intro sm' st' F' q
 cases f with
 | next=>exact wpAny_mono (q env A { s with heap:=h',toks:=t' } ok fr rm sm' F') (fun _ _ p=>p.before st') fun _ _ e=>e
 | ret v=>exact ⟨ρ',σ',h',t',rfl,sm',st',F',q⟩
 | brk=>exact q.elim
 | cont=>exact q.elim
theorem FrR.setLocal {h h':Heap} {m:Str→Option Value} {x:Str} {v:V} {u:Value} (F:FrR env ρ σ h) (hn:h.Ns env.locals m) (hk:env.kindOf x=some .local) (hn':h'.Ns env.locals fun y=>if y=x then some u else m y)
  (hs:Heap.SameBut env.locals h h') (tk:TupKeep h h') (r:VR h u v):FrR env (setL ρ x v) σ h':=by
 revert F hn hk hn' hs tk r
 revert env; revert ρ; revert σ; revert h h' m x v u
 walk_at "close 9"
 intro h h' m x v u σ ρ env F hn hk hn' hs tk r
 refine xi1 ?_ (F.ns)
 intro m₀
 refine im2 ?_
 intro hn₀ hm
 have em:∀ y,m₀ y=m y:=by
  refine xi3 ?_ (hn)
  intro o es ep
  refine im4 ?_
  intro ho hd _ hf
  refine xi3 ?_ (hn₀)
  intro o' es' ep'
  refine im4 ?_
  intro ho' hd' _ hf'
  rw [ho] at ho'
  cases ho'
  rw [hd] at hd'
  cases hd'
  intro y
  rw [← hf,← hf']
 refine ⟨⟨_,hn',fun y w a b=>?_⟩,fun y cl e=>?_,fun y w e=>?_,F.apart,F.off,F.offL,F.offC⟩
 ·unfold setL at b
  by_cases q:y=x
  ·rw [if_pos q] at b
   cases b
   exact xc1_2 u (if_pos q) (r.keeps tk)
  ·rw [if_neg q] at b
   refine xi1 ?_ (hm y w a b)
   intro z
   refine im2 ?_
   intro e1 e2
   exact xc1_2 z (by simp only [if_neg q,← em]; exact e1) (e2.keeps tk)
 ·refine xi1 ?_ (F.cell y cl e)
  intro ov
  refine im2 ?_
  intro ic z
  refine xc1_2 ov (ic.sameBut hs (F.off y cl e)) (fun w a b=>?_)
  unfold setL at b
  by_cases q:y=x
  ·subst q
   exact absurd hk a
  ·rw [if_neg q] at b
   refine xi1 ?_ (z w a b)
   intro u'
   refine im2 ?_
   intro e1 e2
   exact xc1_2 u' e1 (e2.keeps tk)
 ·unfold setL at e
  by_cases q:y=x
  ·subst q
   exact .inl hk
  ·rw [if_neg q] at e
   exact F.has y w e
theorem FrR.setCell {h h':Heap} {x:Str} {cl:Addr} {v:V} {u:Value} (F:FrR env ρ σ h) (hk:env.kindOf x=some .cell) (hc:env.cells.lookup x=some cl) (hn':h'.IsCell cl (some u))
  (hs:Heap.SameBut cl h h') (tk:TupKeep h h') (r:VR h u v):FrR env (setL ρ x v) σ h':=by
 refine xi1 ?_ (F.ns)
 intro m
 refine im2 ?_
 intro hn hm
 refine ⟨⟨m,hn.sameBut hs (Ne.symm (F.off x cl hc)),fun y w a b=>?_⟩,fun y cl' e=>?_,fun y w e=>?_,F.apart,F.off,F.offL,F.offC⟩
 ·unfold setL at b
  by_cases q:y=x
  ·subst q
   rw [hk] at a
   cases a
  ·rw [if_neg q] at b
   refine xi1 ?_ (hm y w a b)
   intro z
   refine im2 ?_
   intro e1 e2
   exact xc1_2 z e1 (e2.keeps tk)
 ·by_cases q:y=x
  ·subst q
   rw [hc] at e
   cases e
   refine xc1_2 (some u) hn' (fun w a b=>?_)
   unfold setL at b
   rw [if_pos rfl] at b
   cases b
   exact xc1_2 u rfl (r.keeps tk)
  ·refine xi1 ?_ (F.cell y cl' e)
   intro ov
   refine im2 ?_
   intro ic z
   have ne:cl'≠cl:=by
    rintro rfl
    exact q (F.apart _ _ _ e hc)
   refine xc1_2 ov (ic.sameBut hs ne) (fun w a b=>?_)
   unfold setL at b
   rw [if_neg q] at b
   refine xi1 ?_ (z w a b)
   intro u'
   refine im2 ?_
   intro e1 e2
   exact xc1_2 u' e1 (e2.keeps tk)
 ·unfold setL at e
  by_cases q:y=x
  ·subst q
   exact .inr ⟨.inl hk,cl,hc⟩
  ·rw [if_neg q] at e
   exact F.has y w e
theorem hp_of (ok:EnvOk sc env):(env.scope.kind==.class||(env.scope.kind==.module&&env.locals != env.globals))=false:=by rw [ok.scope]; rfl
theorem storeLocal {A:Around} {s:Shared} {x:Str} {v:V} {u:Value} (ok:EnvOk sc env) (fr:Fresh c env) (sm:Sim c σ s.heap) (F:FrR env ρ σ s.heap) (hk:sc.names.lookup x=some .local) (r:VR s.heap u v) (q:N (setL ρ x v) σ) :
  wpAny (model c.prog c.w) A (storeName env x u) (fun _=>PostL c env σ s N) (fun _ _=>False) s:=by
 revert ok fr sm F hk r q
 revert c; revert sc; revert env; revert ρ; revert σ; revert A; revert s; revert N; revert x v u
 walk_at "close 11"
 intro x v u N s A σ ρ env sc c ok fr sm F hk r q
 have hk':env.kindOf x=some .local:=(ok.names x).trans hk
 refine xi1 ?_ (F.ns)
 intro m
 refine im2 ?_
 intro hn hm
 refine wpAny_storeName_local hk' hn (fun h' hn' hs=>?_) (hp_of ok)
 refine im2 ?_ (sm.ownSame F fr (.inl rfl) hs (by obtain ⟨o,_,_,ho,_⟩:=hn'; exact ⟨o,ho⟩))
 intro sm' st'
 exact xc4_1 _ σ h' _ (xc0_5 rfl sm' st' (F.setLocal hn hk' hn' hs st'.tups r) q)
theorem storeCell {A:Around} {s:Shared} {x:Str} {v:V} {u:Value} {cl:Addr} (ok:EnvOk sc env) (fr:Fresh c env) (sm:Sim c σ s.heap) (F:FrR env ρ σ s.heap) (hk:sc.names.lookup x=some .cell) (hc:env.cells.lookup x=some cl) (r:VR s.heap u v) (q:N (setL ρ x v) σ) :
  wpAny (model c.prog c.w) A (storeName env x u) (fun _=>PostL c env σ s N) (fun _ _=>False) s:=by
 have hk':env.kindOf x=some .cell:=(ok.names x).trans hk
 refine xi1 ?_ (F.cell x cl hc)
 intro ov
 refine im2 ?_
 intro ic z
 refine wpAny_storeName_cell ok.scope hk' hc ic fun h' ic' hs=>?_
 refine im2 ?_ (sm.ownSame F fr (.inr ⟨x,hc⟩) hs (by obtain ⟨o,ho,_⟩:=ic'; exact ⟨o,ho⟩))
 intro sm' st'
 exact xc4_1 _ σ h' _ (xc0_5 rfl sm' st' (F.setCell hk' hc ic' hs st'.tups r) q)
noncomputable def slotK (sc:Scope) (x:Str):Prop:=sc.names.lookup x=some .local∨sc.names.lookup x=some .cell
theorem storeAny {A:Around} {s:Shared} {x:Str} {v:V} {u:Value} (ok:EnvOk sc env) (fr:Fresh c env) (sm:Sim c σ s.heap) (F:FrR env ρ σ s.heap) (hk:slotK sc x) (r:VR s.heap u v) (q:N (setL ρ x v) σ) :
  wpAny (model c.prog c.w) A (storeName env x u) (fun _=>PostL c env σ s N) (fun _ _=>False) s:=by
 rcases hk with hk | hk
 ·exact storeLocal ok fr sm F hk r q
 ·refine xi1 ?_ (fr.cells x ((ok.names x).trans hk))
  intro cl hc
  exact storeCell ok fr sm F hk hc r q
theorem TgV.name {x:Str} {p:Pos} {v:V} (hk:slotK sc x) (q:N (setL ρ x v) σ):TgV c k (.Name x p) sc ρ σ v N :=
 fun _ _ _ _ ok fr _ sm F r=>wpAny_assign_Name (storeAny ok fr sm F hk r q)
end
noncomputable def TgVs (c:Cx) (k:Nat) (sc:Scope):List Expr→List V→Loc→St→(Loc→St→Prop)→Prop
 | [],[],ρ,σ,N=>N ρ σ
 | t::ts,v::vs,ρ,σ,N=>TgV c k t sc ρ σ v fun ρ' σ'=>TgVs c k sc ts vs ρ' σ' N
 | _,_,_,_,_=>False
theorem assignEach_plain {e:Expr} (h:plainE e=true) (r:List Expr) (env:Env):assignEach (e::r) env=(false,assign e env)::assignEach r env:=by
 cases e <;> first | rfl | cases h
theorem assignEach_facts:∀ {l:List Expr} {env:Env},l.all plainE=true→(assignEach l env).length=l.length∧(assignEach l env).findIdx? (·.1)=none
 | [],_,_=>⟨rfl,rfl⟩
 | e::r,env,h=>by
  rw [List.all_cons,Bool.and_eq_true] at h
  refine im2 ?_ (assignEach_facts (env:=env) h.2)
  intro a b
  rw [assignEach_plain h.1]
  refine ⟨by rw [List.length_cons,List.length_cons,a],?_⟩
  rw [List.findIdx?_cons]
  simp [b]
section
variable {c:Cx} {k:Nat} {sc:Scope} {env:Env} {ρ:Loc} {σ:St} {N:Loc→St→Prop} {R:V→St→Prop}
theorem TgVs.run {env:Env} {A:Around} (ok:EnvOk sc env) (fr:Fresh c env) (rm:Room A k):∀ {l:List Expr} {xs:List V} {ρ:Loc} {σ:St} {s:Shared} {vs:List Value},l.all plainE=true→TgVs c k sc l xs ρ σ N→Sim c σ s.heap→FrR env ρ σ s.heap→VRs s.heap vs xs →
  wpAny (model c.prog c.w) A (assignInOrder ((assignEach l env).map (·.2)) vs) (fun _=>PostL c env σ s N) (fun _ _=>False) s:=by
 intro l
 induction l with
 | nil =>
  intro xs ρ σ s vs _ h sm F r
  cases xs with
  | nil =>
   rw [show vs=[] from r]
   exact wpAny_pure ⟨ρ,σ,s.heap,s.toks,rfl,sm,StepF.refl,F,h⟩
  | cons=>exact h.elim
 | cons e l ih =>
  intro xs ρ σ s vs hp h sm F r
  cases xs with
  | nil=>exact h.elim
  | cons x xs =>
  rw [List.all_cons,Bool.and_eq_true] at hp
  refine xi2 ?_ (r)
  intro v vs
  refine im3 ?_
  intro hq265
  obtain rfl:=hq265
  intro r1 r2
  rw [assignEach_plain hp.1]
  show wpAny _ A (do holding vs (assign e env v); assignInOrder ((assignEach l env).map (·.2)) vs) _ _ s
  refine wpAny_bind (wpAny_holding (wpAny_mono (h env A s v ok fr rm sm F r1) (fun _ s' p=>?_) fun _ _ e=>e))
  refine xi4 ?_ (p)
  intro ρ' σ' h' t'
  refine im5 ?_
  intro hq266
  obtain rfl:=hq266
  intro sm' st' F' q
  exact wpAny_mono (ih (s:={ s with heap:=h',toks:=t' }) hp.2 q sm' F' (r2.keeps st'.tups)) (fun _ _ p=>p.before st') fun _ _ e=>e
theorem Step.ofExt {h h':Heap} {I:Addr} (sm:Sim c σ h) (hI:h.get? I=none) (e:Heap.ExtBut I h h'):Sim c σ h'∧Step σ σ h h'∧TupKeep h h':=by
 have hk:∀ b o,h.get? b=some o→h'.get? b=some o:=fun b o z=>e b o (by rintro rfl; rw [hI] at z; cases z) z
 exact xc0_3 ⟨fun b o e=>hk b o (sm.keep b o e),fun a x e=>(sm.rep a x e).keep (fun o z=>hk a o z) fun a i n z=>hk a _ z,sm.new⟩ ⟨fun b o e _=>hk b o e,fun _ e=>.inl e⟩ (fun a i n z=>hk a _ z)
theorem get_size_none' (h:Heap):h.get? h.objs.size=none:=get_size_none h
theorem TgV.tup {l:List Expr} {n:Nat} {p:Pos} {xs:List V} (hp:l.all plainE=true) (hl:xs.length=l.length) (h:TgVs c k sc l xs ρ σ N):TgV c k (.Tuple l n p) sc ρ σ (.tup xs) N:=by
 revert hp hl h
 revert c; revert k; revert sc; revert ρ; revert σ; revert N; revert n; revert l p xs
 walk_at "close 10"
 intro l p xs n N σ ρ sc k c hp hl h
 intro env A s v ok fr rm sm F r
 refine xi3 ?_ (r)
 intro a its m
 refine im3 ?_
 intro hq267
 obtain rfl:=hq267
 intro g r
 refine im2 ?_ (assignEach_facts (env:=env) hp)
 intro f1 f2
 refine wpAny_assign_Tuple rm.handled (items:=its.toArray) ⟨_,g,rfl,m,rfl⟩ (by rw [f1,← hl,← r.length]; simp) f2 fun h' ex=>?_
 refine im3 ?_ (Step.ofExt sm (get_size_none _) ex)
 intro sm' st' tk
 have F':=F.step sm st'
 exact wpAny_mono (TgVs.run (s:={ s with heap:=h' }) ok fr rm hp h sm' F' (r.keeps tk)) (fun _ _ p=>p.before (t₁:=s.toks) (st'.toF F sm)) fun _ _ e=>e
theorem SV.assign {t e:Expr} {p:Pos} (hs:∀ env,swapsWith e (some t) p.line env=pure false) (hw:∀ env,swappedStores [t] e env=pure none) (ht:plainE t=true)
  (h:EV c k e sc ρ σ fun x σ'=>TgV c k t sc ρ σ' x N):SV c k (.Assign [t] e p) sc ρ σ N R:=by
 revert hs hw ht h
 revert c; revert k; revert sc; revert ρ; revert σ; revert N; revert R; revert t e p
 walk_at "close 10"
 intro t e p R N σ ρ sc k c hs hw ht h
 intro env A s ok fr rm sm F
 refine wpAny_Assign_stores (h.andThen ok rm sm F fun v x σ' h' t' r sm' st F' q=>?_) (hs env) (hw env)
 rw [assignEach_plain ht]
 refine wpAny_mono (q env A { s with heap:=h',toks:=t' } v ok fr rm sm' F' r) (fun _ _ p=>?_) fun _ _ e=>e
 refine xi4 ?_ (p.before (st.toF F sm))
 intro ρ' σ'' h'' t''
 refine im5 ?_
 intro e a b d q
 exact xc4_1 ρ' σ'' h'' t'' (xc0_5 e a b d q)
theorem SV.ret {e:Expr} {p:Pos} (h:EV c k e sc ρ σ R):SV c k (.Return (some e) p) sc ρ σ N R:=by
 intro env A s ok fr rm sm F
 refine wpAny_Return_some (h.andThen ok rm sm F fun v x σ' h' t' r sm' st F' q=>?_)
 exact xc4_1 ρ σ' h' t' (xc0_5 rfl sm' (st.toF F sm) F' (xc1_2 x r q))
theorem SV.ifs {t:Expr} {a b:List Stmt} {p:Pos} (h:TV c k t sc ρ σ fun z σ'=>if z=true then XV c k a sc ρ σ' N R else XV c k b sc ρ σ' N R):SV c k (.If t a b p) sc ρ σ N R:=by
 intro env A s ok fr rm sm F
 refine wpAny_If (h.andThen ok rm sm F fun z σ' h' t' sm' st F' q=>?_)
 cases z
 ·exact wpAny_mono (q env A { s with heap:=h',toks:=t' } ok fr rm sm' F') (fun _ _ p=>p.before (st.toF F sm)) fun _ _ e=>e
 ·exact wpAny_mono (q env A { s with heap:=h',toks:=t' } ok fr rm sm' F') (fun _ _ p=>p.before (st.toF F sm)) fun _ _ e=>e
noncomputable def V.flat:V→Bool
 | .none | .bool _ | .int _ | .str _=>true
 | _=>false
theorem VR.notRef {h:Heap} {v:Value} {x:V} (r:VR h v x) (f:x.flat=true) (a:Addr):v≠.ref a:=by
 cases x with
 | none=>rw [show v=.none from r]; nofun
 | bool b=>rw [show v=_ from r]; nofun
 | int i=>exact r.elim fun t e=>e ▸ nofun
 | str s=>exact r.elim fun t e=>e ▸ nofun
 | tup _=>cases f
 | ref _=>cases f
 | stat _=>cases f
theorem SV.expr {e:Expr} {p:Pos} (hs:∀ env,swapsWith e none p.line env=pure false) (h:EV c k e sc ρ σ fun x σ'=>x.flat=true∧N ρ σ'):SV c k (.Expr e p) sc ρ σ N R:=by
 intro env A s ok fr rm sm F
 refine wpAny_Expr (h.andThen ok rm sm F fun v x σ' h' t' r sm' st F' q=>?_) (by unfold interactive; rw [ok.scope]; rfl) (hs env)
 have nr:=r.notRef q.1
 have fin:PostX c env σ s N R .next { s with heap:=h',toks:=t' }:=⟨ρ,σ',h',t',rfl,sm',st.toF F sm,F',q.2⟩
 cases v <;> first | exact fin | exact absurd rfl (nr _)
end
structure ItW (c:Cx) (A:Around) (target:Expr) (I:Addr) (fp wr:List Addr) (items:List V) (S0:Nat→Heap→Prop) (Ok:St→Prop):Prop where
 live:∀ i h,S0 i h→∀ b∈fp,∃ o,h.get? b=some o∧((∃ vs,o.data=.fields vs)∨∃ its n,o=tupO its n)
 liveW:∀ i h,S0 i h→∀ b∈wr,∃ o vs,h.get? b=some o∧o.data=.fields vs
 frame:∀ i h h',S0 i h→TupKeep h h'→(∀ b∈fp,∀ o,h.get? b=some o→h'.get? b=some o)→S0 i h'
 item:∀ i σ s x (P:Value→Shared→Prop),Sim c σ s.heap→Ok σ→S0 i s.heap→items[i]?=some x →
  (∀ v h' t',VR h' v x→S0 (i+1) h'→(∀ b o,b ∉ wr→s.heap.get? b=some o→h'.get? b=some o)→P v { s with heap:=h',toks:=t' }) →
  wpAny (model c.prog c.w) A (pyNext (.ref I)) (fun r s₁=>∃ v,r=some v∧wpAny (model c.prog c.w) A (letOwnedTupleGo target (.ref I) v) (fun _ s₂=>P v s₂) (fun _ _=>False) s₁) (fun _ _=>False) s
 done:∀ i σ s (P:Shared→Prop),Sim c σ s.heap→Ok σ→S0 i s.heap→items[i]?=none →
  (∀ h' t',(∀ b o,b ∉ wr→s.heap.get? b=some o→h'.get? b=some o)→P { s with heap:=h',toks:=t' }) →
  wpAny (model c.prog c.w) A (pyNext (.ref I)) (fun r s₁=>r=none∧P s₁) (fun _ _=>False) s
 self:∀ i (s:Shared) (Q:Value→Shared→Prop),S0 i s.heap→Q (.ref I) s→wpAny (model c.prog c.w) A (pyIter (.ref I)) Q (fun _ _=>False) s
section
variable {c:Cx} {k:Nat} {sc:Scope} {env:Env} {ρ:Loc} {σ:St} {N:Loc→St→Prop} {R:V→St→Prop}
theorem mut_data {h:Heap} (sm:Sim c σ h) {a:Addr} {o:Obj} (e:h.get? a=some o) (hi:(∃ vs,o.data=.fields vs)∨∃ its n,o=tupO its n):mutAt σ a=false:=by
 revert sm e hi
 revert c; revert σ; revert h a o
 walk_at "close 5"
 intro h a o σ c sm e hi
 cases q:mutAt σ a with
 | false=>rfl
 | true =>
  rcases mut_of q with ⟨vs,q⟩ | ⟨es,q⟩
  ·refine xi2 ?_ (sm.rep a _ q)
   intro its n
   refine im2 ?_
   intro e' _
   rw [e] at e'
   cases e'
   rcases hi with ⟨_,z⟩ | ⟨_,_,z⟩
   ·cases z
   ·exact absurd (congrArg Obj.cls z) (by simp)
  ·refine xi2 ?_ (sm.rep a _ q)
   intro its n
   refine im2 ?_
   intro e' _
   rw [e] at e'
   cases e'
   rcases hi with ⟨_,z⟩ | ⟨_,_,z⟩
   ·cases z
   ·exact absurd (congrArg Obj.cls z) (by simp)
theorem not_own {h:Heap} (F:FrR env ρ σ h) {a:Addr} {o:Obj} (e:h.get? a=some o) (hi:(∃ vs,o.data=.fields vs)∨∃ its n,o=tupO its n):¬ OwnA env a:=fun ow=>by
 refine xi1 ?_ (F.ownGet ow)
 intro o'
 refine im3 ?_
 intro e' _ hd
 rw [e] at e'
 cases e'
 rcases hd with ⟨_,_,z⟩ | ⟨_,z⟩ <;> rcases hi with ⟨_,z'⟩ | ⟨_,_,z'⟩
 ·rw [z] at z'
  cases z'
 ·rw [z'] at z
  cases z
 ·rw [z] at z'
  cases z'
 ·rw [z'] at z
  cases z
theorem FrR.heap {h h':Heap} (F:FrR env ρ σ h) (hk:∀ b o,OwnA env b→h.get? b=some o→h'.get? b=some o) (tk:TupKeep h h'):FrR env ρ σ h':=by
 refine xi1 ?_ (F.ns)
 intro m
 refine im2 ?_
 intro hn hm
 refine ⟨⟨m,hn.at' fun o e=>hk _ o (.inl rfl) e,fun x v a b=>?_⟩,fun x cl e=>?_,F.has,F.apart,F.off,F.offL,F.offC⟩
 ·refine xi1 ?_ (hm x v a b)
  intro u
  refine im2 ?_
  intro e r
  exact xc1_2 u e (r.keeps tk)
 ·refine xi1 ?_ (F.cell x cl e)
  intro ov
  refine im2 ?_
  refine xi1 ?_
  intro o
  refine im2 ?_
  intro ho hd z
  exact xc1_2 ov ⟨o,hk _ o (.inr ⟨x,e⟩) ho,hd⟩ (fun v a b=>let ⟨u,e,r⟩:=z v a b; ⟨u,e,r.keeps tk⟩)
theorem iter_step {wr:List Addr} {h h':Heap} (sm:Sim c σ h) (F:FrR env ρ σ h) (hw:∀ b∈wr,∃ o vs,h.get? b=some o∧o.data=.fields vs) (hk:∀ b o,b ∉ wr→h.get? b=some o→h'.get? b=some o) (h0:∀ b∈wr,c.h0.get? b=none) :
  Sim c σ h'∧FrR env ρ σ h'∧TupKeep h h':=by
 have tk:TupKeep h h':=fun b its n e=>hk b _ (fun m=>by obtain ⟨o,vs,e',z⟩:=hw b m; rw [e] at e'; cases e'; cases z) e
 refine xc0_3 ⟨fun b o e=>hk b o (fun m=>by have:=h0 b m; rw [e] at this; cases this) (sm.keep _ _ e),fun a x e=>?_,sm.new⟩ (F.heap (fun b o ow e=>hk b o (fun m=>?_) e) tk) tk
 ·have r:=sm.rep a x e
  refine r.keep (fun o z=>hk a o (fun m=>?_) z) tk
  refine xi2 ?_ (hw a m)
  intro o' vs
  refine im2 ?_
  intro e' z'
  cases x with
  | list vs=>obtain ⟨_,_,w,_⟩:=r; rw [w] at e'; cases e'; cases z'
  | dict vs=>obtain ⟨_,_,w,_⟩:=r; rw [w] at e'; cases e'; cases z'
  | frozen vs=>obtain ⟨_,_,w,_⟩:=r; rw [w] at e'; cases e'; cases z'
  | inst _ _=>have w:h.get? a=_:=r; rw [w] at e'; cases e'; cases z'
 ·refine xi2 ?_ (hw b m)
  intro o' vs
  refine im2 ?_
  intro e' z'
  exact not_own F e' (.inl ⟨vs,z'⟩) ow
theorem StepF.iter {σ':St} {wr:List Addr} {hB h h':Heap} (st:StepF env σ σ' hB h) (fr:∀ b∈wr,hB.get? b=none) (hk:∀ b o,b ∉ wr→h.get? b=some o→h'.get? b=some o):StepF env σ σ' hB h':=by
 have nw:∀ {b o},hB.get? b=some o→b ∉ wr:=fun e m=>by rw [fr _ m] at e; cases e
 exact ⟨fun b o e m n=>hk b o (nw e) (st.keep b o e m n),st.new,fun b o e n=>let ⟨o',e'⟩:=st.own b o e n; ⟨o',hk b o' (nw e) e'⟩,fun a i n e=>hk a _ (nw e) (st.tups _ _ _ e)⟩
noncomputable def IT (c:Cx) (k:Nat) (iter target:Expr) (sc:Scope) (ρ:Loc) (σ:St) (Q:List V→(St→Prop)→St→Prop):Prop :=
 ∀ env A s,EnvOk sc env→Room A k→Sim c σ s.heap→FrR env ρ σ s.heap →
  wpAny (model c.prog c.w) A (eval iter env) (fun x s₁=>wpAny (model c.prog c.w) A (pyIter x) (fun it s₂=>∃ I fp wr items S0 Ok σ₁ hB h₂ t₂,it=.ref I∧s₂={ s with heap:=h₂,toks:=t₂ }∧Sim c σ₁ hB∧Step σ σ₁ s.heap hB ∧
   (∀ b o,hB.get? b=some o→h₂.get? b=some o)∧ItW c A target I fp wr items S0 Ok∧S0 0 h₂∧(∀ b∈wr,hB.get? b=none)∧Q items Ok σ₁) (fun _ _=>False) s₁) (fun _ _=>False) s
theorem SV.for {target iter:Expr} {body:List Stmt} {p:Pos} (hs:∀ env x,foldedSetIterable iter env x=pure x)
  (h:IT c k iter target sc ρ σ fun items Ok σ₁=>∃ J:Nat→Loc→St→Prop,J 0 ρ σ₁∧(∀ i ρ' σ',J i ρ' σ'→Ok σ') ∧
   (∀ i ρ' σ' x,items[i]?=some x→J i ρ' σ'→TgV c k target sc ρ' σ' x fun ρ'' σ''=>XV c k body sc ρ'' σ'' (J (i+1)) R)∧∀ ρ' σ',J items.length ρ' σ'→N ρ' σ') :
  SV c k (.For target iter body [] p) sc ρ σ N R:=by
 revert hs h
 revert c; revert k; revert sc; revert ρ; revert σ; revert N; revert R; revert target iter body p
 walk_at "close 11"
 intro target iter body p R N σ ρ sc k c hs h
 intro env A s ok fr rm sm F
 refine wpAny_For (wpAny_mono (h env A s ok rm sm F) (fun x s₁ h₁=>wpAny_mono h₁ (fun it s₂ h₂=>?_) fun _ _ e=>e.elim) fun _ _ e=>e) (hs env)
 refine xi10 ?_ (h₂)
 intro I fp wr items S0 Ok σ₁ hB H2 t₂
 refine im8 ?_
 intro hq268
 obtain rfl:=hq268
 intro hq269
 obtain rfl:=hq269
 intro smB stB hk2 W s0
 refine im2 ?_
 intro frw
 refine xi1 ?_
 intro J
 refine im4 ?_
 intro j0 jok jst jend
 have h0w:∀ b∈wr,c.h0.get? b=none:=fun b m=>by
  cases q:c.h0.get? b with
  | none=>rfl
  | some o=>have:=smB.keep _ _ q; rw [frw b m] at this; cases this
 have FB:=F.step sm stB
 have stBF:=stB.toF F sm
 refine im3 ?_ (keep_all (s:={ s with heap:=hB }) smB hk2)
 intro sm2 _ tk2
 have st2:StepF env σ₁ σ₁ hB H2:=⟨fun b o e _ _=>hk2 b o e,fun _ e=>.inl e,fun b o e _=>⟨o,hk2 b o e⟩,tk2⟩
 have F2:FrR env ρ σ₁ H2:=FB.heap (fun b o _ e=>hk2 b o e) tk2
 refine codeAny_forLoop_any
  (fun n s'=>∃ i ρ' σ' h' t',s'={ s with heap:=h',toks:=t' }∧Sim c σ' h'∧StepF env σ₁ σ' hB h'∧FrR env ρ' σ' h'∧S0 i h'∧J i ρ' σ'∧i≤items.length∧n=items.length+1 - i) ?_ (items.length+1)
  ⟨0,ρ,σ₁,H2,t₂,rfl,sm2,st2,F2,s0,j0,Nat.zero_le _,rfl⟩
 intro n s'
 refine xi5 ?_
 intro i ρ' σ' h' t'
 refine im8 ?_
 intro hq270
 obtain rfl:=hq270
 intro sm' st' F' si ji hi hq271
 obtain rfl:=hq271
 cases hv:items[i]? with
 | none =>
  have hlen:i=items.length:=Nat.le_antisymm hi (by simpa using hv)
  refine wpAny_mono (W.done i σ' { s with heap:=h',toks:=t' } (fun s₁=>PostX c env σ s N R .next s₁) sm' (jok _ _ _ ji) si hv fun h₁ t₁ hk=>?_) (fun r s₁ hr=>?_) fun _ _ e=>e.elim
  ·refine im3 ?_ (iter_step sm' F' (W.liveW _ _ si) hk h0w)
   intro sm₁ F₁ _
   exact xc4_1 ρ' σ' h₁ t₁ (xc0_5 rfl sm₁ (stBF.trans (st'.iter frw hk)) F₁ (jend _ _ (hlen ▸ ji)))
  ·refine im2 ?_ (hr)
   intro hq272
   obtain rfl:=hq272
   intro q
   exact wpAny_execs_nil q
 | some x =>
  have hlt:i < items.length:=(List.getElem?_eq_some_iff.mp hv).1
  refine wpAny_mono (W.item i σ' { s with heap:=h',toks:=t' } x
   (fun v s₁=>∃ h₁ t₁,s₁={ s with heap:=h₁,toks:=t₁ }∧VR h₁ v x∧S0 (i+1) h₁∧(∀ b o,b ∉ wr→h'.get? b=some o→h₁.get? b=some o)) sm' (jok _ _ _ ji) si hv fun v h₁ t₁ a b d=>⟨h₁,t₁,rfl,a,b,d⟩)
   (fun r s₁ hr=>?_) fun _ _ e=>e.elim
  refine xi1 ?_ (hr)
  intro v
  refine im2 ?_
  intro hq273
  obtain rfl:=hq273
  intro q
  refine wpAny_mono q (fun _ s₂ q=>?_) fun _ _ e=>e.elim
  refine xi2 ?_ (q)
  intro h₁ t₁
  refine im4 ?_
  intro hq274
  obtain rfl:=hq274
  intro rv si₁ hk
  refine im3 ?_ (iter_step sm' F' (W.liveW _ _ si) hk h0w)
  intro sm₁ F₁ _
  have st₁:=st'.iter frw hk
  have keepS:∀ {σa:St} {ρa:Loc} {ha hb:Heap} {σb:St},Sim c σa ha→FrR env ρa σa ha→StepF env σa σb ha hb→S0 (i+1) ha→S0 (i+1) hb:=fun sma Fa stab sa =>
   W.frame _ _ _ sa stab.tups fun b m o e=>by
    refine xi1 ?_ (W.live _ _ sa b m)
    intro o'
    refine im2 ?_
    intro e' hi'
    exact stab.keep b o e (mut_data sma e' hi') (not_own Fa e' hi')
  refine wpAny_mono (jst i ρ' σ' x hv ji env A { s with heap:=h₁,toks:=t₁ } v ok fr rm sm₁ F₁ rv) (fun _ s₃ q=>?_) fun _ _ e=>e.elim
  refine xi4 ?_ (q)
  intro ρ₂ σ₂ h₂ t₂'
  refine im5 ?_
  intro hq275
  obtain rfl:=hq275
  intro sm₂ st₂ F₂ q
  refine wpAny_mono (q env A { s with heap:=h₂,toks:=t₂' } ok fr rm sm₂ F₂) (fun f s₄ q=>?_) fun _ _ e=>e.elim
  refine xi4 ?_ (q)
  intro ρ₃ σ₃ h₃ t₃
  refine im5 ?_
  intro hq276
  obtain rfl:=hq276
  intro sm₃ st₃ F₃ q
  have s₂:=keepS sm₁ F₁ st₂ si₁
  have s₃:=keepS sm₂ F₂ st₃ s₂
  have stt:=st₁.trans (st₂.trans st₃)
  cases f with
  | next=>exact ⟨items.length+1 - (i+1),by exact ar515 hlt,i+1,ρ₃,σ₃,h₃,t₃,rfl,sm₃,stt,F₃,s₃,q,hlt,rfl⟩
  | ret v=>exact ⟨ρ₃,σ₃,h₃,t₃,rfl,sm₃,stBF.trans stt,F₃,q⟩
  | brk=>exact q.elim
  | cont=>exact q.elim
theorem SV.while {test:Expr} {body:List Stmt} {p:Pos} (J:Nat→Loc→St→Prop) (n:Nat) (j0:J n ρ σ)
  (h:∀ n ρ' σ',J n ρ' σ'→TV c k test sc ρ' σ' fun b σ''=>if b=true then XV c k body sc ρ' σ'' (fun ρ₃ σ₃=>∃ m,m < n∧J m ρ₃ σ₃) R else N ρ' σ''):SV c k (.While test body [] p) sc ρ σ N R:=by
 revert j0 h
 revert c; revert k; revert sc; revert ρ; revert σ; revert N; revert R; revert n; revert test body p J
 walk_at "close 12"
 intro test body p J n R N σ ρ sc k c j0 h
 intro env A s ok fr rm sm F
 refine wpAny_While ?_
 refine codeAny_whileLoop (fun n s'=>∃ ρ' σ' h' t',s'={ s with heap:=h',toks:=t' }∧Sim c σ' h'∧StepF env σ σ' s.heap h'∧FrR env ρ' σ' h'∧J n ρ' σ') ?_ n ⟨ρ,σ,s.heap,s.toks,rfl,sm,StepF.refl,F,j0⟩
 intro n s'
 refine xi4 ?_
 intro ρ' σ' h' t'
 refine im5 ?_
 intro hq277
 obtain rfl:=hq277
 intro sm' st' F' jn
 refine wpAny_mono (TV.andThen (s:={ s with heap:=h',toks:=t' }) (P:=fun b s₂=>PostB c σ' { s with heap:=h',toks:=t' } (fun b σ''=>if b=true then XV c k body sc ρ' σ'' (fun ρ₃ σ₃=>∃ m,m < n∧J m ρ₃ σ₃) R else N ρ' σ'') b s₂) (h n ρ' σ' jn) ok rm sm' F' fun b σ₁ h₁ t₁ a b' d q=>⟨σ₁,h₁,t₁,rfl,a,b',q⟩) (fun b s₂ q=>?_) fun _ _ e=>e.elim
 refine xi3 ?_ (q)
 intro σ₁ h₁ t₁
 refine im4 ?_
 intro hq278
 obtain rfl:=hq278
 intro sm₁ st₁ q
 have F₁:=F'.step sm' st₁
 have stt:=st'.trans (st₁.toF F' sm')
 cases b with
 | false =>
  simp only [Bool.false_eq_true,if_false] at q ⊢
  exact wpAny_execs_nil ⟨ρ',σ₁,h₁,t₁,rfl,sm₁,stt,F₁,q⟩
 | true =>
  simp only [if_true] at q ⊢
  refine wpAny_mono (q env A { s with heap:=h₁,toks:=t₁ } ok fr rm sm₁ F₁) (fun f s₃ q=>?_) fun _ _ e=>e.elim
  refine xi4 ?_ (q)
  intro ρ₃ σ₃ h₃ t₃
  refine im5 ?_
  intro hq279
  obtain rfl:=hq279
  intro sm₃ st₃ F₃ q
  cases f with
  | next=>obtain ⟨m,hm,q⟩:=q; exact ⟨m,hm,ρ₃,σ₃,h₃,t₃,rfl,sm₃,stt.trans st₃,F₃,q⟩
  | ret v=>exact ⟨ρ₃,σ₃,h₃,t₃,rfl,sm₃,stt.trans st₃,F₃,q⟩
  | brk=>exact q.elim
  | cont=>exact q.elim
end
open PySem.Sem (wp)
theorem letGo_or (target:Expr):(∀ it v,letOwnedTupleGo target it v=pure ())∨∀ it v,letOwnedTupleGo target it v=letOwnedTupleGo (.Tuple [] 0 ⟨0,0,0,0⟩) it v:=by
 cases target <;> first | exact .inl fun _ _=>rfl | exact .inr fun _ _=>rfl
theorem letGo_no {M:Model} {A:Around} {E:Value→Shared→Prop} {s:Shared} {target:Expr} {I:Addr} {v:Value} {Q:Unit→Shared→Prop} {o:Obj} {n:String} {vs:Array Value} (ho:s.heap.get? I=some o) (hc:o.cls=.type n) (hd:o.data=.fields vs)
  (hn:(["enumerate","zip","dict_itemiterator","dict_reverseitemiterator","odict_iterator","itertools.zip_longest","itertools.pairwise"].contains n)=false) (h:Q () s):wpAny M A (letOwnedTupleGo target (.ref I) v) Q E s:=by
 revert ho hc hd hn h
 revert A; revert s; revert Q; revert E; revert n; revert M target I v o vs
 walk_at "close 11"
 intro M target I v o vs n E Q s A ho hc hd hn h
 have hh:∀ a,wpAny M A (do
   let o ← load I
   match o.cls,o.data with
   | .type n,.fields vs =>
    if ["enumerate","zip","dict_itemiterator","dict_reverseitemiterator","odict_iterator","itertools.zip_longest","itertools.pairwise"].contains n&&vs[0]?==some (rawInt a) then
     rule "for.unpacks-the-owned-tuple"
     updateField I 0 .none
   | _,_=>pure ()) Q E s:=fun a=>by
  refine wpAny_bind (wpAny_load ho ?_)
  rw [hc,hd]
  simp only [hn,Bool.false_and,Bool.false_eq_true,if_false]
  exact wpAny_pure h
 rcases letGo_or target with e | e
 ·rw [e]; exact wpAny_pure h
 ·rw [e]
  cases v <;> first | exact wpAny_pure h | exact hh _
section
variable {prog:Program} {w:World} {A:Around} {E:Value→Shared→Prop} {s:Shared}
theorem nextOf_tuple_item {it l:Addr} {i:Nat} {items} {x:Value} {Q:Value→Shared→Prop} (hit:s.heap.IsTupleIter it l i)
  (hl:s.heap.IsTuple l items) (hx:items[i]?=some x)
  (hQ:∀ h',h'.IsTupleIter it l (i+1)→Heap.SameBut it s.heap h'→Q x { s with heap:=h' }) :
  wpAny (model prog w) A (Builtin.SmallTypes.nextOf (.ref it)) Q E s:=by
 revert hit hl hx hQ
 revert A; revert s; revert Q; revert E; revert prog w it l i items x
 walk_at "close 11"
 intro prog w it l i items x E Q s A hit hl hx hQ
 have:=wpAny_pyNext_tuple_item (prog:=prog) (w:=w) (A:=A) (E:=E) (Q:=fun r s'=>r=some x∧∃ h',s'={ s with heap:=h' }∧h'.IsTupleIter it l (i+1)∧Heap.SameBut it s.heap h') hit hl hx fun h' a b=>⟨rfl,h',rfl,a,b⟩
 refine xi1 ?_ (id hit)
 intro o
 refine im3 ?_
 intro ho hc hd
 refine xi1 ?_ (hl)
 intro ol
 refine im3 ?_
 intro hol _
 refine xi1 ?_
 intro nl hdl
 unfold Builtin.SmallTypes.nextOf
 refine wpAny_bind (wpAny_callSpecial?_slot (name:=Str.ofString "__next__") hit.typeIs F.slot_tuple_iterator_next
  (wpAny_call_entry F.slot_tuple_iterator_next hit.typeIs F.entry_tuple_iterator_next ?_ (F.args_tuple_iterator_next_1 _)))
 show wpAny _ _ (field (.ref it) 0 >>= _) _ _ s
 refine wpAny_bind (wpAny_field ho hd (x:=.ref l) rfl ?_)
 show wpAny _ _ (if (Value.ref l==Value.none)=true then _ else _) _ _ s
 rw [if_neg (show ¬ ((Value.ref l==Value.none)=true) from Bool.false_ne_true)]
 show wpAny _ _ (field (.ref it) 1 >>= _) _ _ s
 refine wpAny_bind (wpAny_field ho hd (x:=.int i 0) rfl ?_)
 show wpAny _ _ (seqItems? (.ref l) >>= _) _ _ s
 refine wpAny_bind (wpAny_seqItems hol hdl ?_)
 simp only [Int.toNat_natCast,hx]
 refine wpAny_bind (wpAny_setField ho hd (by simp) (wpAny_pure ⟨x,rfl,wpAny_pure (hQ _ ?_ (Heap.SameBut.update ..))⟩))
 exact ⟨_,Heap.get?_update_self _ ho (Obj.isFreed_of_fields (Obj.data_mapFields hd _)),(Obj.cls_mapFields ..).trans hc,by
  rw [Obj.data_mapFields hd]
  simp [rawInt]⟩
theorem nextOf_tuple_end {it l:Addr} {i:Nat} {items} {Q:Value→Shared→Prop} (hh:A.handled=none)
  (hit:s.heap.IsTupleIter it l i) (hl:s.heap.IsTuple l items) (hx:items[i]?=none)
  (hE:∀ h' e,Heap.ExtBut it s.heap h'→(∃ o,h'.get? e=some o∧o.cls=.type "StopIteration")→E (.ref e) { s with heap:=h' }) :
  wpAny (model prog w) A (Builtin.SmallTypes.nextOf (.ref it)) Q E s:=by
 revert hh hit hl hx hE
 revert A; revert s; revert Q; revert E; revert prog w it l i items
 walk_at "close 10"
 intro prog w it l i items E Q s A hh hit hl hx hE
 refine xi1 ?_ (id hit)
 intro o
 refine im3 ?_
 intro ho hc hd
 refine xi1 ?_ (hl)
 intro ol
 refine im3 ?_
 intro hol _
 refine xi1 ?_
 intro nl hdl
 unfold Builtin.SmallTypes.nextOf
 refine wpAny_bind (wpAny_callSpecial?_slot (name:=Str.ofString "__next__") hit.typeIs F.slot_tuple_iterator_next
  (wpAny_call_entry F.slot_tuple_iterator_next hit.typeIs F.entry_tuple_iterator_next ?_ (F.args_tuple_iterator_next_1 _)))
 show wpAny _ _ (field (.ref it) 0 >>= _) _ _ s
 refine wpAny_bind (wpAny_field ho hd (x:=.ref l) rfl ?_)
 show wpAny _ _ (if (Value.ref l==Value.none)=true then _ else _) _ _ s
 rw [if_neg (show ¬ ((Value.ref l==Value.none)=true) from Bool.false_ne_true)]
 show wpAny _ _ (field (.ref it) 1 >>= _) _ _ s
 refine wpAny_bind (wpAny_field ho hd (x:=.int i 0) rfl ?_)
 show wpAny _ _ (seqItems? (.ref l) >>= _) _ _ s
 refine wpAny_bind (wpAny_seqItems hol hdl ?_)
 simp only [Int.toNat_natCast,hx]
 refine wpAny_bind (wpAny_rule (wpAny_bind (wpAny_setField ho hd (by simp) ?_)))
 show wpAny _ _ (newExc (.type "StopIteration") [] >>= _) _ _ _
 refine wpAny_bind ?_
 simp only [newExc,newTuple]
 refine wpAny_bind (wpAny_newObj_type ?_ (by size_fits))
 refine wpAny_bind (m:=firstArgMember _ _) (wpAny_of_eq (a:=Value.none) (by first | rfl | (simp only [firstArgMember]; rfl)) ?_)
 refine wpAny_newObj_type ?_ (by size_fits)
 show wpAny _ _ (handled >>= _) _ _ _
 refine wpAny_bind (wpAny_handled ?_)
 first | rw [show A.in1.handled=none from hh] | rw [hh]
 refine wpAny_bind (wpAny_pure (wpAny_throw ?_))
 exact hE _ _ (((Heap.SameBut.update ..).extBut.push _).push _) ⟨_,Heap.get?_push_size _ rfl,rfl⟩
theorem drawsTuple (hh:A.handled=none) (it l:Addr) (hne:l≠it) (items:Array Value) :
  Draws prog w A it [it,l] items.size (fun i v=>items[i]?=some v) (fun i h=>h.IsTupleIter it l i∧h.IsTuple l items) where
 live:=fun _ _ st=>let ⟨o,ho,_⟩:=st.1; ⟨o,ho⟩
 frame:=fun _ _ _ st hk=>⟨st.1.at fun o e=>hk it (by simp) o e,st.2.at fun o e=>hk l (by simp) o e⟩
 item:=fun i s Q E hi st hQ=>by
  refine nextOf_tuple_item st.1 st.2 (x:=items[i]) (by simp [hi]) fun h' hit' hs'=>?_
  exact hQ _ h' s.toks (by simp [hi]) ⟨hit',st.2.extBut hs'.extBut hne⟩ hs'
 done:=fun s Q E st hE=>nextOf_tuple_end hh st.1 st.2 (by simp) hE
theorem wpAny_pure_all {M:Model} {A:Around} {α:Type} {Q:α→Shared→Prop} {E:Value→Shared→Prop} {s:Shared} (h:∀ a,Q a s) (a:α):wpAny M A (pure a) Q E s:=wpAny_pure (h a)
set_option maxRecDepth 100000 in
theorem meets_enumerate_tup (l:Addr) (items:Array Value) (n:Nat) (dct:Option Addr) (sl:Array (Option Value)) :
  Meets (Builtin.«enumerate.__new__» ⟨[.type "enumerate",.ref l],[]⟩) (fun _ R s=>s.heap.get? l=some { cls:=.type "tuple",dict:=dct,data:=.seq items n,slots:=sl } ∧
   R (.ok (.ret (.ref (s.heap.push { cls:=.type "tuple_iterator",data:=.fields #[.ref l,.int 0 0] }).objs.size)))
    { s with heap:=(s.heap.push { cls:=.type "tuple_iterator",data:=.fields #[.ref l,.int 0 0] }).push { cls:=.type "enumerate",data:=.fields #[.none,.bool false,.ref s.heap.objs.size,rawInt 0,.none,.none] } }) :=
 .of_wp fun prog w A R s h=>by
  obtain ⟨hp,g,d,tk,os⟩:=s
  refine im2 ?_ (h)
  intro hl h
  have hsub:=sub_enumerate
  have hL:Heap.IsTuple (Shared.heap ⟨hp,g,d,tk,os⟩) l items:=⟨_,hl,rfl,n,rfl⟩
  wp_walk using AutoSeq1.wpAny_loadPart' hl
  refine wpAny_stack_any fun st=>wpAny_pure_all (fun b=>?_) _
  cases b
  ·wp_walk using AutoSeq1.wpAny_loadPart' hl,wpAny_pyIter_tuple hL
   exact xc1_2 _ rfl h
  ·wp_walk using AutoSeq1.wpAny_loadPart' hl,wpAny_pyIter_tuple hL
   exact xc1_2 _ rfl h
theorem call_enumerate_tup {l:Addr} {items:List Value} {n:Nat} {Q:Value→Shared→Prop} (hl:s.heap.get? l=some (tupO items n))
  (h:∀ h',IsEnum h' (s.heap.objs.size+1) s.heap.objs.size 0 .none→h'.IsTupleIter s.heap.objs.size l 0→h'.objs.size=s.heap.objs.size+2 →
   (∀ b o,s.heap.get? b=some o→h'.get? b=some o)→Q (.ref (s.heap.objs.size+1)) { s with heap:=h' }) :
  wpAny (model prog w) A (call (.type "enumerate") [.ref l]) Q E s:=by
 refine callType_new F.called_enumerate (by decide) (F.typeCall_enumerate_1 _) (F.newCall_enumerate_1 _) (fun obj=>F.args_object_init_2 obj _) F.entry_enumerate_new
  (meets_enumerate_tup l items.toArray n _ _) ⟨hl,?_⟩
 have hz:(s.heap.push { cls:=.type "tuple_iterator",data:=.fields #[.ref l,.int 0 0] }).objs.size=s.heap.objs.size+1:=Heap.size_push ..
 show _∧_
 rw [hz]
 have he:IsEnum ((s.heap.push { cls:=.type "tuple_iterator",data:=.fields #[.ref l,.int 0 0] }).push
   { cls:=.type "enumerate",data:=.fields #[.none,.bool false,.ref s.heap.objs.size,rawInt 0,.none,.none] }) (s.heap.objs.size+1) s.heap.objs.size 0 .none:=by
  have:=Heap.get?_push_size (s.heap.push { cls:=.type "tuple_iterator",data:=.fields #[.ref l,.int 0 0] })
   (o:={ cls:=.type "enumerate",data:=.fields #[.none,.bool false,.ref s.heap.objs.size,rawInt 0,.none,.none] }) rfl
  rw [hz] at this
  exact this
 refine ⟨⟨_,he,rfl⟩,h _ he ⟨_,Heap.get?_push_of_some _ (Heap.get?_push_size _ rfl),rfl,rfl⟩ (by rw [Heap.size_push,hz]) fun b o x=>Heap.get?_push_of_some _ (Heap.get?_push_of_some _ x)⟩
end
theorem arr_get {its:List Value} {i:Nat}:its.toArray[i]?=its[i]?:=by simp
section
variable {c:Cx} {A:Around} {target:Expr}
theorem letGo_pure {A:Around} {M:Model} {E:Value→Shared→Prop} {s:Shared} {I:Addr} {v:Value} {Q:Unit→Shared→Prop} (hv:∀ a,v≠.ref a) (h:Q () s):wpAny M A (letOwnedTupleGo target (.ref I) v) Q E s:=by
 rcases letGo_or target with e | e
 ·rw [e]; exact wpAny_pure h
 ·rw [e]
  cases v <;> first | exact wpAny_pure h | exact absurd rfl (hv _)
theorem ItW.list (hh:A.handled=none) (I l:Addr) (items:List V):ItW c A target I [I] [I] items (fun i h=>h.IsListIter I l i) (fun σ=>σ l=some (.list items)∨σ l=some (.frozen items)) where
 live:=fun i h st b m=>by
  rw [List.mem_singleton.mp m]
  refine xi1 ?_ (st)
  intro o
  refine im3 ?_
  intro ho hc hd
  exact xc1_2 o ho (.inl ⟨_,hd⟩)
 liveW:=fun i h st b m=>by
  rw [List.mem_singleton.mp m]
  refine xi1 ?_ (st)
  intro o
  refine im3 ?_
  intro ho hc hd
  exact xc2_2 o _ ho hd
 frame:=fun i h h' st _ hk=>st.at fun o e=>hk I (by simp) o e
 item:=fun i σ s x P sm ok st hx go=>by
  refine xi2 ?_ (sm.list ok)
  intro its n
  refine im2 ?_
  intro g r
  refine xi1 ?_ (r.get hx)
  intro v
  refine im2 ?_
  intro hv rv
  refine wpAny_pyNext_list_item st (IsL_of g) (x:=v) (by rw [arr_get]; exact hv) fun h' it' hs=>⟨v,rfl,?_⟩
  have tk:TupKeep s.heap h':=fun a i n e=>by
   rw [get_same hs]
   exact e
   rintro rfl
   refine xi1 ?_ (st)
   intro o
   refine im3 ?_
   intro ho hc hd
   rw [e] at ho
   cases ho
   cases hd
  refine xi1 ?_ (id it')
  intro o
  refine im3 ?_
  intro ho hc hd
  exact letGo_no ho hc hd (by decide) (go v h' s.toks (rv.keeps tk) it' fun b o m e=>hs.extBut b o (fun q=>m (by simp [q])) e)
 done:=fun i σ s P sm ok st hx go=>by
  refine xi2 ?_ (sm.list ok)
  intro its n
  refine im2 ?_
  intro g r
  refine wpAny_pyNext_list_end hh st (IsL_of g) (by rw [arr_get,List.getElem?_eq_none_iff,r.length]; simpa using hx) fun h' ex=>⟨rfl,go h' s.toks fun b o m e=>ex b o (fun q=>m (by simp [q])) e⟩
 self:=fun i s Q st q=>wpAny_pyIter_listiter st q
theorem ItW.tup (hh:A.handled=none) (I a:Addr) (hne:a≠I) (items:List V):ItW c A target I [I,a] [I] items (fun i h=>h.IsTupleIter I a i∧∃ its n,h.get? a=some (tupO its n)∧VRs h its items) (fun _=>True) where
 live:=fun i h st b m=>by
  refine im2 ?_ (st)
  refine xi1 ?_
  intro o
  refine im3 ?_
  intro ho hc hd
  refine xi2 ?_
  intro its n
  refine im2 ?_
  intro g r
  rcases List.mem_cons.mp m with rfl | m
  ·exact xc1_2 o ho (.inl ⟨_,hd⟩)
  ·rw [List.mem_singleton.mp m]
   exact xc1_2 _ g (.inr ⟨its,n,rfl⟩)
 liveW:=fun i h st b m=>by
  rw [List.mem_singleton.mp m]
  refine im2 ?_ (st)
  refine xi1 ?_
  intro o
  refine im3 ?_
  intro ho hc hd _
  exact xc2_2 o _ ho hd
 frame:=fun i h h' st tk hk=>by
  refine im2 ?_ (st)
  intro it
  refine xi2 ?_
  intro its n
  refine im2 ?_
  intro g r
  exact ⟨it.at fun o e=>hk I (by simp) o e,its,n,hk a (by simp) _ g,r.keeps tk⟩
 item:=fun i σ s x P sm ok st hx go=>by
  refine im2 ?_ (st)
  intro it
  refine xi2 ?_
  intro its n
  refine im2 ?_
  intro g r
  refine xi1 ?_ (r.get hx)
  intro v
  refine im2 ?_
  intro hv rv
  refine wpAny_pyNext_tuple_item it ⟨_,g,rfl,n,rfl⟩ (x:=v) (by rw [arr_get]; exact hv) fun h' it' hs=>⟨v,rfl,?_⟩
  have tk:TupKeep s.heap h':=fun b i n e=>by
   rw [get_same hs]
   exact e
   rintro rfl
   refine xi1 ?_ (it)
   intro o
   refine im3 ?_
   intro ho hc hd
   rw [e] at ho
   cases ho
   cases hd
  refine xi1 ?_ (id it')
  intro o
  refine im3 ?_
  intro ho hc hd
  exact letGo_no ho hc hd (by decide) (go v h' s.toks (rv.keeps tk) ⟨it',its,n,tk _ _ _ g,r.keeps tk⟩ fun b o m e=>hs.extBut b o (fun q=>m (by simp [q])) e)
 done:=fun i σ s P sm ok st hx go=>by
  refine im2 ?_ (st)
  intro it
  refine xi2 ?_
  intro its n
  refine im2 ?_
  intro g r
  refine wpAny_pyNext_tuple_end hh it ⟨_,g,rfl,n,rfl⟩ (by rw [arr_get,List.getElem?_eq_none_iff,r.length]; simpa using hx) fun h' ex=>⟨rfl,go h' s.toks fun b o m e=>ex b o (fun q=>m (by simp [q])) e⟩
 self:=fun i s Q st q=>wpAny_pyIter_tupleiter st.1 q
noncomputable def rangeV (a:Int) (n:Nat):List V:=(List.range n).map fun i:Nat=>V.int (a+i)
theorem rangeV_len (a:Int) (n:Nat):(rangeV a n).length=n:=by simp [rangeV]
theorem rangeV_get {a:Int} {n i:Nat} {x:V} (h:(rangeV a n)[i]?=some x):i < n∧x=.int (a+i):=by
 revert h
 revert n; revert a i x
 walk_at "close 4"
 intro a i x n h
 unfold rangeV at h
 rw [List.getElem?_map] at h
 by_cases q:i < n
 ·rw [List.getElem?_range q] at h
  exact ⟨q,by simpa using h.symm⟩
 ·rw [List.getElem?_eq_none (by simpa using q)] at h; cases h
theorem ItW.range (hh:A.handled=none) (I:Addr) (a:Int) (n:Nat):ItW c A target I [I] [I] (rangeV a n) (fun i h=>IsRangeIter h I (a+(i:Nat)) ((n:Int) - (i:Nat)) 1) (fun _=>True) where
 live:=fun i h st b m=>by rw [List.mem_singleton.mp m]; exact ⟨_,st,.inl ⟨_,rfl⟩⟩
 liveW:=fun i h st b m=>by rw [List.mem_singleton.mp m]; exact ⟨_,_,st,rfl⟩
 frame:=fun i h h' st _ hk=>hk I (by simp) _ st
 item:=fun i σ s x P sm ok st hx go=>by
  refine im2 ?_ (rangeV_get hx)
  intro hi hq280
  obtain rfl:=hq280
  refine wpAny_pyNext_range_item st (by exact ar516 hi) fun h' it' hs=>⟨_,rfl,letGo_pure (fun a h=>by cases h) (go _ h' _ ⟨s.toks,rfl⟩ ?_ fun b o m e=>hs.extBut b o (fun q=>m (by simp [q])) e)⟩
  have e1:a+((i+1:Nat):Int)=a+(i:Int)+1:=by exact ar517
  have e2:(n:Int) - ((i+1:Nat):Int)=(n:Int) - (i:Int) - 1:=by exact ar518
  rw [e1,e2]
  exact it'
 done:=fun i σ s P sm ok st hx go=>by
  have:n≤i:=by simpa [rangeV] using hx
  exact wpAny_pyNext_range_end hh st (by exact ar519 this) fun h' ex=>⟨rfl,go h' s.toks fun b o m e=>ex b o (fun q=>m (by simp [q])) e⟩
 self:=fun i s Q st q=>wpAny_pyIter_rangeiter st q
noncomputable def enumV (items:List V):List V:=items.mapIdx fun i x=>V.tup [.int i,x]
theorem enumV_len (l:List V):(enumV l).length=l.length:=by simp [enumV]
theorem enumV_get {l:List V} {i:Nat} {x:V} (h:(enumV l)[i]?=some x):∃ y,l[i]?=some y∧x=.tup [.int i,y]:=by
 unfold enumV at h
 rw [List.getElem?_mapIdx] at h
 cases q:l[i]? with
 | none=>rw [q] at h; cases h
 | some y=>rw [q] at h; exact ⟨y,rfl,by simpa using h.symm⟩
theorem enum_pair {h':Heap} {T:Addr} {i:Nat} {t:Tok} {v:Value} {y:V} (g:h'.get? T=some { cls:=.type "tuple",data:=.seq #[.int i t,v] }) (r:VR h' v y):VR h' (.ref T) (.tup [.int i,y]) :=
 ⟨T,[.int i t,v],0,rfl,g,VRs.cons ⟨t,rfl⟩ (VRs.cons r rfl)⟩
theorem enum_tk {s:Shared} {e it:Addr} {h':Heap} (he:∃ o vs,s.heap.get? e=some o∧o.data=.fields vs) (hi:∃ o vs,s.heap.get? it=some o∧o.data=.fields vs) (hk:∀ b o,b≠e→b≠it→s.heap.get? b=some o→h'.get? b=some o):TupKeep s.heap h':=fun b i n g=>by
 refine hk b _ ?_ ?_ g
 ·rintro rfl
  refine xi2 ?_ (he)
  intro o vs
  refine im2 ?_
  intro ho hd
  rw [g] at ho
  cases ho
  cases hd
 ·rintro rfl
  refine xi2 ?_ (hi)
  intro o vs
  refine im2 ?_
  intro ho hd
  rw [g] at ho
  cases ho
  cases hd
theorem ItW.enumL (hh:A.handled=none) (e it l:Addr) (hne:e≠it) (elts:List Expr) (tn:Nat) (tp:Pos) (items:List V):ItW c A (.Tuple elts tn tp) e [e,it] [e,it] (enumV items) (fun i h=>(∃ old,IsEnum h e it i old)∧h.IsListIter it l i) (fun σ=>σ l=some (.list items)∨σ l=some (.frozen items)) where
 live:=fun i h st b m=>by
  refine im2 ?_ (st)
  refine xi1 ?_
  intro old he
  refine xi1 ?_
  intro o
  refine im3 ?_
  intro ho hc hd
  rcases List.mem_cons.mp m with rfl | m
  ·exact xc1_2 _ he (.inl ⟨_,rfl⟩)
  ·rw [List.mem_singleton.mp m]
   exact xc1_2 o ho (.inl ⟨_,hd⟩)
 liveW:=fun i h st b m=>by
  refine im2 ?_ (st)
  refine xi1 ?_
  intro old he
  refine xi1 ?_
  intro o
  refine im3 ?_
  intro ho hc hd
  rcases List.mem_cons.mp m with rfl | m
  ·exact xc2_2 _ _ he rfl
  ·rw [List.mem_singleton.mp m]
   exact xc2_2 o _ ho hd
 frame:=fun i h h' st _ hk=>by
  refine im2 ?_ (st)
  refine xi1 ?_
  intro old he hi
  exact ⟨⟨old,hk e (by simp) _ he⟩,hi.at fun o z=>hk it (by simp) o z⟩
 item:=fun i σ s x P sm ok st hx go=>by
  refine im2 ?_ (st)
  refine xi1 ?_
  intro old he hit
  refine xi2 ?_ (sm.list ok)
  intro its n
  refine im2 ?_
  intro g r
  refine xi1 ?_ (enumV_get hx)
  intro y
  refine im2 ?_
  intro hy hq281
  obtain rfl:=hq281
  refine xi1 ?_ (r.get hy)
  intro v
  refine im2 ?_
  intro hv rv
  refine wpAny_pyNext_enum_item he hit (IsL_of g) (x:=v) (by rw [arr_get]; exact hv) hne fun h' ho hit' hT hz hk=>⟨_,rfl,?_⟩
  have tk:=enum_tk (s:=s) ⟨_,_,he,rfl⟩ (let ⟨o,a,_,d⟩:=hit; ⟨o,_,a,d⟩) hk
  have helt:e < s.heap.objs.size:=Heap.lt_size he
  refine wpAny_letOwnedTupleGo_enum ho fun h₂ he₂ hs=>?_
  have tk2:TupKeep h' h₂:=fun b i n g=>by
   rw [get_same hs]
   exact g
   rintro rfl
   rw [ho] at g
   exact absurd (congrArg (fun o=>o.map Obj.cls) g) (by simp)
  have e1:((i+1:Nat):Int)=(i:Int)+1:=by exact ar520
  refine go _ h₂ (s.toks+1) (enum_pair ((hs.2 _ (Nat.ne_of_gt helt)).trans hT) ((rv.keeps tk).keeps tk2)) ⟨⟨v,by rw [e1]; exact he₂⟩,hit'.at fun o z=>(hs.2 _ (Ne.symm hne)).trans z⟩ fun b o m z=>?_
  have h1:b≠e:=fun q=>m (by simp [q])
  have h2:b≠it:=fun q=>m (by simp [q])
  exact (hs.2 b h1).trans (hk b o h1 h2 z)
 done:=fun i σ s P sm ok st hx go=>by
  refine im2 ?_ (st)
  refine xi1 ?_
  intro old he hit
  refine xi2 ?_ (sm.list ok)
  intro its n
  refine im2 ?_
  intro g r
  have hx':items.length≤i:=by simpa [enumV] using hx
  refine wpAny_pyNext_enum_end hh he hit (IsL_of g) (by rw [arr_get,List.getElem?_eq_none_iff,r.length]; exact hx') fun h' ex=>⟨rfl,go h' s.toks fun b o m z=>ex b o (fun q=>m (by simp [q])) z⟩
 self:=fun i s Q st q=>by
  refine im2 ?_ (st)
  refine xi1 ?_
  intro old he hit
  exact wpAny_pyIter_enum he q
theorem ItW.enumT (hh:A.handled=none) (e it a:Addr) (hne:e≠it) (hea:a≠e) (hia:a≠it) (elts:List Expr) (tn:Nat) (tp:Pos) (items:List V):ItW c A (.Tuple elts tn tp) e [e,it,a] [e,it] (enumV items) (fun i h=>(∃ old,IsEnum h e it i old)∧h.IsTupleIter it a i∧∃ its n,h.get? a=some (tupO its n)∧VRs h its items) (fun _=>True) where
 live:=fun i h st b m=>by
  refine im3 ?_ (st)
  refine xi1 ?_
  intro old he
  refine xi1 ?_
  intro o
  refine im3 ?_
  intro ho hc hd
  refine xi2 ?_
  intro its n
  refine im2 ?_
  intro g r
  rcases List.mem_cons.mp m with rfl | m
  ·exact xc1_2 _ he (.inl ⟨_,rfl⟩)
  ·rcases List.mem_cons.mp m with rfl | m
   ·exact xc1_2 o ho (.inl ⟨_,hd⟩)
   ·rw [List.mem_singleton.mp m]
    exact xc1_2 _ g (.inr ⟨its,n,rfl⟩)
 liveW:=fun i h st b m=>by
  refine im3 ?_ (st)
  refine xi1 ?_
  intro old he
  refine xi1 ?_
  intro o
  refine im3 ?_
  intro ho hc hd _
  rcases List.mem_cons.mp m with rfl | m
  ·exact xc2_2 _ _ he rfl
  ·rw [List.mem_singleton.mp m]
   exact xc2_2 o _ ho hd
 frame:=fun i h h' st tk hk=>by
  refine im3 ?_ (st)
  refine xi1 ?_
  intro old he hi
  refine xi2 ?_
  intro its n
  refine im2 ?_
  intro g r
  exact xc0_3 ⟨old,hk e (by simp) _ he⟩ (hi.at fun o z=>hk it (by simp) o z) (xc2_2 its n (hk a (by simp) _ g) (r.keeps tk))
 item:=fun i σ s x P sm ok st hx go=>by
  refine im3 ?_ (st)
  refine xi1 ?_
  intro old he hit
  refine xi2 ?_
  intro its n
  refine im2 ?_
  intro g r
  refine xi1 ?_ (enumV_get hx)
  intro y
  refine im2 ?_
  intro hy hq282
  obtain rfl:=hq282
  refine xi1 ?_ (r.get hy)
  intro v
  refine im2 ?_
  intro hv rv
  have hi':i < its.toArray.size:=by
   have:=(List.getElem?_eq_some_iff.mp hv).1
   simpa using this
  refine wpAny_pyNext_enum_itemD (n:=its.toArray.size) (drawsTuple (w:=c.w) (A:=A.in1) hh it a hia its.toArray) he ⟨hit,⟨_,g,rfl,n,rfl⟩⟩ hi' hne (by simp [hne,Ne.symm hea]) fun v' h' tk hP ho hst hT hz hk=>⟨_,rfl,?_⟩
  have hv':v'=v:=by
   have h1:its.toArray[i]?=some v':=hP
   rw [arr_get,hv] at h1
   cases h1; rfl
  subst hv'
  have tk1:=enum_tk (s:=s) ⟨_,_,he,rfl⟩ (let ⟨o,a,_,d⟩:=hit; ⟨o,_,a,d⟩) hk
  have helt:e < s.heap.objs.size:=Heap.lt_size he
  refine wpAny_letOwnedTupleGo_enum ho fun h₂ he₂ hs=>?_
  have tk2:TupKeep h' h₂:=fun b i n g=>by
   rw [get_same hs]
   exact g
   rintro rfl
   rw [ho] at g
   exact absurd (congrArg (fun o=>o.map Obj.cls) g) (by simp)
  have e1:((i+1:Nat):Int)=(i:Int)+1:=by exact ar520
  refine go _ h₂ (tk+1) (enum_pair ((hs.2 _ (Nat.ne_of_gt helt)).trans hT) ((rv.keeps tk1).keeps tk2)) ⟨⟨v',by rw [e1]; exact he₂⟩,hst.1.at fun o z=>(hs.2 _ (Ne.symm hne)).trans z,its,n,tk2 _ _ _ (tk1 _ _ _ g),(r.keeps tk1).keeps tk2⟩ fun b o m z=>?_
  have h1:b≠e:=fun q=>m (by simp [q])
  have h2:b≠it:=fun q=>m (by simp [q])
  exact (hs.2 b h1).trans (hk b o h1 h2 z)
 done:=fun i σ s P sm ok st hx go=>by
  refine im3 ?_ (st)
  refine xi1 ?_
  intro old he hit
  refine xi2 ?_
  intro its n
  refine im2 ?_
  intro g r
  have hx':items.length≤i:=by simpa [enumV] using hx
  have D:=drawsTuple (prog:=c.prog) (w:=c.w) (A:=A.in1) hh it a hia its.toArray
  have hle:its.toArray.size≤i:=by simpa [r.length] using hx'
  have hT:s.TypeIs (.ref e) "enumerate":=⟨_,he,rfl⟩
  unfold pyNext
  refine wpAny_bind (wpAny_attempt (wpAny_callSpecial?_slot (name:=Str.ofString "__next__") hT F.slot_enumerate_next
   (wpAny_call_entry F.slot_enumerate_next hT F.entry_enumerate_next ?_ (F.args_enumerate_next_1 _))))
  show wpAny _ _ (field (.ref e) 2 >>= _) _ _ _
  refine wpAny_bind (wpAny_field he rfl (x:=.ref it) rfl ?_)
  refine wpAny_bind (nextOf_tuple_end (A:=A.in1) hh hit ⟨_,g,rfl,n,rfl⟩ (by rw [arr_get,List.getElem?_eq_none_iff,r.length]; exact hx') fun h' x he' hx'=>?_)
  refine xi1 ?_ (hx')
  intro o
  refine im2 ?_
  intro ho hc
  refine wpAny_bind (wpAny_isInstance (T:="StopIteration") (b:=true) ⟨o,ho,hc⟩ isSubtype_stop ?_)
  exact wpAny_pure ⟨rfl,go h' s.toks fun b o m z=>he' b o (fun q=>m (by simp [q])) z⟩
 self:=fun i s Q st q=>by
  refine im2 ?_ (st)
  refine xi1 ?_
  intro old he hit
  exact wpAny_pyIter_enum he q
end
section
variable {c:Cx} {k:Nat} {sc:Scope} {ρ:Loc} {σ:St} {iter target:Expr} {Q:List V→(St→Prop)→St→Prop}
theorem push_keep (h:Heap) (o:Obj):∀ b o',h.get? b=some o'→(h.push o).get? b=some o':=fun _ _ e=>Heap.get?_push_of_some _ e
theorem IT.list (h:EV c k iter sc ρ σ fun x σ'=>∃ l items,x=.ref l∧(σ' l=some (.list items)∨σ' l=some (.frozen items))∧Q items (fun τ=>τ l=some (.list items)∨τ l=some (.frozen items)) σ'):IT c k iter target sc ρ σ Q:=by
 revert h
 revert c; revert k; revert sc; revert ρ; revert σ; revert Q; revert iter target
 walk_at "close 8"
 intro iter target Q σ ρ sc k c h
 intro env A s ok rm sm F
 refine h.andThen ok rm sm F fun v x σ' h' t' r sm' st F' q=>?_
 refine xi2 ?_ (q)
 intro l items
 refine im3 ?_
 intro hq283
 obtain rfl:=hq283
 intro e q
 rw [show v=.ref l from r]
 refine xi2 ?_ (sm'.list e)
 intro its n
 refine im2 ?_
 intro g _
 refine wpAny_pyIter_list (IsL_of g) ?_
 exact xc10_1 h'.objs.size _ _ items _ _ σ' h' _ t' (xc0_8 rfl rfl sm' st (push_keep _ _) (ItW.list rm.handled h'.objs.size l items) ⟨_,Heap.get?_push_size _ rfl,rfl,rfl⟩ (⟨fun b m=>by rw [List.mem_singleton.mp m]; exact get_size_none _,q⟩))
theorem IT.tup (h:EV c k iter sc ρ σ fun x σ'=>∃ items,x=.tup items∧Q items (fun _=>True) σ'):IT c k iter target sc ρ σ Q:=by
 revert h
 revert c; revert k; revert sc; revert ρ; revert σ; revert Q; revert iter target
 walk_at "close 8"
 intro iter target Q σ ρ sc k c h
 intro env A s ok rm sm F
 refine h.andThen ok rm sm F fun v x σ' h' t' r sm' st F' q=>?_
 refine xi1 ?_ (q)
 intro items
 refine im2 ?_
 intro hq284
 obtain rfl:=hq284
 intro q
 refine xi3 ?_ (r)
 intro a its n
 refine im3 ?_
 intro hq285
 obtain rfl:=hq285
 intro g r
 refine wpAny_pyIter_tuple ⟨_,g,rfl,n,rfl⟩ ?_
 have tk:TupKeep h' (h'.push { cls:=.type "tuple_iterator",data:=.fields #[.ref a,.int 0 0] }):=fun b i n e=>push_keep _ _ _ _ e
 exact ⟨h'.objs.size,_,_,items,_,_,σ',h',_,t',rfl,rfl,sm',st,push_keep _ _,ItW.tup rm.handled h'.objs.size a (Nat.ne_of_lt (Heap.lt_size g)) items,⟨⟨_,Heap.get?_push_size _ rfl,rfl,rfl⟩,its,n,push_keep _ _ _ _ g,r.keeps tk⟩,
  fun b m=>by rw [List.mem_singleton.mp m]; exact get_size_none _,q⟩
theorem callBuiltin {A:Around} {env:Env} {id:Str} {u:Value} {l:List Expr} {p p':Pos} {s:Shared} {P:Value→Shared→Prop} (ok:EnvOk sc env) (rm:Room A k) (sm:Sim c σ s.heap) (F:FrR env ρ σ s.heap)
  (hk:sc.names.lookup id=some .globalImplicit) (hd:(id==("__debug__":Str))=false) (hu:c.mg id=none) (hb:bootBuiltins id=some u) (hn:id≠"__name__") (hp:l.all plainE=true) (kp:Kept c u) {R:List V→St→Prop} (hE:EVs c k sc ρ l σ R)
  (h:∀ vs xs σ' h' t',VRs h' vs xs→Sim c σ' h'→Step σ σ' s.heap h'→FrR env ρ σ' h'→R xs σ'→wpAny (model c.prog c.w) A (call u vs) P (fun _ _=>False) { s with heap:=h',toks:=t' }) :
  wpAny (model c.prog c.w) A (eval (.Call (.Name id p) l [] p') env) P (fun _ _=>False) s:=by
 rw [eval_Call_plain ⟨_,_,rfl⟩]
 refine wpAny_bind (EV.andThen (k:=k) (Q:=fun x τ=>x=.stat u∧τ=σ) (EV.blt hk hd hu hb hn ⟨rfl,rfl⟩) ok rm sm F fun va a σ₁ h₁ t₁ ra sm₁ st₁ F₁ q₁=>?_)
 refine im2 ?_ (q₁)
 intro hq286
 obtain rfl:=hq286
 intro hq287
 obtain rfl:=hq287
 rw [show va=u from ra]
 refine callWith_of (P:=fun h=>∀ b o,c.h0.get? b=some o→h.get? b=some o) (by rw [backTo_any p' hp]; rfl) kp ?_
 refine evalArgs_any hp (EVs.run (s:={ s with heap:=h₁,toks:=t₁ }) ok rm p' hp hE sm₁ F₁ fun vs xs σ' h' t' r hl sm' st F' q=>⟨sm'.keep,?_⟩)
 exact h vs xs σ' h' t' r sm' (st₁.trans st) F' q
theorem small1 {a b:Int} (ha:-(2 ^ 62)≤a) (ha':a < 2 ^ 62) (hb:-(2 ^ 62)≤b) (hb':b < 2 ^ 62):Builtin.Range.small a b 1=true:=small_one ha ha' hb hb'
theorem IT.range1 {id:Str} {p p':Pos} {e:Expr} (hid:id="range") (hk:sc.names.lookup id=some .globalImplicit) (hu:c.mg id=none) (hp:plainE e=true)
  (h:EV c k e sc ρ σ fun x σ'=>∃ n:Nat,x=.int n∧n < 2 ^ 60∧Q (rangeV 0 n) (fun _=>True) σ'):IT c k (.Call (.Name id p) [e] [] p') target sc ρ σ Q:=by
 revert hid hk hu hp h
 revert c; revert k; revert sc; revert ρ; revert σ; revert Q; revert target id p p' e
 walk_at "close 11"
 intro target id p p' e Q σ ρ sc k c hid hk hu hp h
 subst hid
 intro env A s ok rm sm F
 refine callBuiltin (k:=k) (u:=.type "range") ok rm sm F hk (by decide +kernel) hu (by kernel_rfl) (by decide +kernel) (by simp [hp]) Kept.type (R:=fun vs σ'=>∃ x,vs=[x]∧∃ n:Nat,x=.int n∧n < 2 ^ 60∧Q (rangeV 0 n) (fun _=>True) σ') (hE:=h.mono fun x σ' q=>⟨x,rfl,q⟩) fun vs xs σ' h' t' r sm' st F' q=>?_
 refine xi1 ?_ (q)
 intro x
 refine im2 ?_
 intro hq288
 obtain rfl:=hq288
 refine xi1 ?_
 intro n
 refine im3 ?_
 intro hq289
 obtain rfl:=hq289
 intro hn q
 refine xi1 ?_ (r.one)
 intro _
 refine im2 ?_
 intro hq290
 obtain rfl:=hq290
 refine xi1 ?_
 intro t hq291
 obtain rfl:=hq291
 refine call_range_1 ?_
 dsimp only
 refine wpAny_pyIter_range (IsRange.new _ _ _ _ _ _ _) (small1 (by decide) (by decide) (by exact ar521) (by exact ar522 hn)) ?_
 rw [rangeSize_one]
 have e1:(if (0:Int) < n then (n:Int) - 0 else 0)=n:=by split <;> walk_at "o"
 rw [e1]
 have hsz:(h'.push { cls:=.type "range",data:=.fields #[.int 0 t',.int n t,.int 1 (t'+1)] }).objs.size=h'.objs.size+1:=Heap.size_push ..
 refine xc10_1 (h'.objs.size+1) _ _ (rangeV 0 n) _ _ σ' h' _ _ (xc0_8 (by rw [← hsz]) rfl sm' st (fun b o z=>push_keep _ _ _ _ (push_keep _ _ _ _ z)) (ItW.range rm.handled _ 0 n) ?_ (⟨?_,q⟩))
 ·show Heap.get? _ _=_
  rw [← hsz]
  simpa [rawInt] using Heap.get?_push_size (h'.push { cls:=.type "range",data:=.fields #[.int 0 t',.int n t,.int 1 (t'+1)] }) (o:={ cls:=.type "range_iterator",data:=.fields #[rawInt 0,rawInt n,rawInt 1] }) rfl
 ·intro b m
  rw [List.mem_singleton.mp m]
  unfold Heap.get?
  rw [Array.getElem?_eq_none (Nat.le_succ _)]
theorem IT.range2 {id:Str} {p p':Pos} {e₁ e₂:Expr} (hid:id="range") (hk:sc.names.lookup id=some .globalImplicit) (hu:c.mg id=none) (hp:plainE e₁=true) (hp':plainE e₂=true)
  (h:EVs c k sc ρ [e₁,e₂] σ fun vs σ'=>∃ a n:Nat,vs=[.int a,.int ((a+n:Nat):Int)]∧a+n < 2 ^ 60∧Q (rangeV a n) (fun _=>True) σ'):IT c k (.Call (.Name id p) [e₁,e₂] [] p') target sc ρ σ Q:=by
 revert hid hk hu hp hp' h
 revert c; revert k; revert sc; revert ρ; revert σ; revert Q; revert target id p p' e₁ e₂
 walk_at "close 12"
 intro target id p p' e₁ e₂ Q σ ρ sc k c hid hk hu hp hp' h
 subst hid
 intro env A s ok rm sm F
 refine callBuiltin (k:=k) (u:=.type "range") ok rm sm F hk (by decide +kernel) hu (by kernel_rfl) (by decide +kernel) (by simp [hp,hp']) Kept.type (hE:=h) fun vs xs σ' h' t' r sm' st F' q=>?_
 refine xi2 ?_ (q)
 intro a n
 refine im3 ?_
 intro hq292
 obtain rfl:=hq292
 intro hn q
 refine xi2 ?_ (r.two)
 intro _ _
 refine im3 ?_
 intro hq293
 obtain rfl:=hq293
 refine xi1 ?_
 intro t hq294
 obtain rfl:=hq294
 refine xi1 ?_
 intro u hq295
 obtain rfl:=hq295
 refine call_range_2 ?_
 dsimp only
 refine wpAny_pyIter_range (IsRange.new _ _ _ _ _ _ _) (small1 (by exact ar521) (by exact ar523 hn) (by exact ar521) (by exact ar522 hn)) ?_
 rw [rangeSize_one]
 have e1:(if (a:Int) < ((a+n:Nat):Int) then ((a+n:Nat):Int) - a else 0)=n:=by split <;> walk_at "o"
 rw [e1]
 have hsz:(h'.push { cls:=.type "range",data:=.fields #[.int a t,.int ((a+n:Nat):Int) u,.int 1 t'] }).objs.size=h'.objs.size+1:=Heap.size_push ..
 refine xc10_1 (h'.objs.size+1) _ _ (rangeV a n) _ _ σ' h' _ _ (xc0_8 (by rw [← hsz]) rfl sm' st (fun b o z=>push_keep _ _ _ _ (push_keep _ _ _ _ z)) (ItW.range rm.handled _ a n) ?_ (⟨?_,q⟩))
 ·show Heap.get? _ _=_
  rw [← hsz]
  simpa [rawInt] using Heap.get?_push_size (h'.push { cls:=.type "range",data:=.fields #[.int a t,.int ((a+n:Nat):Int) u,.int 1 t'] }) (o:={ cls:=.type "range_iterator",data:=.fields #[rawInt a,rawInt n,rawInt 1] }) rfl
 ·intro b m
  rw [List.mem_singleton.mp m]
  unfold Heap.get?
  rw [Array.getElem?_eq_none (Nat.le_succ _)]
theorem get_past {h:Heap} {b:Addr} (e:h.objs.size≤b):h.get? b=none:=by unfold Heap.get?; rw [Array.getElem?_eq_none e]
theorem IT.enumL {id:Str} {p p':Pos} {e:Expr} {elts:List Expr} {tn:Nat} {tp:Pos} (hid:id="enumerate") (hk:sc.names.lookup id=some .globalImplicit) (hu:c.mg id=none) (hp:plainE e=true)
  (h:EV c k e sc ρ σ fun x σ'=>∃ l items,x=.ref l∧(σ' l=some (.list items)∨σ' l=some (.frozen items))∧Q (enumV items) (fun τ=>τ l=some (.list items)∨τ l=some (.frozen items)) σ'):IT c k (.Call (.Name id p) [e] [] p') (.Tuple elts tn tp) sc ρ σ Q:=by
 revert hid hk hu hp h
 revert c; revert k; revert sc; revert ρ; revert σ; revert Q; revert id p p' e elts tn tp
 walk_at "close 13"
 intro id p p' e elts tn tp Q σ ρ sc k c hid hk hu hp h
 subst hid
 intro env A s ok rm sm F
 refine callBuiltin (k:=k) (u:=.type "enumerate") ok rm sm F hk (by decide +kernel) hu (by kernel_rfl) (by decide +kernel) (by simp [hp]) Kept.type (R:=fun vs σ'=>∃ x,vs=[x]∧∃ l items,x=V.ref l∧(σ' l=some (.list items)∨σ' l=some (.frozen items))∧Q (enumV items) (fun τ=>τ l=some (.list items)∨τ l=some (.frozen items)) σ') (hE:=h.mono fun x σ' q=>⟨x,rfl,q⟩) fun vs xs σ' h' t' r sm' st F' q=>?_
 refine xi1 ?_ (q)
 intro x
 refine im2 ?_
 intro hq296
 obtain rfl:=hq296
 refine xi2 ?_
 intro l items
 refine im3 ?_
 intro hq297
 obtain rfl:=hq297
 intro he q
 refine xi1 ?_ (r.one)
 intro _
 refine im2 ?_
 intro hq298
 obtain rfl:=hq298
 intro hq299
 obtain rfl:=hq299
 refine xi2 ?_ (sm'.list he)
 intro its n
 refine im2 ?_
 intro g _
 refine call_enumerate_list (IsL_of g) fun h₁ ie il hz hk=>?_
 refine wpAny_pyIter_enum ie ?_
 refine xc10_1 _ _ _ (enumV items) _ _ σ' h' h₁ t' (xc0_8 rfl rfl sm' st hk (ItW.enumL rm.handled _ _ l (Nat.succ_ne_self _) elts tn tp items) ⟨⟨_,ie⟩,il⟩ (⟨?_,q⟩))
 intro b m
 rcases List.mem_cons.mp m with rfl | m
 ·exact get_past (Nat.le_succ _)
 ·rw [List.mem_singleton.mp m]
  exact get_size_none _
theorem IT.enumT {id:Str} {p p':Pos} {e:Expr} {elts:List Expr} {tn:Nat} {tp:Pos} (hid:id="enumerate") (hk:sc.names.lookup id=some .globalImplicit) (hu:c.mg id=none) (hp:plainE e=true)
  (h:EV c k e sc ρ σ fun x σ'=>∃ items,x=.tup items∧Q (enumV items) (fun _=>True) σ'):IT c k (.Call (.Name id p) [e] [] p') (.Tuple elts tn tp) sc ρ σ Q:=by
 subst hid
 intro env A s ok rm sm F
 refine callBuiltin (k:=k) (u:=.type "enumerate") ok rm sm F hk (by decide +kernel) hu (by kernel_rfl) (by decide +kernel) (by simp [hp]) Kept.type (R:=fun vs σ'=>∃ x,vs=[x]∧∃ items,x=V.tup items∧Q (enumV items) (fun _=>True) σ') (hE:=h.mono fun x σ' q=>⟨x,rfl,q⟩) fun vs xs σ' h' t' r sm' st F' q=>?_
 refine xi1 ?_ (q)
 intro x
 refine im2 ?_
 intro hq300
 obtain rfl:=hq300
 refine xi1 ?_
 intro items
 refine im2 ?_
 intro hq301
 obtain rfl:=hq301
 intro q
 refine xi1 ?_ (r.one)
 intro _
 refine im2 ?_
 intro hq302
 obtain rfl:=hq302
 refine xi3 ?_
 intro a its n
 refine im3 ?_
 intro hq303
 obtain rfl:=hq303
 intro g r
 refine call_enumerate_tup g fun h₁ ie il hz hk=>?_
 refine wpAny_pyIter_enum ie ?_
 have hlt:a < h'.objs.size:=Heap.lt_size g
 refine xc10_1 _ _ _ (enumV items) _ _ σ' h' h₁ t' (xc0_8 rfl rfl sm' st hk (ItW.enumT rm.handled _ _ a (Nat.succ_ne_self _) (Nat.ne_of_lt (Nat.lt_succ_of_lt hlt)) (Nat.ne_of_lt hlt) elts tn tp items) ⟨⟨_,ie⟩,il,its,n,hk _ _ g,r.keeps fun b i n e=>hk b _ e⟩ (⟨?_,q⟩))
 intro b m
 rcases List.mem_cons.mp m with rfl | m
 ·exact get_past (Nat.le_succ _)
 ·rw [List.mem_singleton.mp m]
  exact get_size_none _
end
noncomputable def freeOf (names:List (Str×NameKind)) (n:Str):Prop:=(n,NameKind.free)∈names
theorem closure_go {env:Env}:∀ (names:List (Str×NameKind)) (acc:List (Str×Addr)),(∀ n,(n,NameKind.free)∈names→∃ a,env.cells.lookup n=some a) →
  ∃ cl,(forIn names acc fun (x:Str×NameKind) cs=>(if x.2==.free then do let a ← cellOf env x.1; pure (ForInStep.yield ((x.1,a)::cs)) else pure (ForInStep.yield cs):Sem _))=pure cl ∧
   (∀ p∈cl,p∈acc∨((p.1,NameKind.free)∈names∧env.cells.lookup p.1=some p.2))∧(∀ p∈acc,p∈cl)∧(∀ n,(n,NameKind.free)∈names→∃ a,(n,a)∈cl):=by
 intro names
 induction names with
 | nil=>exact fun acc _=>⟨acc,rfl,fun p h=>.inl h,fun p h=>h,fun _ h=>by simp at h⟩
 | cons x r IH =>
  intro acc h
  obtain ⟨n,kd⟩:=x
  rw [List.forIn_cons]
  by_cases q:(kd==NameKind.free)=true
  ·have hk:kd=.free:=by cases kd <;> first | rfl | cases q
   subst hk
   refine xi1 ?_ (h n List.mem_cons_self)
   intro a ha
   refine xi1 ?_ (IH ((n,a)::acc) (fun m hm=>h m (List.mem_cons_of_mem _ hm)))
   intro cl
   refine im4 ?_
   intro e f g l
   refine xc1_4 cl ?_ (fun p hp=>?_) (fun p hp=>g p (List.mem_cons_of_mem _ hp)) (fun m hm=>?_)
   ·dsimp only
    rw [if_pos q]
    unfold cellOf
    rw [ha]
    exact e
   ·rcases f p hp with z | z
    ·rcases List.mem_cons.mp z with rfl | z
     ·exact .inr ⟨List.mem_cons_self,ha⟩
     ·exact .inl z
    ·exact .inr ⟨List.mem_cons_of_mem _ z.1,z.2⟩
   ·rcases List.mem_cons.mp hm with z | z
    ·cases z; exact ⟨a,g _ List.mem_cons_self⟩
    ·exact l m z
  ·refine xi1 ?_ (IH acc (fun m hm=>h m (List.mem_cons_of_mem _ hm)))
   intro cl
   refine im4 ?_
   intro e f g l
   refine xc1_4 cl ?_ (fun p hp=>?_) g (fun m hm=>?_)
   ·dsimp only
    rw [if_neg q]
    exact e
   ·rcases f p hp with z | z
    ·exact .inl z
    ·exact .inr ⟨List.mem_cons_of_mem _ z.1,z.2⟩
   ·rcases List.mem_cons.mp hm with z | z
    ·cases z; exact absurd rfl q
    ·exact l m z
theorem lookup_of_mem {α:Type}:∀ {l:List (Str×α)} {n:Str} {a:α},(n,a)∈l→∃ b,l.lookup n=some b:=by
 intro l
 induction l with
 | nil=>exact fun h=>nomatch h
 | cons pq r ih =>
  obtain ⟨m,x⟩:=pq
  intro n a h
  rw [List.lookup_cons]
  cases q:n==m with
  | true=>exact ⟨x,rfl⟩
  | false =>
   rcases List.mem_cons.mp h with z | z
   ·cases z; simp at q
   ·exact ih z
theorem closure_ok {env:Env} {scope:Scope} (h:∀ n,freeOf scope.names n→∃ a,env.cells.lookup n=some a) :
  ∃ cl,closureFor scope env=pure cl∧(∀ n a,cl.lookup n=some a→freeOf scope.names n∧env.cells.lookup n=some a)∧∀ n,freeOf scope.names n→∃ a,cl.lookup n=some a:=by
 revert h
 revert env; revert scope
 walk_at "close 2"
 intro scope env h
 refine xi1 ?_ (closure_go scope.names [] h)
 intro cl
 refine im4 ?_
 intro e f g l
 refine xc1_3 cl ?_ (fun n a ha=>?_) (fun n hn=>let ⟨a,ha⟩:=l n hn; lookup_of_mem ha)
 ·have e':closureFor scope env=(forIn scope.names [] fun (x:Str×NameKind) cs=>(if x.2==.free then do let a ← cellOf env x.1; pure (ForInStep.yield ((x.1,a)::cs)) else pure (ForInStep.yield cs):Sem _)) >>= fun r=>pure r:=by
   unfold closureFor
   congr 1
  rw [e',e]
  rfl
 ·rcases f _ (mem_of_lookup ha) with z | z
  ·simp at z
  ·exact z
noncomputable def compScope (sc scope:Scope):Scope:={ scope with names:=scope.names.map fun (n,k)=>if (k==.free&&sc.names.lookup n==some .cell) then (n,.cell) else (n,k) }
theorem relabel_eq {sc:Scope} {env:Env} (ok:EnvOk sc env) (scope:Scope):relabel scope env=compScope sc scope:=by
 unfold relabel compScope
 have:∀ n,env.kindOf n=sc.names.lookup n:=ok.names
 simp only [ok.scope,this]
 simp
theorem compEnv_ok {sc:Scope} {env:Env} (ok:EnvOk sc env) {scope:Scope} (hk:scope.kind=.function) (cl:List (Str×Addr)) (C:Addr):EnvOk (compScope sc scope) (compEnvC scope cl C env):=by
 refine ⟨hk,?_,fun x=>?_,ok.globals,ok.builtins⟩
 ·exact hk
 ·show (relabel scope env).names.lookup x=_
  rw [relabel_eq ok]
noncomputable def compLoc (scope:Scope) (ρ:Loc):Loc:=fun x=>if scope.names.lookup x=some .free then ρ x else none
section
variable {c:Cx} {k:Nat} {sc:Scope} {env:Env} {ρ:Loc} {σ:St}
theorem FrR.less {h:Heap} {ρ':Loc} (F:FrR env ρ σ h) (l:∀ x v,ρ' x=some v→ρ x=some v):FrR env ρ' σ h:=by
 refine xi1 ?_ (F.ns)
 intro m
 refine im2 ?_
 intro hn hm
 refine ⟨⟨m,hn,fun x v a b=>hm x v a (l x v b)⟩,fun x cl e=>?_,fun x v e=>F.has x v (l x v e),F.apart,F.off,F.offL,F.offC⟩
 refine xi1 ?_ (F.cell x cl e)
 intro ov
 refine im2 ?_
 intro ic z
 exact xc1_2 ov ic (fun v a b=>z v a (l x v b))
theorem Sim.atOwn {h h':Heap} {a:Addr} {o:Obj} (sm:Sim c σ h) (ho:h.get? a=some o) (hd:(∃ es ep,o.data=.dict es ep)∨∃ v,o.data=.cell v) (hm:mutAt σ a=false) (h0:c.h0.get? a=none) (hs:Heap.SameBut a h h'):Sim c σ h'∧TupKeep h h':=by
 have tk:TupKeep h h':=fun b items n e=>by
  by_cases q:b=a
  ·subst q
   rw [ho] at e
   cases e
   rcases hd with ⟨_,_,z⟩ | ⟨_,z⟩ <;> cases z
  ·rw [get_same hs q]
   exact e
 refine ⟨⟨fun b o' e=>?_,fun b x e=>?_,sm.new⟩,tk⟩
 ·rw [get_same hs]
  ·exact sm.keep _ _ e
  ·rintro rfl
   rw [h0] at e
   cases e
 ·have r:=sm.rep b x e
  have q:b≠a:=by
   rintro rfl
   cases x with
   | list vs=>unfold mutAt at hm; rw [e] at hm; cases hm
   | dict vs=>unfold mutAt at hm; rw [e] at hm; cases hm
   | inst C d=>have z:h.get? b=_:=r; rw [ho] at z; cases z; rcases hd with ⟨_,_,z⟩ | ⟨_,z⟩ <;> cases z
   | frozen vs=>obtain ⟨_,_,z,_⟩:=r; rw [ho] at z; cases z; rcases hd with ⟨_,_,z⟩ | ⟨_,z⟩ <;> cases z
  exact r.keep (fun o z=>by rw [get_same hs q]; exact z) tk
theorem Step.free {σ':St} {ws:List Addr} {hB h h':Heap} (st:Step σ σ' hB h) (fr:∀ b∈ws,hB.get? b=none) (hk:∀ b o,b ∉ ws→h.get? b=some o→h'.get? b=some o):Step σ σ' hB h' :=
 ⟨fun b o e m=>hk b o (fun z=>by rw [fr _ z] at e; cases e) (st.keep b o e m),st.new⟩
theorem storeLoc {A:Around} {s:Shared} {x:Str} {v:V} {u:Value} {P:Shared→Prop} (ok:EnvOk sc env) (sm:Sim c σ s.heap) (h0:c.h0.get? env.locals=none) (F:FrR env ρ σ s.heap) (hk:sc.names.lookup x=some .local) (r:VR s.heap u v)
  (q:∀ h' t',Sim c σ h'→FrR env (setL ρ x v) σ h'→Heap.SameBut env.locals s.heap h'→TupKeep s.heap h'→P { s with heap:=h',toks:=t' }) :
  wpAny (model c.prog c.w) A (storeName env x u) (fun _ s'=>P s') (fun _ _=>False) s:=by
 have hk':env.kindOf x=some .local:=(ok.names x).trans hk
 refine xi1 ?_ (F.ns)
 intro m
 refine im2 ?_
 intro hn hm
 refine wpAny_storeName_local hk' hn (fun h' hn' hs=>?_) (hp_of ok)
 refine xi1 ?_ (F.ownGet (.inl rfl))
 intro o
 refine im3 ?_
 intro ho mt hd
 refine im2 ?_ (sm.atOwn ho hd mt h0 hs)
 intro sm' tk
 exact q h' _ sm' (F.setLocal hn hk' hn' hs tk r) hs tk
inductive CTg (sc:Scope):Expr→V→Loc→Loc→Prop where
 | name {x p v ρ}:sc.names.lookup x=some .local→CTg sc (.Name x p) v ρ (setL ρ x v)
 | pair {x p y q n tp a b ρ}:sc.names.lookup x=some .local→sc.names.lookup y=some .local→CTg sc (.Tuple [.Name x p,.Name y q] n tp) (.tup [a,b]) ρ (setL (setL ρ x a) y b)
theorem CTg.run {A:Around} {s:Shared} {t:Expr} {v:V} {u:Value} {ρ':Loc} {P:Shared→Prop} (g:CTg sc t v ρ ρ') (ok:EnvOk sc env) (rm:Room A k) (sm:Sim c σ s.heap) (h0:c.h0.get? env.locals=none) (F:FrR env ρ σ s.heap) (r:VR s.heap u v)
  (q:∀ h' t',Sim c σ h'→FrR env ρ' σ h'→(∀ b o,b≠env.locals→s.heap.get? b=some o→h'.get? b=some o)→TupKeep s.heap h'→P { s with heap:=h',toks:=t' }) :
  wpAny (model c.prog c.w) A (assign t env u) (fun _ s'=>P s') (fun _ _=>False) s:=by
 revert g ok rm sm h0 F r q
 revert c; revert k; revert sc; revert env; revert ρ; revert σ; revert A; revert s; revert P; revert t v u ρ'
 walk_at "close 13"
 intro t v u ρ' P s A σ ρ env sc k c g ok rm sm h0 F r q
 cases g with
 | name hk =>
  refine wpAny_assign_Name (storeLoc ok sm h0 F hk r fun h' t' sm' F' hs tk=>q h' t' sm' F' (fun b o n e=>?_) tk)
  exact hs.extBut b o n e
 | pair hx hy =>
  rename_i x p y q' n tp a b
  refine xi3 ?_ (r)
  intro ad its m
  refine im3 ?_
  intro hq304
  obtain rfl:=hq304
  intro g r
  refine xi2 ?_ (r.two)
  intro va vb
  refine im3 ?_
  intro hq305
  obtain rfl:=hq305
  intro ra rb
  refine wpAny_assign_Tuple rm.handled (items:=[va,vb].toArray) ⟨_,g,rfl,m,rfl⟩ rfl rfl fun h₁ ex=>?_
  refine im3 ?_ (Step.ofExt sm (get_size_none _) ex)
  intro sm₁ st₁ tk₁
  have F₁:=F.step sm st₁
  show wpAny _ A (do holding [vb] (assign (.Name x p) env va); do holding [] (assign (.Name y q') env vb); pure ()) _ _ _
  refine wpAny_bind (wpAny_holding (wpAny_assign_Name ?_))
  refine storeLoc (s:={ s with heap:=h₁ }) ok sm₁ h0 F₁ hx (ra.keeps tk₁) fun h₂ t₂ sm₂ F₂ hs₂ tk₂=>?_
  refine wpAny_bind (wpAny_holding (wpAny_assign_Name ?_))
  refine storeLoc (s:={ s with heap:=h₂,toks:=t₂ }) ok sm₂ h0 F₂ hy ((rb.keeps tk₁).keeps tk₂) fun h₃ t₃ sm₃ F₃ hs₃ tk₃=>?_
  refine wpAny_pure (q h₃ t₃ sm₃ F₃ (fun b o n e=>?_) (fun a i n e=>tk₃ _ _ _ (tk₂ _ _ _ (tk₁ _ _ _ e))))
  exact hs₃.extBut b o n (hs₂.extBut b o n (ex b o (by rintro rfl; rw [get_size_none] at e; cases e) e))
noncomputable def CondV (c:Cx) (k:Nat) (sc:Scope) (ρ:Loc) (σ:St) (Q:Bool→St→Prop):List Expr→Prop
 | []=>Q true σ
 | [t]=>TV c k t sc ρ σ Q
 | _=>False
theorem CondV.run {A:Around} {s:Shared} {ifs:List Expr} {Q:Bool→St→Prop} (h:CondV c k sc ρ σ Q ifs) (ok:EnvOk sc env) (rm:Room A k) (sm:Sim c σ s.heap) (F:FrR env ρ σ s.heap) :
  wpAny (model c.prog c.w) A (forIn ifs true fun c r=>if r=true then do let ok ← isTrue c env (eval c env); pure (ForInStep.yield ok) else pure (ForInStep.yield r)) (PostB c σ s Q) (fun _ _=>False) s:=by
 cases ifs with
 | nil=>exact wpAny_tests_nil ⟨σ,s.heap,s.toks,rfl,sm,Step.refl _ _,h⟩
 | cons t r =>
  cases r with
  | nil=>exact wpAny_tests_one (h env A s ok rm sm F)
  | cons _ _=>exact h.elim
theorem compLoop_any {A:Around} {s:Shared} {R:Result→Shared→Prop} {elt target iter:Expr} {ifs:List Expr} {scope:Scope} {pos:Pos} {it acc:Value} {env:Env} (I:Nat→Shared→Prop)
  (turn:∀ n s,I n s→wpAny (model c.prog c.w) A (pyNext it) (fun r s₁=>match r with
   | none=>R (.ok .next) s₁
   | some v=>wpAny (model c.prog c.w) A (letOwnedTupleGo target it v) (fun _ s₁'=>wpAny (model c.prog c.w) A (assign target env v) (fun _ s₂ =>
     wpAny (model c.prog c.w) A (forIn ifs true fun c r=>if r=true then do let ok ← isTrue c env (eval c env); pure (ForInStep.yield ok) else pure (ForInStep.yield r)) (fun ok s₃ =>
      if ok=true then wpAny (model c.prog c.w) A (eval elt env) (fun x s₄ =>
       wpAny (model c.prog c.w) A (call (.builtin "list.append") [acc,x]) (fun _ s₅=>∃ m,m < n∧I m s₅) (fun _ _=>False) s₄) (fun _ _=>False) s₃
      else ∃ m,m < n∧I m s₃) (fun _ _=>False) s₂) (fun _ _=>False) s₁') (fun _ _=>False) s₁) (fun _ _=>False) s)
  (n:Nat) (h:I n s):codeAny (model c.prog c.w) A (.compLoop (.ListComp elt [⟨target,iter,ifs,0⟩] scope pos) 0 it acc env) R s:=by
 revert turn h
 revert c; revert env; revert A; revert s; revert R; revert n; revert elt target iter ifs scope pos it acc I
 walk_at "close 15"
 intro elt target iter ifs scope pos it acc I n R s A env c turn h
 refine codeAny_loop rfl I (fun n s hI=>?_) n h
 show wpAny _ A ((compTurn (.ListComp elt [⟨target,iter,ifs,0⟩] scope pos) 0 it acc env).onRaise (fun x=>do noteFrame x env; theTreesLotGoes x)) _ _ s
 refine wpAny_noted ?_
 rw [compTurn_list]
 have nr:∀ {α:Type} {t:Sem α} {Q:α→Shared→Prop} {E:Value→Shared→Prop} {s:Shared},wpAny (model c.prog c.w) A t Q (fun _ _=>False) s→wpAny (model c.prog c.w) A t Q E s:=fun h=>wpAny_mono h (fun _ _ x=>x) fun _ _ e=>e.elim
 refine wpAny_bind (wpAny_standAt (wpAny_bind (wpAny_mono (nr (turn n s hI)) (fun r s₁ h₁=>?_) fun _ _ e=>e)))
 cases r with
 | none=>exact wpAny_pure h₁
 | some v =>
  refine wpAny_bind (wpAny_mono (nr h₁) (fun _ s₁' h₁'=>?_) fun _ _ e=>e)
  refine wpAny_bind (wpAny_mono (nr h₁') (fun _ s₂ h₂=>wpAny_bind (wpAny_mono (nr h₂) (fun ok s₃ h₃=>?_) fun _ _ e=>e)) fun _ _ e=>e)
  cases ok with
  | false =>
   simp only [Bool.false_eq_true,if_false] at h₃ ⊢
   exact wpAny_bind (wpAny_pure (wpAny_pure ⟨rfl,h₃⟩))
  | true =>
   simp only [if_true] at h₃ ⊢
   exact wpAny_bind (wpAny_bind (wpAny_mono (nr h₃) (fun x s₄ h₄=>wpAny_bind (wpAny_mono (nr h₄) (fun _ s₅ h₅=>wpAny_pure (wpAny_pure ⟨rfl,h₅⟩)) fun _ _ e=>e)) fun _ _ e=>e))
end
noncomputable def CompQ (c:Cx) (k:Nat) (elt target:Expr) (ifs:List Expr) (scope:Scope) (sc:Scope) (ρ:Loc) (Q:V→St→Prop) (items:List V) (Ok:St→Prop) (σ₁:St):Prop :=
 items.length≤sizeLine∧∀ D,σ₁ D=none→∃ J:Nat→List V→St→Prop,J 0 [] (upM σ₁ D (.list []))∧(∀ i acc τ,J i acc τ→Ok τ∧τ D=some (.list acc)∧acc.length≤i) ∧
  (∀ i acc τ x,items[i]?=some x→J i acc τ→∃ ρ',CTg (compScope sc scope) target x (compLoc scope ρ) ρ' ∧
   CondV c k (compScope sc scope) ρ' τ (fun b τ'=>if b=true then EV c k elt (compScope sc scope) ρ' τ' fun v τ''=>τ'' D=some (.list acc)∧J (i+1) (acc++[v]) (upM τ'' D (.list (acc++[v]))) else J (i+1) acc τ') ifs) ∧
  ∀ acc τ,J items.length acc τ→Q (.ref D) τ
section
variable {c:Cx} {k:Nat} {sc:Scope} {env:Env} {ρ:Loc} {σ:St}
theorem lookup_map_local {sc:Scope}:∀ {names:List (Str×NameKind)} {x:Str},names.lookup x=some .local →
  (names.map fun (n,k)=>if (k==NameKind.free&&sc.names.lookup n==some .cell) then (n,NameKind.cell) else (n,k)).lookup x=some .local:=by
 intro names
 induction names with
 | nil =>
  intro _ h
  simp at h
 | cons pq r ih =>
  obtain ⟨n,k⟩:=pq
  intro x h
  have ih:=@ih x
  rw [List.map_cons]
  dsimp only
  rw [List.lookup_cons] at h
  cases hx:x==n with
  | true =>
   rw [hx] at h
   cases h
   simp [List.lookup_cons,hx]
  | false =>
   rw [hx] at h
   by_cases hc:(k==NameKind.free&&sc.names.lookup n==some .cell)=true
   ·rw [if_pos hc,List.lookup_cons,hx]
    exact ih h
   ·rw [if_neg hc,List.lookup_cons,hx]
    exact ih h
theorem lookup_map_free {sc:Scope}:∀ {names:List (Str×NameKind)} {x:Str},names.lookup x=some .free→sc.names.lookup x=some .cell →
  (names.map fun (n,k)=>if (k==NameKind.free&&sc.names.lookup n==some .cell) then (n,NameKind.cell) else (n,k)).lookup x=some .cell:=by
 intro names
 induction names with
 | nil =>
  intro _ h _
  simp at h
 | cons pq r ih =>
  obtain ⟨n,k⟩:=pq
  intro x h hs
  have ih:=@ih x
  rw [List.map_cons]
  dsimp only
  rw [List.lookup_cons] at h
  cases hx:x==n with
  | true =>
   rw [hx] at h
   cases h
   have:x=n:=beq_iff_eq.mp hx
   subst this
   simp [List.lookup_cons,hs]
  | false =>
   rw [hx] at h
   by_cases hc:(k==NameKind.free&&sc.names.lookup n==some .cell)=true
   ·rw [if_pos hc,List.lookup_cons,hx]
    exact ih h hs
   ·rw [if_neg hc,List.lookup_cons,hx]
    exact ih h hs
theorem comp_frame {h h':Heap} {scope:Scope} {cl:List (Str×Addr)} {C:Addr} (ok:EnvOk sc env) (F:FrR env ρ σ h) (hk:∀ b o,h.get? b=some o→h'.get? b=some o) (hC:h.get? C=none)
  (hn:h'.Ns C fun _=>none) (hm:mutAt σ C=false) (tk:TupKeep h h') (hcl:∀ n a,cl.lookup n=some a→env.cells.lookup n=some a) (hcl2:∀ n,freeOf scope.names n→∃ a,cl.lookup n=some a)
  (hcap:∀ n,freeOf scope.names n→sc.names.lookup n=some .cell):FrR (compEnvC scope cl C env) (compLoc scope ρ) σ h':=by
 revert ok F hk hC hn hm tk hcl hcl2 hcap
 revert sc; revert env; revert ρ; revert σ; revert h h' scope cl C
 walk_at "close 9"
 intro h h' scope cl C σ ρ env sc ok F hk hC hn hm tk hcl hcl2 hcap
 have kd:∀ x,(compEnvC scope cl C env).kindOf x=(compScope sc scope).names.lookup x:=fun x=>by
  show (relabel scope env).names.lookup x=_
  rw [relabel_eq ok]
 refine ⟨⟨_,hn,fun x v a b=>?_⟩,fun x a e=>?_,fun x v e=>?_,fun x y a e e'=>F.apart x y a (hcl _ _ e) (hcl _ _ e'),fun x a e=>?_,hm,fun x a e=>F.offC x a (hcl x a e)⟩
 ·unfold compLoc at b
  split at b
  ·rename_i q
   rw [kd] at a
   have:=lookup_map_free q (hcap x (mem_of_lookup q))
   rw [show (compScope sc scope).names.lookup x=some .cell from this] at a
   cases a
  ·cases b
 ·refine xi1 ?_ (F.cell x a (hcl x a e))
  intro ov
  refine im2 ?_
  refine xi1 ?_
  intro o
  refine im2 ?_
  intro ho hd z
  refine xc1_2 ov ⟨o,hk _ _ ho,hd⟩ (fun v a' b=>?_)
  unfold compLoc at b
  split at b
  ·rename_i q
   refine xi1 ?_ (z v (by rw [ok.names,hcap x (mem_of_lookup q)]; simp) b)
   intro u
   refine im2 ?_
   intro e1 e2
   exact xc1_2 u e1 (e2.keeps tk)
  ·cases b
 ·unfold compLoc at e
  split at e
  ·rename_i q
   refine .inr ⟨.inl ?_,hcl2 x (mem_of_lookup q)⟩
   rw [kd]
   exact lookup_map_free q (hcap x (mem_of_lookup q))
  ·cases e
 ·refine xi1 ?_ (F.cell x a (hcl x a e))
  intro ov
  refine im2 ?_
  refine xi1 ?_
  intro o
  refine im2 ?_
  intro ho hd z
  intro z
  rw [show a=C from z,hC] at ho
  cases ho
theorem comp_core {A:Around} {s:Shared} {elt target iter:Expr} {ifs:List Expr} {scope:Scope} {pos:Pos} {cl:List (Str×Addr)} {Q:V→St→Prop} {I:Addr} {fp wr:List Addr} {items:List V} {S0:Nat→Heap→Prop} {Ok:St→Prop} {σ₁:St} {hB:Heap}
  {RR:Value→Addr→Result→Shared→Prop} (ok:EnvOk sc env) (rm:Room A k) (hcell:∀ y∈scope.names,y.2≠.cell) (hkind:scope.kind=.function) (hcap:∀ n,freeOf scope.names n→sc.names.lookup n=some .cell)
  (hcl:∀ n a,cl.lookup n=some a→env.cells.lookup n=some a) (hcl2:∀ n,freeOf scope.names n→∃ a,cl.lookup n=some a)
  (smB:Sim c σ₁ hB) (FB:FrR env ρ σ₁ hB) (hk2:∀ b o,hB.get? b=some o→s.heap.get? b=some o) (W:ItW c A target I fp wr items S0 Ok) (s0:S0 0 s.heap) (frw:∀ b∈wr,hB.get? b=none)
  (hQ:CompQ c k elt target ifs scope sc ρ Q items Ok σ₁)
  (hRR:∀ D C h' t' τ,s.heap.get? C=none→hB.get? C=none→Sim c τ h'→Step σ₁ τ hB h'→FrR (compEnvC scope cl C env) (compLoc scope ρ) τ h'→Q (.ref D) τ→RR (.ref D) C (.ok .next) { s with heap:=h',toks:=t' }) :
  wpAny (model c.prog c.w) A (newList []) (fun acc s₃=>wpAny (model c.prog c.w) A (newFunctionEnv scope env.globals cl [] env.qual none .none (some env)) (fun cenv s₄ =>
   codeAny (model c.prog c.w) A (.compStart (.ListComp elt [⟨target,iter,ifs,0⟩] scope pos) 0 (.ref I) acc { cenv with scope:=relabel scope env }) (RR acc cenv.locals) s₄) (fun _ _=>False) s₃) (fun _ _=>False) s:=by
 revert ok rm hcell hkind hcap hcl hcl2 smB FB hk2 W s0 frw hQ hRR
 revert c; revert k; revert sc; revert env; revert ρ; revert A; revert s; revert Q; revert elt target iter ifs scope pos cl I fp wr items S0 Ok σ₁ hB RR
 walk_at "close 24"
 intro elt target iter ifs scope pos cl I fp wr items S0 Ok σ₁ hB RR Q s A ρ env sc k c ok rm hcell hkind hcap hcl hcl2 smB FB hk2 W s0 frw hQ hRR
 refine im2 ?_ (hQ)
 intro hsz hQ
 refine wpAny_newObj_type (wpAny_newFunctionEnv hcell (by intro y hy; simp at hy) (fun h₁ hns₁ hsb₁=>?_) hkind)
 dsimp only at hns₁ hsb₁ ⊢
 generalize hH2:s.heap.push { cls:=.type "list",dict:=none,data:=.seq ([]:List Value).toArray }=H2 at hns₁ hsb₁ ⊢
 generalize hDD:s.heap.objs.size=D
 have hC:H2.objs.size=D+1:=by rw [← hH2,Heap.size_push,hDD]
 generalize hCC:H2.objs.size=C at hns₁ hsb₁ hC ⊢
 have sD:s.heap.get? D=none:=hDD ▸ get_size_none _
 have sC:s.heap.get? C=none:=get_past (by rw [hDD,hC]; exact Nat.le_succ _)
 have hDC:D≠C:=by rw [hC]; exact Nat.ne_of_lt (Nat.lt_succ_self _)
 have fromB:∀ {b},s.heap.get? b=none→hB.get? b=none:=fun {b} e=>by
  cases q:hB.get? b with
  | none=>rfl
  | some o=>rw [hk2 b o q] at e; cases e
 have h0of:∀ {b},hB.get? b=none→c.h0.get? b=none:=fun {b} e=>by
  cases q:c.h0.get? b with
  | none=>rfl
  | some o=>rw [smB.keep b o q] at e; cases e
 have hk1:∀ b o,s.heap.get? b=some o→h₁.get? b=some o:=fun b o e =>
  hsb₁.extBut b o (by rintro rfl; rw [sC] at e; cases e) (Heap.get?_push_of_some _ (hH2 ▸ Heap.get?_push_of_some _ e))
 have gD:h₁.get? D=some (listO [] 0):=by
  refine hsb₁.extBut D _ hDC (Heap.get?_push_of_some _ ?_)
  rw [← hH2,← hDD]
  exact Heap.get?_push_size _ rfl
 have hkB:∀ b o,hB.get? b=some o→h₁.get? b=some o:=fun b o e=>hk1 b o (hk2 b o e)
 have σD:σ₁ D=none:=smB.fresh (fromB sD)
 refine im3 ?_ (keep_all (s:={ s with heap:=hB }) smB hkB)
 intro smb' stb' tkB
 have sm1:Sim c (upM σ₁ D (.list [])) h₁:=by
  refine ⟨smb'.keep,fun a y e=>?_,fun a e=>?_⟩
  ·unfold upM at e
   split at e
   ·rename_i z; subst z; cases e; exact ⟨[],0,gD,rfl⟩
   ·exact smb'.rep a y e
  ·rw [mutAt_upd] at e
   split at e
   ·rename_i z; subst z; exact h0of (fromB sD)
   ·exact smB.new a e
 have st1:Step σ₁ (upM σ₁ D (.list [])) hB h₁:=by
  refine ⟨stb'.keep,fun a e=>?_⟩
  rw [mutAt_upd] at e
  split at e
  ·rename_i z; subst z; exact .inr (fromB sD)
  ·exact .inl e
 have mC:mutAt (upM σ₁ D (.list [])) C=false:=by
  rw [mutAt_upd,if_neg (Ne.symm hDC)]
  unfold mutAt
  rw [smB.fresh (fromB sC)]
 have FD:FrR env ρ (upM σ₁ D (.list [])) h₁:=FB.step smB st1
 have F1:FrR (compEnvC scope cl C env) (compLoc scope ρ) (upM σ₁ D (.list [])) h₁:=by
  refine comp_frame (h:=hB) ok ⟨FB.ns,FB.cell,FB.has,FB.apart,FB.off,FD.offL,FD.offC⟩ hkB (fromB sC) hns₁ mC tkB hcl hcl2 hcap
 have s1:S0 0 h₁:=W.frame _ _ _ s0 (fun a i n e=>hk1 _ _ e) fun b _ o e=>hk1 b o e
 refine xi1 ?_ (hQ D σD)
 intro J
 refine im4 ?_
 intro j0 jok jst jend
 have okc:=compEnv_ok ok hkind cl C
 have h0w:∀ b∈wr,c.h0.get? b=none:=fun b m=>h0of (frw b m)
 have h0C:c.h0.get? C=none:=h0of (fromB sC)
 have notCw:∀ {i h},S0 i h→(∃ o es ep,h.get? C=some o∧o.data=.dict es ep)→C ∉ wr:=fun st ⟨o,es,ep,e,d⟩ m=>by
  refine xi2 ?_ (W.liveW _ _ st C m)
  intro o' vs
  refine im2 ?_
  intro e' d'
  rw [e] at e'
  cases e'
  rw [d] at d'
  cases d'
 have loop:codeAny (model c.prog c.w) A (.compLoop (.ListComp elt [⟨target,iter,ifs,0⟩] scope pos) 0 (.ref I) (.ref D) (compEnvC scope cl C env)) (RR (.ref D) C) { s with heap:=h₁,toks:=s.toks+([]:List (Str×Value)).length }:=by
  refine compLoop_any
   (fun n s'=>∃ i acc τ h' t',s'={ s with heap:=h',toks:=t' }∧Sim c τ h'∧Step σ₁ τ hB h'∧FrR (compEnvC scope cl C env) (compLoc scope ρ) τ h'∧S0 i h'∧J i acc τ∧i≤items.length∧n=items.length+1 - i) ?_ (items.length+1)
   ⟨0,[],_,h₁,_,rfl,sm1,st1,F1,s1,j0,Nat.zero_le _,rfl⟩
  intro n s'
  refine xi5 ?_
  intro i acc τ h' t'
  refine im8 ?_
  intro hq306
  obtain rfl:=hq306
  intro sm' st' F' si ji hi hq307
  obtain rfl:=hq307
  cases hv:items[i]? with
  | none =>
   have hlen:i=items.length:=Nat.le_antisymm hi (by simpa using hv)
   refine wpAny_mono (W.done i τ { s with heap:=h',toks:=t' } (fun s₁=>RR (.ref D) C (.ok .next) s₁) sm' (jok _ _ _ ji).1 si hv fun h₂ t₂ hk=>?_) (fun r s₁ hr=>?_) fun _ _ e=>e.elim
   ·refine im3 ?_ (iter_step sm' F' (W.liveW _ _ si) hk h0w)
    intro sm₂ F₂ _
    exact hRR D C h₂ t₂ τ sC (fromB sC) sm₂ (st'.free frw hk) F₂ (jend _ _ (hlen ▸ ji))
   ·refine im2 ?_ (hr)
    intro hq308
    obtain rfl:=hq308
    intro q
    exact q
  | some x =>
   have hlt:i < items.length:=(List.getElem?_eq_some_iff.mp hv).1
   refine xi1 ?_ (jst i acc τ x hv ji)
   intro ρ'
   refine im2 ?_
   intro tg step
   refine wpAny_mono (W.item i τ { s with heap:=h',toks:=t' } x
    (fun v s₁=>∃ h₁ t₁,s₁={ s with heap:=h₁,toks:=t₁ }∧VR h₁ v x∧S0 (i+1) h₁∧(∀ b o,b ∉ wr→h'.get? b=some o→h₁.get? b=some o)) sm' (jok _ _ _ ji).1 si hv fun v h₁ t₁ a b d=>⟨h₁,t₁,rfl,a,b,d⟩)
    (fun r s₁ hr=>?_) fun _ _ e=>e.elim
   refine xi1 ?_ (hr)
   intro v
   refine im2 ?_
   intro hq309
   obtain rfl:=hq309
   intro q
   refine wpAny_mono q (fun _ s₂ q=>?_) fun _ _ e=>e.elim
   refine xi2 ?_ (q)
   intro h₂ t₂
   refine im4 ?_
   intro hq310
   obtain rfl:=hq310
   intro rv si₂ hk
   refine im3 ?_ (iter_step sm' F' (W.liveW _ _ si) hk h0w)
   intro sm₂ F₂ _
   have st₂:=st'.free frw hk
   refine tg.run (s:={ s with heap:=h₂,toks:=t₂ }) okc rm sm₂ h0C F₂ rv fun h₃ t₃ sm₃ F₃ hk₃ tk₃=>?_
   have st₃:Step σ₁ τ hB h₃:=st₂.free (ws:=[C]) (fun b m=>by rw [List.mem_singleton.mp m]; exact fromB sC) fun b o m e=>hk₃ b o (fun z=>m (by rw [z]; exact List.mem_singleton_self _)) e
   have stp:∀ {τa τb:St} {ha hb:Heap},Sim c τa ha→Step τa τb ha hb→S0 (i+1) ha→S0 (i+1) hb:=fun sma stab sa =>
    W.frame _ _ _ sa (sma.tups stab) fun b m o e=>by
     refine xi1 ?_ (W.live _ _ sa b m)
     intro o'
     refine im2 ?_
     intro e' hi'
     exact stab.keep b o e (mut_data sma e' hi')
   have si₃:S0 (i+1) h₃:=W.frame _ _ _ si₂ tk₃ fun b m o e=>hk₃ b o (fun z=>by
    refine xi1 ?_ (W.live _ _ si₂ b m)
    intro o'
    refine im2 ?_
    intro e' hi'
    exact not_own F₂ e' hi' (.inl z)) e
   refine wpAny_mono (step.run (s:={ s with heap:=h₃,toks:=t₃ }) okc rm sm₃ F₃) (fun b s₄ q=>?_) fun _ _ e=>e.elim
   refine xi3 ?_ (q)
   intro τ' h₄ t₄
   refine im4 ?_
   intro hq311
   obtain rfl:=hq311
   intro sm₄ st₄ q
   have F₄:=F₃.step sm₃ st₄
   have si₄:=stp sm₃ st₄ si₃
   have st₄':=st₃.trans st₄
   have less:∀ {h τ},FrR (compEnvC scope cl C env) ρ' τ h→FrR (compEnvC scope cl C env) (compLoc scope ρ) τ h:=fun F=>F.less fun y v e=>by
    have ne:∀ {z w},(compScope sc scope).names.lookup z=some .local→compLoc scope ρ z=some w→False:=fun hz hw=>by
     unfold compLoc at hw
     split at hw
     ·rename_i q
      have:=lookup_map_free q (hcap _ (mem_of_lookup q))
      rw [show (compScope sc scope).names.lookup _=some .cell from this] at hz
      cases hz
     ·cases hw
    cases tg with
    | name hx =>
     unfold setL
     split
     ·rename_i z; subst z; exact (ne hx e).elim
     ·exact e
    | pair hx hy =>
     unfold setL
     split
     ·rename_i z; subst z; exact (ne hy e).elim
     ·split
      ·rename_i z; subst z; exact (ne hx e).elim
      ·exact e
   cases b with
   | false =>
    simp only [Bool.false_eq_true,if_false] at q ⊢
    exact xc1_2 (items.length+1 - (i+1)) (by exact ar515 hlt) (xc5_1 (i+1) acc τ' h₄ t₄ (xc0_8 rfl sm₄ st₄' (less F₄) si₄ q hlt rfl))
   | true =>
    simp only [if_true] at q ⊢
    refine EV.andThen (s:={ s with heap:=h₄,toks:=t₄ }) q okc rm sm₄ F₄ fun v' x' τ₅ h₅ t₅ r₅ sm₅ st₅ F₅ q₅=>?_
    have si₅:=stp sm₄ st₅ si₄
    have hacc:acc.length < sizeLine:=by
     have:=(jok _ _ _ ji).2.2
     exact ar524 hsz hlt this
    have:=CallW.append (c:=c) (k:=k) (σ:=τ₅) (l:=D) (x:=x') (Q:=fun _ τ₆=>τ₆=upM τ₅ D (.list (acc++[x']))) q₅.1 hacc rfl A { s with heap:=h₅,toks:=t₅ } [.ref D,v'] rm sm₅ (VRs.cons rfl (VRs.cons r₅ rfl))
    refine wpAny_mono this (fun _ s₆ q₆=>?_) fun _ _ e=>e.elim
    refine xi4 ?_ (q₆)
    intro _ τ₆ h₆ t₆
    refine im5 ?_
    intro hq312
    obtain rfl:=hq312
    intro _ sm₆ st₆ hq313
    obtain rfl:=hq313
    have F₆:=F₅.step sm₅ st₆
    exact xc1_2 (items.length+1 - (i+1)) (by exact ar515 hlt) (xc5_1 (i+1) (acc++[x']) _ h₆ t₆ (xc0_8 rfl sm₆ ((st₄'.trans st₅).trans st₆) (less F₆) (stp sm₅ st₆ si₅) q₅.2 hlt rfl))
 have loop':∀ it',it'=Value.ref I→codeAny (model c.prog c.w) A (.compLoop (.ListComp elt [⟨target,iter,ifs,0⟩] scope pos) 0 it' (.ref D) (compEnvC scope cl C env)) (RR (.ref D) C) { s with heap:=h₁,toks:=s.toks+([]:List (Str×Value)).length }:=by
  rintro _ rfl
  exact loop
 have slf:=W.self 0 { s with heap:=h₁,toks:=s.toks+([]:List (Str×Value)).length } (fun it' s'=>codeAny (model c.prog c.w) A (.compLoop (.ListComp elt [⟨target,iter,ifs,0⟩] scope pos) 0 it' (.ref D) (compEnvC scope cl C env)) (RR (.ref D) C) s') s1 loop
 exact codeAny_compStart_list loop (wpAny_mono slf (fun _ _ x=>x) fun _ _ e=>e.elim)
theorem comp_after {A:Around} {s:Shared} {h' h'':Heap} {C:Addr} {scope:Scope} {cl:List (Str×Addr)} {τ:St} {ρ':Loc} {hB:Heap} {σ₁:St} (smB:Sim c σ₁ hB) (hC:hB.get? C=none) (sm:Sim c τ h') (st:Step σ₁ τ hB h') (F:FrR (compEnvC scope cl C env) ρ' τ h')
  (hs:Heap.SameBut C h' h''):Sim c τ h''∧Step σ₁ τ hB h'':=by
 refine xi1 ?_ (F.ownGet (b:=C) (.inl rfl))
 intro o
 refine im3 ?_
 intro ho mt hd
 have h0:c.h0.get? C=none:=by
  cases q:c.h0.get? C with
  | none=>rfl
  | some o=>rw [smB.keep _ _ q] at hC; cases hC
 exact ⟨(sm.atOwn ho hd mt h0 hs).1,st.free (ws:=[C]) (fun b m=>by rw [List.mem_singleton.mp m]; exact hC) fun b o m e=>hs.extBut b o (fun z=>m (by rw [z]; exact List.mem_singleton_self _)) e⟩
structure CompOk (sc scope:Scope):Prop where
 cell:∀ y∈scope.names,y.2≠.cell
 kind:scope.kind=.function
 names:∀ y∈scope.names,y.2=.local→scope.names.lookup y.1=some .local
 cap:∀ n,freeOf scope.names n→sc.names.lookup n=some .cell
theorem EV.comp {elt target iter:Expr} {ifs:List Expr} {scope:Scope} {pos:Pos} {Q:V→St→Prop} (co:CompOk sc scope) (hs:∀ env x,foldedSetIterable iter env x=pure x) (hc:∀ n,freeOf scope.names n→ρ n≠none)
  (h:IT c k iter target sc ρ σ (CompQ c k elt target ifs scope sc ρ Q)):EV c k (.ListComp elt [⟨target,iter,ifs,0⟩] scope pos) sc ρ σ Q:=by
 revert co hs hc h
 revert c; revert k; revert sc; revert ρ; revert σ; revert Q; revert elt target iter ifs scope pos
 walk_at "close 12"
 intro elt target iter ifs scope pos Q σ ρ sc k c co hs hc h
 intro env A s ok rm sm F
 obtain ⟨cl,ecl,hcl,hcl2⟩:=closure_ok (env:=env) (scope:=scope) fun n hn=>by
  cases q:ρ n with
  | none=>exact absurd q (hc n hn)
  | some v =>
   rcases F.has n v q with z | ⟨_,cl,z⟩
   ·rw [ok.names,co.cap n hn] at z
    cases z
   ·exact xc1_1 cl z
 rw [eval_ListComp]
 refine wpAny_comprehension_free (use:=none) rfl (hs env) ecl co.kind co.names (wpAny_mono (h env A s ok rm sm F) (fun x s₁ h₁=>wpAny_mono h₁ (fun it s₂ h₂=>?_) fun _ _ e=>e) fun _ _ e=>e)
 refine xi10 ?_ (h₂)
 intro I fp wr items S0 Ok σ₁ hB H2 t₂
 refine im8 ?_
 intro hq314
 obtain rfl:=hq314
 intro hq315
 obtain rfl:=hq315
 intro smB stB hk2 W s0
 refine im2 ?_
 intro frw hQ
 refine comp_core (s:={ s with heap:=H2,toks:=t₂ }) (RR:=fun acc C=>compPost (model c.prog c.w) A (fun _ _=>False) none (PostV c σ s Q) acc C) ok rm co.cell co.kind co.cap (fun n a e=>(hcl n a e).2) hcl2 smB (F.step sm stB) hk2 W s0 frw hQ ?_
 intro D C h' t' τ _ hC smτ stτ Fτ q
 refine xi1 ?_ (Fτ.ns)
 intro m
 refine im2 ?_
 intro hn _
 refine xc1_2 m hn (fun h'' hs=>?_)
 refine im2 ?_ (comp_after (s:=s) (A:=A) smB hC smτ stτ Fτ hs)
 intro sm' st'
 exact xc4_1 (.ref D) τ h'' t' (xc0_5 rfl rfl sm' (stB.trans st') q)
theorem SV.assignComp {x:Str} {elt target iter:Expr} {ifs:List Expr} {scope:Scope} {pos p p':Pos} {N:Loc→St→Prop} {R:V→St→Prop} (co:CompOk sc scope) (hs:∀ env x,foldedSetIterable iter env x=pure x) (hc:∀ n,freeOf scope.names n→ρ n≠none)
  (hk:sc.names.lookup x=some .local) (hl:(p'.line==pos.line)=true) (hn:(scope.names.any fun (n,k)=>n==x&&(k==.local||k==.cell))=false)
  (h:IT c k iter target sc ρ σ (CompQ c k elt target ifs scope sc ρ fun v τ=>N (setL ρ x v) τ)):SV c k (.Assign [.Name x p'] (.ListComp elt [⟨target,iter,ifs,0⟩] scope pos) p) sc ρ σ N R:=by
 revert co hs hc hk hl hn h
 revert c; revert k; revert sc; revert ρ; revert σ; revert N; revert R; revert x elt target iter ifs scope pos p p'
 walk_at "close 16"
 intro x elt target iter ifs scope pos p p' R N σ ρ sc k c co hs hc hk hl hn h
 intro env A s ok fr rm sm F
 obtain ⟨cl,ecl,hcl,hcl2⟩:=closure_ok (env:=env) (scope:=scope) fun n hn=>by
  cases q:ρ n with
  | none=>exact absurd q (hc n hn)
  | some v =>
   rcases F.has n v q with z | ⟨_,cl,z⟩
   ·rw [ok.names,co.cap n hn] at z
    cases z
   ·exact xc1_1 cl z
 have hsw:swapsWith (.ListComp elt [⟨target,iter,ifs,0⟩] scope pos) (some (.Name x p')) p.line env=pure true:=by
  unfold swapsWith
  simp only [Env.blockKind,ok.scope]
  show (pure _:Sem Bool)=_
  congr 1
  rw [hn]
  have:env.kindOf x=some .local:=(ok.names x).trans hk
  rw [this]
  have hl':(p'.line==(Expr.ListComp elt [⟨target,iter,ifs,0⟩] scope pos).pos.line)=true:=hl
  rw [hl']
  rfl
 rw [exec_Assign_Name_used _ _ _ _ hsw]
 refine wpAny_bind (wpAny_standAt (wpAny_bind ?_))
 show wpAny _ A (do let _ ← comprehension (.ListComp elt [⟨target,iter,ifs,0⟩] scope pos) scope env _ (newList []) false (eval iter env) (some (PySem.assign (.Name x p') env))) _ _ s
 refine wpAny_bind (wpAny_mono (wpAny_comprehension_free (use:=some (PySem.assign (.Name x p') env)) (Q:=fun _ s'=>PostX c env σ s N R .next s') rfl (hs env) ecl co.kind co.names
  (wpAny_mono (h env A s ok rm sm F) (fun xv s₁ h₁=>wpAny_mono h₁ (fun it s₂ h₂=>?_) fun _ _ e=>e) fun _ _ e=>e)) (fun _ s' hq=>wpAny_pure (wpAny_pure hq)) fun _ _ e=>e)
 refine xi10 ?_ (h₂)
 intro I fp wr items S0 Ok σ₁ hB H2 t₂
 refine im8 ?_
 intro hq316
 obtain rfl:=hq316
 intro hq317
 obtain rfl:=hq317
 intro smB stB hk2 W s0
 refine im2 ?_
 intro frw hQ
 have FB:=F.step sm stB
 refine comp_core (s:={ s with heap:=H2,toks:=t₂ }) (RR:=fun acc C=>compPost (model c.prog c.w) A (fun _ _=>False) (some (PySem.assign (.Name x p') env)) (fun _ s'=>PostX c env σ s N R .next s') acc C) ok rm co.cell co.kind co.cap (fun n a e=>(hcl n a e).2) hcl2 smB FB hk2 W s0 frw hQ ?_
 intro D C h' t' τ _ hC smτ stτ Fτ q
 have Fe:=FB.step smB stτ
 have hLC:env.locals≠C:=by
  intro z
  refine xi1 ?_ (FB.ns)
  intro m
  refine im2 ?_
  refine xi3 ?_
  intro o _ _
  refine im2 ?_
  intro ho _ _
  rw [z,hC] at ho
  cases ho
 have h0:c.h0.get? C=none:=by
  cases q:c.h0.get? C with
  | none=>rfl
  | some o=>rw [smB.keep _ _ q] at hC; cases hC
 show wpAny _ A (PySem.assign (.Name x p') env (.ref D)) _ _ _
 refine wpAny_assign_Name (storeLoc (s:={ s with heap:=h',toks:=t' }) (v:=.ref D) ok smτ (fr.no _ (.inl rfl)) Fe hk rfl fun h₃ t₃ sm₃ F₃ hs₃ tk₃=>?_)
 refine xi1 ?_ (Fτ.ns)
 intro m
 refine im2 ?_
 intro hn _
 have hn₃:=hn.sameBut hs₃ (Ne.symm hLC)
 refine xc1_2 m hn₃ (fun h₄ hs₄=>?_)
 refine xi3 ?_ (hn₃)
 intro o es ep
 refine im3 ?_
 intro ho hd _
 have mt:=Fτ.offL
 refine im2 ?_ (sm₃.atOwn ho (.inl ⟨es,ep,hd⟩) mt h0 hs₄)
 intro sm₄ tk₄
 have F₄:FrR env (setL ρ x (.ref D)) τ h₄:=F₃.heap (fun b o ow e=>hs₄.extBut b o (by
  rintro rfl
  refine xi1 ?_ (FB.ownGet ow)
  intro o'
  refine im2 ?_
  intro e' _
  rw [hC] at e'
  cases e') e) tk₄
 have stF:StepF env σ₁ τ hB h₄:=by
  have nC:∀ {b o},hB.get? b=some o→b≠C:=fun e z=>by rw [z,hC] at e; cases e
  refine ⟨fun b o e m n=>?_,stτ.new,fun b o e n=>?_,fun a i n e=>tk₄ _ _ _ (tk₃ _ _ _ (smB.tups stτ _ _ _ e))⟩
  ·exact hs₄.extBut b o (nC e) (hs₃.extBut b o (fun z=>n (.inl z)) (stτ.keep b o e m))
  ·refine xi1 ?_ (F₄.ownGet n)
   intro o'
   refine im2 ?_
   intro e' _
   exact xc1_1 o' e'
 exact xc4_1 _ τ h₄ t₃ (xc0_5 rfl sm₄ ((stB.toF F sm).trans stF) F₄ q)
end
noncomputable def bindLoc:List Str→List V→Loc→Loc
 | n::ns,v::vs,ρ=>bindLoc ns vs (setL ρ n v)
 | _,_,ρ=>ρ
noncomputable abbrev argsLoc (ns:List Str) (vs:List V):Loc:=bindLoc ns vs fun _=>none
theorem cells_mem:∀ (names:List (Str×NameKind)) (n:Nat) (acc:List (Str×Addr)) (x:Str),((x,NameKind.cell)∈names∨∃ a,(x,a)∈acc)→∃ a,(x,a)∈cellsFrom n names acc:=by
 intro names
 induction names with
 | nil =>
  intro n acc x h
  rcases h with h | h
  ·simp at h
  ·exact h
 | cons pq r ih =>
  obtain ⟨m,kd⟩:=pq
  intro n acc x h
  unfold cellsFrom
  split
  ·rename_i q
   refine ih _ _ x ?_
   rcases h with h | ⟨a,h⟩
   ·rcases List.mem_cons.mp h with z | z
    ·cases z; exact .inr ⟨n,List.mem_cons_self⟩
    ·exact .inl z
   ·exact .inr ⟨a,List.mem_cons_of_mem _ h⟩
  ·rename_i q
   refine ih _ _ x ?_
   rcases h with h | h
   ·rcases List.mem_cons.mp h with z | z
    ·cases z; exact absurd rfl q
    ·exact .inl z
   ·exact .inr h
section
variable {c:Cx} {k:Nat} {σ:St} {Q:V→St→Prop}
structure BindR (kindOf:Str→Option NameKind) (h:Heap) (m cm:Str→Option Value) (ρ:Loc):Prop where
 l:∀ x v,kindOf x=some .local→ρ x=some v→∃ u,m x=some u∧VR h u v
 c:∀ x v,kindOf x≠some .local→ρ x=some v→∃ u,cm x=some u∧VR h u v
theorem BindR.go {kindOf:Str→Option NameKind} {h:Heap}:∀ {ns:List Str} {vals:List Value} {vs:List V} {m cm:Str→Option Value} {ρ:Loc},BindR kindOf h m cm ρ→VRs h vals vs→ns.length=vals.length →
  BindR kindOf h (bindL kindOf (ns.zip vals) m) (bindC kindOf (ns.zip vals) cm) (bindLoc ns vs ρ):=by
 intro ns
 induction ns with
 | nil =>
  intro vals vs m cm ρ b r hl
  have:vals=[]:=by cases vals with | nil=>rfl | cons _ _=>simp at hl
  subst this
  cases vs with
  | nil=>exact b
  | cons _ _=>obtain ⟨_,_,e,_⟩:=r; cases e
 | cons n ns ih =>
  intro vals vs m cm ρ b r hl
  cases vals with
  | nil=>simp at hl
  | cons u vals =>
  cases vs with
  | nil=>have:u::vals=[]:=r; cases this
  | cons v vs =>
  refine xi2 ?_ (r)
  intro _ _
  refine im3 ?_
  intro e r1 r2
  cases e
  rw [List.zip_cons_cons]
  dsimp only [bindL,bindC,bindLoc]
  refine ih ?_ r2 (by simpa using hl)
  by_cases q:kindOf n=some .local
  ·rw [if_pos q,if_pos q]
   refine ⟨fun x w a e=>?_,fun x w a e=>?_⟩
   ·unfold setL at e
    by_cases z:x=n
    ·rw [if_pos z] at e
     cases e
     exact xc1_2 u (if_pos z) r1
    ·rw [if_neg z] at e
     refine xi1 ?_ (b.l x w a e)
     intro u'
     refine im2 ?_
     intro e1 e2
     exact xc1_2 u' (by simp only [if_neg z]; exact e1) e2
   ·unfold setL at e
    by_cases z:x=n
    ·subst z
     exact absurd q a
    ·rw [if_neg z] at e
     exact b.c x w a e
  ·rw [if_neg q,if_neg q]
   refine ⟨fun x w a e=>?_,fun x w a e=>?_⟩
   ·unfold setL at e
    by_cases z:x=n
    ·subst z
     exact absurd a q
    ·rw [if_neg z] at e
     exact b.l x w a e
   ·unfold setL at e
    by_cases z:x=n
    ·rw [if_pos z] at e
     cases e
     exact xc1_2 u (if_pos z) r1
    ·rw [if_neg z] at e
     refine xi1 ?_ (b.c x w a e)
     intro u'
     refine im2 ?_
     intro e1 e2
     exact xc1_2 u' (by simp only [if_neg z]; exact e1) e2
theorem bindLoc_mem:∀ {ns:List Str} {vs:List V} {ρ:Loc} {x:Str} {v:V},bindLoc ns vs ρ x=some v→x∈ns∨ρ x=some v
 | [],vs,ρ,x,v,e=>.inr e
 | n::ns,[],ρ,x,v,e=>.inr e
 | n::ns,w::vs,ρ,x,v,e=>by
  dsimp only [bindLoc] at e
  rcases bindLoc_mem e with z | z
  ·exact .inl (List.mem_cons_of_mem _ z)
  ·unfold setL at z
   by_cases q:x=n
   ·exact .inl (by rw [q]; exact List.mem_cons_self)
   ·rw [if_neg q] at z
    exact .inr z
noncomputable def CallC (c:Cx) (k:Nat) (f:Value) (args:List V) (σ:St) (Q:V→St→Prop):Prop :=
 ∀ A s vals,Room A k→Sim c σ s.heap→VRs s.heap vals args→codeAny (model c.prog c.w) A (.call f ⟨vals,[]⟩) (fun r s'=>match r with | .ok (.ret v)=>PostV c σ s Q v s' | _=>False) s
theorem CallC.toW {f:Value} {args:List V} (h:CallC c k f args σ Q):CallW c k f args σ Q:=fun A s vals rm sm va =>
 wpAny_call (codeAny_mono (h A s vals rm sm va) fun r s' z=>by rcases r with e | (_ | _ | _ | _) <;> first | exact z | exact z.elim)
noncomputable def slotB (sc:Scope) (x:Str):Bool:=sc.names.lookup x==some .local||sc.names.lookup x==some .cell
theorem slot_of {sc:Scope} {x:Str} (h:slotB sc x=true):slotK sc x:=by
 simp only [slotB,Bool.or_eq_true,beq_iff_eq] at h
 exact h
theorem CallC.def {K:Frag} {f:Addr} {name qual:Str} {params:Arguments} {body:List Stmt} {scope:Scope} {dV kV doc pm cdv ct oc:Value} {an od:Option Addr} {osl:Array (Option Value)} (names:List Str) {args:List V}
  (X:K.In c.h0) (hf:K.lookup f=some ⟨oc,od,.func (fnOf name qual params body scope dV kV doc pm an cdv ct),osl⟩) (hcd:codeIn K cdv qual=true)
  (hbind:∀ vals:List Value,vals.length=names.length→bindArgs (fnOf name qual params body scope dV kV doc pm an cdv ct) ⟨vals,[]⟩=pure (names.zip vals))
  (hkindB:(names.all fun x=>slotB scope x)=true) (hla:args.length=names.length)
  (hco:scope.isCoroutine=false) (hgen:scope.isGenerator=false) (hk:scope.kind=.function)
  (h:XV c k body scope (argsLoc names args) σ (fun _ σ'=>Q .none σ') Q):CallC c (k+1) (.ref f) args σ Q:=by
 revert X hf hcd hbind hkindB hla hco hgen hk h
 revert c; revert k; revert σ; revert Q; revert K f name qual params body scope dV kV doc pm cdv ct oc an od osl names args
 walk_at "close 23"
 intro K f name qual params body scope dV kV doc pm cdv ct oc an od osl names args Q σ k c X hf hcd hbind hkindB hla hco hgen hk h
 have hkind:∀ x∈names,slotK scope x:=fun x hx=>slot_of (List.all_eq_true.mp hkindB x hx)
 intro A s vals rm sm va
 have ho:=sm.keep _ _ (X f _ hf)
 have hlim:s.heap.NoLimit:=c.nolimit.keeps sm.keep
 have hlen:vals.length=names.length:=by rw [va.length,hla]
 have hcell:∀ x,scope.names.lookup x=some .cell→∃ a,(cellsFrom (s.heap.objs.size+1) scope.names []).lookup x=some a:=fun x e=>by
  refine xi1 ?_ (cells_mem scope.names (s.heap.objs.size+1) [] x (.inl (mem_of_lookup e)))
  intro a m
  exact lookup_of_mem m
 refine codeAny_call_cells (fd:=fnOf name qual params body scope dV kV doc pm an cdv ct) (body:=body) (binds:=names.zip vals) (by have:=rm.depth; exact ar525 this) ho rfl hlim ((codeRec_of X hcd).keeps sm.keep) rfl (hbind vals hlen) rfl ?_ ?_ hco hgen hk
 ·intro x hx
  rcases hkind x.1 (List.of_mem_zip hx).1 with z | z
  ·exact .inl z
  ·refine xi1 ?_ (hcell _ z)
   intro a e
   exact .inr ⟨z,by rw [e]; rfl⟩
 intro s₁ X₁
 generalize hE:callEnvC (fnOf name qual params body scope dV kV doc pm an cdv ct) s.heap.objs.size f=env at X₁ ⊢
 have eL:env.locals=s.heap.objs.size:=by rw [← hE]; rfl
 have eC:env.cells=cellsFrom (s.heap.objs.size+1) scope.names []:=by rw [← hE]; rfl
 have eS:env.scope=scope:=by rw [← hE]; rfl
 have kd:∀ x,env.kindOf x=scope.names.lookup x:=fun x=>by unfold Env.kindOf; rw [eS]
 have ok:EnvOk scope env:=⟨hk,by rw [eS]; exact hk,kd,by rw [← hE]; rfl,by rw [← hE]; rfl⟩
 have kp:=X₁.toInCall.keep
 refine im3 ?_ (keep_all sm kp)
 intro sm₁ st₁ tk₁
 have above:∀ b,OwnA env b→s.heap.get? b=none:=fun b ow=>by
  rcases ow with rfl | ⟨x,hx⟩
  ·rw [eL]
   exact get_size_none _
  ·have:=X₁.above x b (mem_of_lookup hx)
   exact get_past (Nat.le_of_lt (eL ▸ this))
 have fr:Fresh c env:=by
  refine ⟨fun b ow=>?_,fun x e=>?_⟩
  ·cases q:c.h0.get? b with
   | none=>rfl
   | some o=>have:=above b ow; rw [sm.keep _ _ q] at this; cases this
  ·rw [kd] at e
   rw [eC]
   exact hcell x e
 have nm:∀ b,OwnA env b→mutAt σ b=false:=fun b ow=>by
  unfold mutAt; rw [sm.fresh (above b ow)]
 have BR:BindR env.kindOf s₁.heap (bindL env.kindOf (names.zip vals) fun _=>none) (bindC env.kindOf (names.zip vals) fun _=>none) (argsLoc names args) :=
  BindR.go ⟨(fun _ _ _ e=>by cases e),(fun _ _ _ e=>by cases e)⟩ (va.keeps tk₁) hlen.symm
 have F₁:FrR env (argsLoc names args) σ s₁.heap:=by
  refine ⟨⟨_,X₁.toInCall.ns,BR.l⟩,fun x cl e=>⟨_,X₁.cell x cl e,fun v a b=>BR.c x v a b⟩,fun x v e=>?_,fun x y cl e e'=>name_of_addr X₁.apart (mem_of_lookup e) (mem_of_lookup e'),fun x cl e=>?_,nm _ (.inl rfl),fun x cl e=>nm _ (.inr ⟨x,e⟩)⟩
  ·rcases bindLoc_mem e with z | z
   ·rcases hkind x z with q | q
    ·exact .inl ((kd x).trans q)
    ·exact .inr ⟨.inl ((kd x).trans q),by rw [eC]; exact hcell x q⟩
   ·cases z
  ·exact Nat.ne_of_gt (X₁.above x cl (mem_of_lookup e))
 have rm₁:Room (A.deeper env) k:=by
  have h1:=rm.depth
  have h2:=rm.units
  refine ⟨rm.handled,?_,?_⟩
  ·show A.depth+1+3 * k+3 < _; exact ar526 h1
  ·show A.units+3+100 * k+200 < _; exact ar527 h2
 refine xi2 ?_ (X₁.toInCall.same)
 intro h₁ t₁ e₁
 refine wpAny_mono (h env (A.deeper env) s₁ ok fr rm₁ sm₁ F₁) (fun fl s' p=>?_) fun _ _ e=>e.elim
 refine xi4 ?_ (p)
 intro ρ' σ' h' t'
 refine im5 ?_
 intro hq318
 obtain rfl:=hq318
 intro sm' st' F' q
 have stS:Step σ σ' s.heap h':=by
  refine ⟨fun b o e m=>st'.keep b o (kp b o e) m (fun ow=>by rw [above b ow] at e; cases e),fun a e=>?_⟩
  rcases st'.new a e with z | z
  ·exact .inl z
  ·cases w:s.heap.get? a with
   | none=>exact .inr rfl
   | some o=>rw [kp a o w] at z; cases z
 have fin:∀ {v:Value} {x:V},VR h' v x→Q x σ'→PostV c σ s Q v { s₁ with heap:=h',toks:=t' }:=fun {v x} r q =>
  ⟨x,σ',h',t',by rw [e₁],r,sm',stS,q⟩
 cases fl with
 | next=>exact fin (x:=.none) rfl q
 | ret v=>obtain ⟨x,r,q⟩:=q; exact fin r q
 | brk=>exact q.elim
 | cont=>exact q.elim
end
noncomputable def putV:List (Str×V)→Str→V→List (Str×V)
 | [],n,v=>[(n,v)]
 | (m,w)::r,n,v=>if m=n then (m,v)::r else (m,w)::putV r n v
noncomputable def getV (es:List (Str×V)) (n:Str):Option V:=es.lookup n
theorem isStr_of {e:DictEntry} {x n:Str} (h:∃ t,e.key=.str x t):e.key.isStr n=(x==n):=by
 refine xi1 ?_ (h)
 intro t h
 rw [h]
 rfl
section
variable {P:Params} {h h':Heap}
theorem ent_find {ents:List DictEntry} {es:List (Str×V)} {n:Str} {v:V} (r:All2 (EntR P h) ents es) (e:getV es n=some v):∃ e,ents.find? (·.key.isStr n)=some e∧VR h e.val v:=by
 induction r with
 | nil=>cases e
 | @cons a b as bs r rs ih =>
  obtain ⟨m,w⟩:=b
  have ks:=isStr_of (n:=n) r.1
  unfold getV at e
  rw [List.lookup_cons] at e
  rw [List.find?_cons,ks]
  by_cases q:m=n
  ·subst q
   simp at e
   subst e
   exact xc1_2 a (by simp) r.2.2
  ·have q1:(m==n)=false:=by simpa using q
   have q2:(n==m)=false:=by simpa using Ne.symm q
   rw [q2] at e
   rw [show ((m,w).1==n)=false from q1]
   exact ih e
theorem ent_nokey {ents:List DictEntry} {es:List (Str×V)} {n:Str} (r:All2 (EntR P h) ents es) (e:getV es n=none):ents.find? (·.key.isStr n)=none:=by
 induction r with
 | nil=>rfl
 | @cons a b as bs r rs ih =>
  obtain ⟨m,w⟩:=b
  have ks:=isStr_of (n:=n) r.1
  unfold getV at e
  rw [List.lookup_cons] at e
  rw [List.find?_cons,ks]
  by_cases q:m=n
  ·subst q
   simp at e
  ·have q1:(m==n)=false:=by simpa using q
   have q2:(n==m)=false:=by simpa using Ne.symm q
   rw [q2] at e
   rw [show ((m,w).1==n)=false from q1]
   exact ih e
theorem ent_noref {ents:List DictEntry} {es:List (Str×V)} (r:All2 (EntR P h) ents es):ents.any (·.refKey)=false:=by
 induction r with
 | nil=>rfl
 | @cons a _ _ _ r rs ih =>
  rw [List.any_cons,ih]
  refine im2 ?_ (r)
  refine xi1 ?_
  intro t ht _
  unfold DictEntry.refKey
  rw [ht]
  rfl
theorem ent_put {n:Str} {t:Tok} {u:Value} {v:V} (tk:TupKeep h h') (ru:VR h' u v) {ents:List DictEntry} {es:List (Str×V)} (r:All2 (EntR P h) ents es) :
  All2 (EntR P h') (PySem.putIn (·.key.isStr n) (fun e=>{ e with val:=u }) ⟨PyData.keyHash P n,.str n t,u⟩ ents) (putV es n v):=by
 induction r with
 | nil=>exact .cons ⟨⟨t,rfl⟩,rfl,ru⟩ .nil
 | @cons a b as bs r rs ih =>
  obtain ⟨m,w⟩:=b
  have ks:=isStr_of (n:=n) r.1
  unfold PySem.putIn
  dsimp only [putV]
  rw [List.findIdx?_cons,ks]
  by_cases q:m=n
  ·subst q
   simp only [beq_self_eq_true,if_true]
   exact .cons ⟨r.1,r.2.1,ru⟩ (rs.imp fun _ _ z=>z.keeps tk)
  ·have q1:(m==n)=false:=by simpa using q
   rw [show ((m,w).1==n)=false from q1,if_neg q]
   unfold PySem.putIn at ih
   cases z:as.findIdx? (·.key.isStr n) with
   | none =>
    rw [z] at ih
    simpa using All2.cons (r.keeps tk) ih
   | some i =>
    rw [z] at ih
    simpa using All2.cons (r.keeps tk) ih
theorem ent_len {ents:List DictEntry} {es:List (Str×V)} (r:All2 (EntR P h) ents es):ents.length=es.length:=by
 induction r with
 | nil=>rfl
 | cons r rs ih=>rw [List.length_cons,List.length_cons,ih]
end
theorem putIn_len {p:DictEntry→Bool} {f:DictEntry→DictEntry} {n:DictEntry} {l:List DictEntry}:(PySem.putIn p f n l).length≤l.length+1:=by
 unfold PySem.putIn
 split
 ·simp
 ·simp
noncomputable def plainCls (K:Frag) (C:Addr):Bool:=(clsIn K C).any (·.hasDict)&&findIn K (.ref C) "__getattribute__"==some (some (.builtin "object.__getattribute__"))&&findIn K (.ref C) "__getattr__"==some none &&
 findIn K (.ref C) "__setattr__"==some (some (.builtin "object.__setattr__"))&&plainOver K C
noncomputable def freeName (K:Frag) (C:Addr) (name:Str):Bool:=findIn K (.ref C) name==some none
section
variable {c:Cx} {k:Nat} {sc:Scope} {ρ:Loc} {σ:St}
theorem Sim.inst {h:Heap} (sm:Sim c σ h) {x C d:Addr} {es:List (Str×V)} (e:σ x=some (.inst C d)) (ed:σ d=some (.dict es)):∃ ents n,InstAt h x (instO C d) C (some (dictO ents n))∧All2 (EntR c.w.params h) ents es∧h.get? d=some (dictO ents n):=by
 have gx:h.get? x=some (instO C d):=sm.rep x _ e
 refine xi2 ?_ (sm.rep d _ ed)
 intro ents n
 refine im2 ?_
 intro gd r
 exact xc2_3 ents n ⟨gx,rfl,rfl,gd⟩ r gd
theorem VR.handed {h:Heap} {u:Value}:∀ {v:V},VR h u v→(∀ z,v≠.stat z)→handedIn u=true
 | .none,r,_=>by rw [show u=.none from r]; rfl
 | .bool _,r,_=>by rw [show u=_ from r]; rfl
 | .int _,⟨_,r⟩,_=>by rw [r]; rfl
 | .str _,⟨_,r⟩,_=>by rw [r]; rfl
 | .tup _,⟨_,_,_,r,_⟩,_=>by rw [r]; rfl
 | .ref _,r,_=>by rw [show u=_ from r]; rfl
 | .stat z,_,n=>absurd rfl (n z)
noncomputable def V.noStat:V→Bool
 | .stat _=>false
 | _=>true
theorem V.ne_stat {v:V} (h:v.noStat=true):∀ z,v≠.stat z:=fun z e=>by subst e; cases h
noncomputable def AttrR (c:Cx) (σ:St) (o:V) (name:Str) (v:V):Prop:=∃ x C d es,o=.ref x∧σ x=some (.inst C d)∧σ d=some (.dict es)∧plainCls c.K C=true∧freeName c.K C name=true∧getV es name=some v∧v.noStat=true
theorem EV.attr {o:Expr} {name:Str} {p:Pos} {Q:V→St→Prop} (hb:∀ env w,attributeBase o name env w=w) (h:EV c k o sc ρ σ fun x σ'=>∃ v,AttrR c σ' x name v∧Q v σ'):EV c k (.Attribute o name p) sc ρ σ Q:=by
 revert hb h
 revert c; revert k; revert sc; revert ρ; revert σ; revert Q; revert o name p
 walk_at "close 9"
 intro o name p Q σ ρ sc k c hb h
 intro env A s ok rm sm F
 have e0:eval (.Attribute o name p) env=(do
  let ov ← attributeBase o name env (eval o env)
  standAt p.atName
  let r ← holding [ov] (getAttr ov name true)
  letTemporaryGo o ov r
  pure r):=rfl
 rw [e0,hb]
 refine wpAny_bind (h.andThen ok rm sm F fun va a σ₁ h₁ t₁ ra sm₁ st₁ F₁ q₁=>?_)
 refine xi1 ?_ (q₁)
 intro v
 refine im2 ?_
 refine xi4 ?_
 intro x C d es
 refine im7 ?_
 intro hq319
 obtain rfl:=hq319
 intro ex ed pc fn ev ns q
 rw [show va=.ref x from ra]
 refine wpAny_bind (wpAny_standAt ?_)
 refine xi2 ?_ (sm₁.inst ex ed)
 intro ents n
 refine im3 ?_
 intro I r _
 refine xi1 ?_ (ent_find r ev)
 intro e
 refine im2 ?_
 intro he rv
 simp only [plainCls,Bool.and_eq_true,beq_iff_eq] at pc
 refine im2 ?_ (pc)
 refine im2 ?_
 refine im2 ?_
 refine im2 ?_
 intro p1 p2 p3 p4 p5
 have fn':findIn c.K (.ref C) name=some none:=by simpa [freeName] using fn
 refine xi1 ?_ (any_some p1)
 intro cd
 refine im2 ?_
 intro hc hd
 have hf:findObj c.K C (some (dictO ents n)) name=some (.value e.val):=by
  unfold findObj
  rw [hc,Option.bind_some,fn',Option.bind_some]
  dsimp only
  rw [Option.bind_some,Option.bind_some]
  have:W.ownOf cd (some (dictO ents n)) name=some (some e.val):=by
   unfold W.ownOf
   rw [hd,if_pos rfl]
   dsimp only
   unfold lookIn
   dsimp only
   rw [he]
  rw [this]
  rfl
 refine wpAny_bind (wpAny_holding ?_)
 refine get_value (K:=c.K) (s:={ s with heap:=h₁,toks:=t₁ }) (c.k.keeps sm₁.keep) I p2 hf (rv.handed (V.ne_stat ns)) ?_
 refine wpAny_bind (wpAny_letTemporaryGo (wpAny_pure ?_))
 exact xc4_1 v σ₁ h₁ _ (xc0_5 rfl rv sm₁ st₁ q)
noncomputable def methIn (K:Frag) (C:Addr) (name:Str) (f:Addr):Bool:=plainCls K C&&findIn K (.ref C) name==some (some (.ref f))&&typeIn K (.ref f)==some (.type "function")
theorem MethR.own {name:Str} {x C d f:Addr} {es:List (Str×V)} (ex:σ x=some (.inst C d)) (ed:σ d=some (.dict es)) (hm:methIn c.K C name f=true) (hk:keepIn c.K (.ref f)=true) (ho:getV es name=none):MethR c k name (.ref x) σ (.ref f):=by
 revert ex ed hm hk ho
 revert c; revert k; revert σ; revert d; revert name x C f es
 walk_at "close 9"
 intro name x C f es d σ k c ex ed hm hk ho
 refine ⟨Kept.of hk,?_⟩
 rintro A s _ pl P E rm sm rfl h
 simp only [methIn,plainCls,Bool.and_eq_true,beq_iff_eq] at hm
 refine im2 ?_ (hm)
 refine im2 ?_
 refine im2 ?_
 refine im2 ?_
 refine im2 ?_
 refine im2 ?_
 intro p1 p2 p3 p4 p5 hf ht
 refine xi2 ?_ (sm.inst ex ed)
 intro ents n
 refine im3 ?_
 intro I r _
 have hs:shadowIn (some (dictO ents n)) name=some false:=by
  unfold shadowIn
  dsimp only
  unfold lookIn
  dsimp only
  rw [ent_nokey r ho,ent_noref r]
  rfl
 exact method_fn (c.k.keeps sm.keep) I p2 p3 hf ht hs h
theorem TgV.attr {o:Expr} {name:Str} {p:Pos} {v:V} {N:Loc→St→Prop} (h:EV c k o sc ρ σ fun a σ'=>∃ x C d es,a=.ref x∧σ' x=some (.inst C d)∧σ' d=some (.dict es)∧plainCls c.K C=true∧freeName c.K C name=true∧es.length≤100∧N ρ (upM σ' d (.dict (putV es name v)))) :
  TgV c k (.Attribute o name p) sc ρ σ v N:=by
 revert h
 revert c; revert k; revert sc; revert ρ; revert σ; revert N; revert o name p v
 walk_at "close 10"
 intro o name p v N σ ρ sc k c h
 intro env A s u ok fr rm sm F ru
 rw [arm_assign_Attribute]
 refine wpAny_bind (wpAny_holding (h.andThen ok rm sm F fun va a σ₁ h₁ t₁ ra sm₁ st₁ F₁ q₁=>?_))
 refine xi4 ?_ (q₁)
 intro x C d es
 refine im7 ?_
 intro hq320
 obtain rfl:=hq320
 intro ex ed pc fn hl q
 rw [show va=.ref x from ra]
 refine wpAny_bind (wpAny_standAt ?_)
 refine xi2 ?_ (sm₁.inst ex ed)
 intro ents n
 refine im3 ?_
 intro I r gd
 simp only [plainCls,Bool.and_eq_true,beq_iff_eq] at pc
 refine im2 ?_ (pc)
 refine im2 ?_
 refine im2 ?_
 refine im2 ?_
 intro p1 p2 p3 p4 p5
 have fn':findIn c.K (.ref C) name=some none:=by simpa [freeName] using fn
 refine xi1 ?_ (any_some p1)
 intro cd
 refine im2 ?_
 intro hc hd
 have X:=c.k.keeps sm₁.keep
 have ru₁:VR h₁ u v:=ru.keeps (sm.tups st₁)
 refine wpAny_bind (wpAny_holding (set_plain (K:=c.K) (s:={ s with heap:=h₁,toks:=t₁ }) X I p4 ?_))
 refine osa_open (K:=c.K) (s:={ s with heap:=h₁,toks:=t₁+1 }) X I p5 (r:=none) (by unfold takerIn; rw [fn']; rfl) fun b=>?_
 have m:=mutAt_dict ed
 refine wpAny_bind (wpAny_pure (wpAny_bind (wpAny_bind (wpAny_loadPart I.at_ (wpAny_bind ((looks_clsIn X hc).here ?_))))))
 rw [hd]
 refine wpAny_pure (a:=some d) (wpAny_bind (wpAny_pure (wpAny_bind ?_)))
 unfold nsSet
 refine wpAny_bind (wpAny_bind (wpAny_askSetting (wpAny_pure (wpAny_bind (wpAny_mkText (wpAny_bind (wpAny_loadPart gd ?_)))))))
 dsimp only
 have cc:(!ents.toArray.any (·.key.isStr name)&&ents.toArray.any (·.refKey))=false:=by
  rw [List.any_toArray,List.any_toArray,ent_noref r,Bool.and_false]
 rw [aRefKeyMayBeTheName_at,cc]
 simp only [Bool.false_eq_true,if_false]
 have hs:=Heap.SameBut.update h₁ d (Obj.putName name (PyData.keyHash c.w.params name) (.str name (t₁+1)) u)
 have gd':(h₁.update d (Obj.putName name (PyData.keyHash c.w.params name) (.str name (t₁+1)) u)).get? d =
   some (dictO (PySem.putIn (·.key.isStr name) (fun e=>{ e with val:=u }) ⟨PyData.keyHash c.w.params name,.str name (t₁+1),u⟩ ents) (if ents.any (·.key.isStr name) then n else n+1)):=by
  have:=Heap.get?_update_self (Obj.putName name (PyData.keyHash c.w.params name) (.str name (t₁+1)) u) gd (by rw [show dictO ents n=⟨.type "dict",none,.dict ents.toArray n,#[]⟩ from rfl,putName_eq]; rfl)
  rw [this]
  show some (Obj.putName _ _ _ _ ⟨.type "dict",none,.dict ents.toArray n,#[]⟩)=_
  rw [putName_eq]
 have tk:TupKeep h₁ (h₁.update d (Obj.putName name (PyData.keyHash c.w.params name) (.str name (t₁+1)) u)):=tup_same hs gd (by simp)
 refine wpAny_updatePart gd ?_
 have hz:=ent_len r
 refine wpAny_bind (wpAny_lookBehind gd' (pastItsLine_dict (by have:=@putIn_len (·.key.isStr name) (fun e=>{ e with val:=u }) ⟨PyData.keyHash c.w.params name,.str name (t₁+1),u⟩ ents; rw [List.size_toArray,sizeLine_eq]; exact ar528 hl hz this)) ?_)
 refine wpAny_pure ?_
 have sm₂:=sm₁.update m hs (x:=.dict (putV es name v)) ⟨_,_,gd',ent_put tk (ru₁.keeps tk) r⟩
 have st₂:=Step.update (.dict (putV es name v)) m hs
 have F₂:=F₁.step sm₁ st₂
 have fin:PostL c env σ s N { s with heap:=h₁.update d (Obj.putName name (PyData.keyHash c.w.params name) (.str name (t₁+1)) u),toks:=t₁+1+1 } :=
  ⟨ρ,_,_,_,rfl,sm₂,(st₁.toF F sm).trans (st₂.toF F₁ sm₁),F₂,q⟩
 show wpAny _ A (release [u,.ref x] []) _ _ _
 exact wpAny_release fin
theorem CallC.make {C fI:Addr} {args:List V} {Q:V→St→Prop} (hm:makesIn c.K C=true) (hi:findIn c.K (.ref C) "__init__"=some (some (.ref fI))) (hf:typeIn c.K (.ref fI)=some (.type "function"))
  (h:∀ x d,σ x=none→σ d=none→x≠d→CallC c k (.ref fI) (.ref x::args) (upM (upM σ d (.dict [])) x (.inst C d)) fun v σ'=>v=.none∧Q (.ref x) σ'):CallC c (k+1) (.ref C) args σ Q:=by
 revert hm hi hf h
 revert c; revert k; revert σ; revert Q; revert C fI args
 walk_at "close 7"
 intro C fI args Q σ k c hm hi hf h
 intro A s vals rm sm va
 obtain ⟨h₀,g,dr,t,os⟩:=s
 have X:=c.k.keeps sm.keep
 have rm':Room (A.under (.builtin "type.__call__" ⟨.ref C::vals,[]⟩)) k:=by
  have h1:=rm.depth
  have h2:=rm.units
  exact ⟨rm.handled,by show A.depth+1+3 * k+3 < _; exact ar526 h1,by show A.units+1+100 * k+200 < _; exact ar529 h2⟩
 have e1:=sm.fresh (get_size_none h₀)
 have e2:σ (h₀.objs.size+1)=none:=sm.fresh (get_past (Nat.le_succ _))
 have kp:∀ b o,h₀.get? b=some o→((h₀.push emptyDict).push (instObj C h₀.objs.size)).get? b=some o:=fun b o e=>Heap.get?_push_of_some _ (Heap.get?_push_of_some _ e)
 refine im3 ?_ (keep_all (s:=⟨h₀,g,dr,t,os⟩) sm kp)
 intro sm₁ st₁ tk₁
 have gx:((h₀.push emptyDict).push (instObj C h₀.objs.size)).get? (h₀.objs.size+1)=some (instO C h₀.objs.size):=by
  have:=Heap.get?_push_size (h₀.push emptyDict) (o:=instObj C h₀.objs.size) rfl
  rwa [Heap.size_push] at this
 have gd:((h₀.push emptyDict).push (instObj C h₀.objs.size)).get? h₀.objs.size=some (dictO [] 0):=Heap.get?_push_of_some _ (Heap.get?_push_size _ rfl)
 have h0n:∀ {b},h₀.get? b=none→c.h0.get? b=none:=fun {b} e=>by
  cases q:c.h0.get? b with
  | none=>rfl
  | some o=>have:=sm.keep _ _ q; rw [show h₀.get? b=some o from this] at e; cases e
 have smN:Sim c (upM (upM σ h₀.objs.size (.dict [])) (h₀.objs.size+1) (.inst C h₀.objs.size)) ((h₀.push emptyDict).push (instObj C h₀.objs.size)):=by
  refine ⟨sm₁.keep,fun a y e=>?_,fun a e=>?_⟩
  ·unfold upM at e
   split at e
   ·rename_i z; subst z; cases e; exact gx
   ·split at e
    ·rename_i z; subst z; cases e; exact ⟨[],0,gd,.nil⟩
    ·exact sm₁.rep a y e
  ·unfold mutAt upM at e
   split at e
   ·rename_i w z
    split at z
    ·rename_i q; cases z; cases e
    ·split at z
     ·rename_i q; subst q; exact h0n (get_size_none _)
     ·exact sm.new a (by unfold mutAt; rw [z]; exact e)
   ·cases e
 have stN:Step σ (upM (upM σ h₀.objs.size (.dict [])) (h₀.objs.size+1) (.inst C h₀.objs.size)) h₀ ((h₀.push emptyDict).push (instObj C h₀.objs.size)):=by
  refine ⟨st₁.keep,fun a e=>?_⟩
  unfold mutAt upM at e
  split at e
  ·rename_i w z
   split at z
   ·rename_i q; cases z; cases e
   ·split at z
    ·rename_i q; subst q; exact .inr (get_size_none _)
    ·exact .inl (by unfold mutAt; rw [z]; exact e)
  ·cases e
 refine make_core (makes_of X hm) (looks_findIn X hi) (fun self=>bind_fn X self hf) (.inl rfl) ?_
 refine codeAny_mono (h (h₀.objs.size+1) h₀.objs.size e2 e1 (Nat.succ_ne_self _) _ ⟨(h₀.push emptyDict).push (instObj C h₀.objs.size),g,dr,t,os⟩ (.ref (h₀.objs.size+1)::vals) rm' smN (VRs.cons rfl (va.keeps tk₁))) fun r s' z=>?_
 rcases r with e | (_ | _ | _ | _) <;> first | exact z.elim | skip
 refine xi4 ?_ (z)
 intro x σ' h' t'
 refine im6 ?_
 intro hq321
 obtain rfl:=hq321
 intro r sm' st' hq322
 obtain rfl:=hq322
 intro q
 exact ⟨r,.ref (h₀.objs.size+1),σ',h',t',rfl,rfl,sm',stN.trans st',q⟩
end
section
variable {c:Cx} {k:Nat} {sc:Scope} {ρ:Loc} {σ:St} {Q:V→St→Prop}
theorem Op2.floordivInt {a b:Int} (hb:b≠0) (hs:b.natAbs < 1073741824) (q:Q (.int (a.fdiv b)) σ):Op2 c k (binaryOp .FloorDiv) (.int a) (.int b) σ Q:=by
 rintro A s _ _ rm sm ⟨t,rfl⟩ ⟨u,rfl⟩
 exact floordiv_int hb (PostV.tok (x:=.int _) sm ⟨_,rfl⟩ q) (.inl (PyProof.noPylong_small hs))
noncomputable def strIdx (ls:List (List Nat)) (n:List Nat):Nat:=ls.findIdx (·==n)
theorem CallW.index {l:Addr} {ls:List (List Nat)} {n:List Nat} (e:σ l=some (.list (strVs ls))∨σ l=some (.frozen (strVs ls))) (hn:n∈ls) (hz:ls.length < 2 ^ 60) (q:Q (.int (strIdx ls n)) σ):CallW c k (.builtin "list.index") [.ref l,.str n] σ Q:=by
 revert e hn hz q
 revert c; revert k; revert σ; revert Q; revert n; revert l ls
 walk_at "close 7"
 intro l ls n Q σ k c e hn hz q
 intro A s vals rm sm r
 obtain ⟨_,_,rfl,rfl,⟨t,rfl⟩⟩:=r.two
 obtain ⟨its,m,g,r⟩:=sm.list e
 obtain ⟨l',rfl,e2⟩:=strs_of r
 have hlen:l'.length=ls.length:=by simpa using congrArg List.length e2
 have hidx:strIdx ls n < ls.length:=by
  unfold strIdx
  exact List.findIdx_lt_length_of_exists ⟨n,hn,by simp⟩
 have key:∀ m (hm:m < (strValues l').toArray.size),∃ (h1:m < ls.length) (tt:Tok),(strValues l').toArray[m]=.str (S ls[m]) tt:=fun m hm=>by
  have hm':m < l'.length:=by simpa [strValues] using hm
  have h1:m < ls.length:=by exact ar530 hlen hm'
  have e3:(l'.map (·.1))[m]?=(ls.map S)[m]?:=by rw [e2]
  rw [List.getElem?_map,List.getElem?_map,List.getElem?_eq_getElem hm',List.getElem?_eq_getElem h1] at e3
  refine ⟨h1,l'[m].2,?_⟩
  simp only [strValues,List.getElem_toArray,List.getElem_map]
  congr 1
  simpa using e3
 have hsz:(strValues l').toArray.size=ls.length:=by simp [strValues,hlen]
 have hj:strIdx ls n < (strValues l').toArray.size:=by rw [hsz]; exact hidx
 refine call_meets F.slot_list_index ⟨_,g,rfl⟩ F.entry_list_index (F.args_list_index_2 _ _)
  (MeetsSeq.list_index l (strValues l').toArray m (.str (S n) t) (fun y=>match y with | .str x _=>x.cps.toList==n | _=>false) (fun y hy=>?_) (strIdx ls n) hj (by exact ar531 hz hidx) ?_ fun m hm hlt=>?_) ⟨g,?_⟩
 ·obtain ⟨i,hi,rfl⟩:=Array.mem_iff_getElem.mp hy
  obtain ⟨h1,tt,e3⟩:=key i hi
  rw [e3]
  exact SeqRoads2.EqGives.str _ _ _ _
 ·obtain ⟨h1,tt,e3⟩:=key _ hj
  rw [e3]
  exact List.findIdx_getElem (p:=(·==n)) (xs:=ls) (w:=hidx)
 ·obtain ⟨h1,tt,e3⟩:=key m hm
  rw [e3]
  have:=List.not_of_lt_findIdx (p:=(·==n)) (xs:=ls) hlt
  simpa using this
 ·exact PostV.tok (x:=.int _) sm ⟨_,rfl⟩ q
theorem tail_list_bool {A:Around} {E:Value→Shared→Prop} {s:Shared} {l:Addr} {items:Array Value} {b:Bool} {x:Value} {P:Value→Shared→Prop} (hl:s.heap.IsList l items) (hx:items[(if b then 1 else 0:Nat)]?=some x) (h:P x s) :
  wpAny (model c.prog c.w) A (getItem (.ref l) (.bool b)) P E s:=by
 revert hl hx h
 revert c; revert A; revert s; revert P; revert E; revert l items b x
 walk_at "close 9"
 intro l items b x E P s A c hl hx h
 obtain ⟨o,ho,hc,ne,hd⟩:=id hl
 unfold getItem
 refine wpAny_holding ?_
 refine wpAny_bind (wpAny_sequenceKey hl.typeIs (by decide) ?_)
 refine wpAny_bind (wpAny_callSpecial?_slot (name:=Str.ofString "__getitem__") hl.typeIs slot_list_getitem
  (wpAny_call_entry slot_list_getitem hl.typeIs entry_list_getitem ?_ (args_list_getitem _ _)))
 show wpAny _ _ (Builtin.List.listSubscript? (.bool b) >>= _) _ _ s
 refine wpAny_bind ?_
 unfold Builtin.List.listSubscript?
 refine wpAny_bind (wpAny_specialOf (T:="bool") (PySem.typeIs_bool s b) F.slot_bool_index.lookup ?_)
 show wpAny _ _ (asIndex (.bool b) >>= _) _ _ s
 refine wpAny_bind (wpAny_of_eq (a:=((if b then 1 else 0:Nat):Int)) (by cases b <;> rfl) ?_)
 cases b
 ·show wpAny _ _ (pure (some ((0:Nat):Int))) _ _ s
  refine wpAny_pure ?_
  show wpAny _ _ ((seqItemAt l 0 >>= fun r=>pure (r.map (0,·))) >>= _) _ _ s
  refine wpAny_bind (wpAny_bind (wpAny_seqItemAt ho hd (wpAny_pure ?_)))
  simp only [Bool.false_eq_true,if_false] at hx
  rw [hx]
  exact wpAny_pure ⟨x,rfl,wpAny_pure h⟩
 ·show wpAny _ _ (pure (some ((1:Nat):Int))) _ _ s
  refine wpAny_pure ?_
  show wpAny _ _ ((seqItemAt l 1 >>= fun r=>pure (r.map (1,·))) >>= _) _ _ s
  refine wpAny_bind (wpAny_bind (wpAny_seqItemAt ho hd (wpAny_pure ?_)))
  simp only [if_true] at hx
  rw [hx]
  exact wpAny_pure ⟨x,rfl,wpAny_pure h⟩
theorem TailW.listBool {v i:Expr} {l:Addr} {vs:List V} {b:Bool} {x:V} (hs:NoSlice i) (e:σ l=some (.list vs)∨σ l=some (.frozen vs)) (hx:vs[(if b then 1 else 0:Nat)]?=some x) (q:Q x σ) :
  TailW c k v i (.ref l) (.bool b) σ Q:=by
 rintro A s _ _ rm sm rfl rfl
 obtain ⟨its,n,g,r⟩:=sm.list e
 obtain ⟨u,hu,ru⟩:=r.get hx
 exact tail_any (IsL_of g).typeIs slot_list_getitem.lookup (tail_list_bool (IsL_of g) (by rw [arr_get]; exact hu) (PostV.here sm ru q)) (hs _ _)
theorem TV.ev {e:Expr} {Q:Bool→St→Prop} (he:∀ env whole,isTrue e env whole=(do let v ← whole; standAt e.pos; holding [v] (truthy v))) (h:EV c k e sc ρ σ fun x σ'=>∃ b,TruthW c k x σ' b∧Q b σ'):TV c k e sc ρ σ Q:=by
 intro env A s ok rm sm F
 refine wpAny_isTrue_value (h.andThen ok rm sm F fun v x σ' h' t' r sm' st F' q=>?_) (he _ _)
 obtain ⟨b,tr,q⟩:=q
 exact tr A { s with heap:=h',toks:=t' } v _ _ rm sm' r fun t=>⟨σ',h',t,rfl,sm',st,q⟩
noncomputable def BoolV (c:Cx) (k:Nat) (op:BoolOp) (sc:Scope) (ρ:Loc):List Expr→St→(V→St→Prop)→Prop
 | [],_,_=>False
 | [e],σ,Q=>EV c k e sc ρ σ Q
 | e::r,σ,Q=>EV c k e sc ρ σ fun v σ'=>∃ b,TruthW c k v σ' b∧match op,b with
  | .And,false=>Q v σ'
  | .Or,true=>Q v σ'
  | _,_=>BoolV c k op sc ρ r σ' Q
theorem BoolV.run {op:BoolOp} {env:Env} {A:Around} (ok:EnvOk sc env) (rm:Room A k) (p:Pos):∀ {l:List Expr} {σ:St} {s:Shared} {Q:V→St→Prop},Sim c σ s.heap→FrR env ρ σ s.heap→BoolV c k op sc ρ l σ Q →
  wpAny (model c.prog c.w) A (boolOp p op (evalEach l env)) (PostV c σ s Q) (fun _ _=>False) s:=by
 intro l
 induction l with
 | nil=>exact fun _ _ h=>h.elim
 | cons e r ih =>
  intro σ s Q sm F h
  cases r with
  | nil=>exact h env A s ok rm sm F
  | cons e' r =>
  show wpAny _ A (boolOp p op (eval e env::eval e' env::evalEach r env)) _ _ s
  refine wpAny_bind (EV.andThen h ok rm sm F fun v x σ' h' t' rv sm' st F' q=>?_)
  obtain ⟨b,tr,q⟩:=q
  refine wpAny_bind (wpAny_standAt (wpAny_bind (wpAny_holding (tr A { s with heap:=h',toks:=t' } v _ _ rm sm' rv fun t=>?_))))
  have fin:Q x σ'→PostV c σ s Q v { s with heap:=h',toks:=t }:=fun q=>⟨x,σ',h',t,rfl,rv,sm',st,q⟩
  have nxt:BoolV c k op sc ρ (e'::r) σ' Q→wpAny (model c.prog c.w) A (boolOp p op (eval e' env::evalEach r env)) (PostV c σ s Q) (fun _ _=>False) { s with heap:=h',toks:=t }:=fun q =>
   wpAny_before st (ih (s:={ s with heap:=h',toks:=t }) sm' F' q)
  cases op <;> cases b
  ·exact wpAny_pure (fin q)
  ·exact nxt q
  ·exact nxt q
  ·exact wpAny_pure (fin q)
theorem EV.boolop {op:BoolOp} {l:List Expr} {p:Pos} (h:BoolV c k op sc ρ l σ Q):EV c k (.BoolOp op l p) sc ρ σ Q:=by
 intro env A s ok rm sm F
 rw [arm_eval_BoolOp]
 exact BoolV.run ok rm p sm F h
theorem TV.cmp2 {l m r:Expr} {o₁ o₂:CmpOp} {p:Pos} {Q:Bool→St→Prop} (hm:behindInMarks o₂ r=false) (h:EV c k l sc ρ σ fun a σ₁=>EV c k m sc ρ σ₁ fun b σ₂=>Op2 c k (compareOp o₁) a b σ₂ fun x σ₃=>∃ z,x=.bool z∧b.flat=true ∧
  if z=true then EV c k r sc ρ σ₃ fun d σ₄=>Op2 c k (compareOp o₂) b d σ₄ fun x σ₅=>∃ z,x=.bool z∧Q z σ₅ else Q false σ₃):TV c k (.Compare l [o₁,o₂] [m,r] p) sc ρ σ Q:=by
 revert hm h
 revert c; revert k; revert sc; revert ρ; revert σ; revert Q; revert r; revert l m o₁ o₂ p
 walk_at "close 12"
 intro l m o₁ o₂ p r Q σ ρ sc k c hm h
 intro env A s ok rm sm F
 rw [arm_isTrue_Compare]
 refine wpAny_bind (h.andThen ok rm sm F fun va a σ₁ h₁ t₁ ra sm₁ st₁ F₁ q₁=>?_)
 have e0:markedEach [o₁,o₂] [m,r] (evalEach [m,r] env)=[eval m env,eval r env]:=by
  show [eval m env,markedBehindIn o₂ r (eval r env)]=_
  unfold markedBehindIn
  rw [hm]
 rw [e0]
 refine wpAny_bind (wpAny_holding (q₁.andThen (s:={ s with heap:=h₁,toks:=t₁ }) ok rm sm₁ F₁ fun vb b σ₂ h₂ t₂ rb sm₂ st₂ F₂ q₂=>?_))
 refine wpAny_bind (wpAny_standAt (wpAny_bind (wpAny_holding ?_)))
 refine wpAny_mono (q₂ A { s with heap:=h₂,toks:=t₂ } va vb rm sm₂ (ra.keeps (sm₁.tups st₂)) rb) (fun v s' pp=>?_) fun _ _ e=>e
 obtain ⟨x,σ₃,h₃,t₃,rfl,rx,sm₃,st₃,z,rfl,fl,q⟩:=pp
 rw [show v=.bool z from rx]
 refine wpAny_bind (wpAny_release (wpAny_bind (wpAny_holding (wpAny_truthy_bool ?_))))
 have F₃:=F₂.step sm₂ st₃
 have stt:=(st₁.trans st₂).trans st₃
 cases z with
 | false=>exact wpAny_pure ⟨σ₃,h₃,t₃,rfl,sm₃,stt,q⟩
 | true =>
  simp only [if_true] at q
  refine wpAny_bind (wpAny_holding (EV.andThen (s:={ s with heap:=h₃,toks:=t₃ }) q ok rm sm₃ F₃ fun vd d σ₄ h₄ t₄ rd sm₄ st₄ F₄ q₄=>?_))
  refine wpAny_bind (wpAny_standAt (wpAny_bind ?_))
  refine wpAny_operateT ?_
  refine wpAny_mono (q₄ A { s with heap:=h₄,toks:=t₄ } vb vd rm sm₄ ((rb.keeps (sm₂.tups st₃)).keeps (sm₃.tups st₄)) rd) (fun v s' pp=>?_) fun _ _ e=>e
  obtain ⟨x,σ₅,h₅,t₅,rfl,rx,sm₅,st₅,z,rfl,q⟩:=pp
  rw [show v=.bool z from rx]
  exact wpAny_holding (wpAny_truthy_bool ⟨σ₅,h₅,t₅,rfl,sm₅,(stt.trans st₄).trans st₅,q⟩)
theorem setItem_exact {A:Around} {E:Value→Shared→Prop} {s:Shared} {l:Addr} {its:List Value} {n:Nat} {kk:Int} {t:Tok} {v:Value} {P:Unit→Shared→Prop} (g:s.heap.get? l=some (listO its n)) (h0:0≤kk) (hfit:kk < 2 ^ 63) (hn:kk < its.length)
  (h:P () { s with heap:=s.heap.update l (Obj.mapSeq (·.setIfInBounds kk.toNat v)) }):wpAny (model c.prog c.w) A (setItem (.ref l) (.int kk t) v) P E s:=by
 revert g h0 hfit hn h
 revert c; revert A; revert s; revert P; revert E; revert n; revert l its kk t v
 walk_at "close 11"
 intro l its kk t v n E P s A c g h0 hfit hn h
 have hl:=IsL_of g
 unfold setItem
 refine wpAny_holding ?_
 refine wpAny_bind (wpAny_sequenceKey hl.typeIs (by decide) ?_)
 refine wpAny_bind (wpAny_callSpecial?_slot (name:=Str.ofString "__setitem__") hl.typeIs slot_list_setitem
  (wpAny_call_entry slot_list_setitem hl.typeIs entry_list_setitem ?_ (args_list_setitem _ _ _)))
 show wpAny _ _ (Builtin.List.listSubscript? (.int kk t) >>= _) _ _ s
 refine wpAny_bind (wpAny_listSubscript_int (fitsIndex_of h0 hfit) ?_)
 clear hfit
 obtain ⟨j,rfl⟩:=Int.eq_ofNat_of_zero_le h0
 have hj:j < its.toArray.size:=by simp; exact ar1 hn
 have hx':its.toArray[j]?=some its.toArray[j]:=Array.getElem?_eq_getElem hj
 show wpAny _ _ ((seqItemAt l j >>= fun r=>pure (r.map (j,·))) >>= _) _ _ s
 refine wpAny_bind (wpAny_bind (wpAny_seqItemAt g rfl (wpAny_pure ?_)))
 rw [hx']
 show wpAny _ _ (setSeqItemAt l j v >>= _) _ _ s
 refine wpAny_bind (wpAny_setSeqItemAt g rfl ?_)
 exact wpAny_pure ⟨.none,rfl,wpAny_pure h⟩
theorem VRs.set {h h':Heap} {u:Value} {v:V} (tk:TupKeep h h') (ru:VR h' u v):∀ {its:List Value} {vs:List V} {j:Nat},VRs h its vs→VRs h' (its.set j u) (vs.set j v):=by
 intro its vs
 induction vs generalizing its with
 | nil=>intro j r; rw [show its=[] from r]; exact rfl
 | cons w vs ih =>
  intro j r
  obtain ⟨x,l,rfl,a,b⟩:=r
  cases j with
  | zero=>exact ⟨u,l,rfl,ru,b.keeps tk⟩
  | succ j=>exact ⟨x,_,rfl,a.keeps tk,ih b⟩
set_option maxRecDepth 100000 in
theorem TgV.item {o i:Expr} {p:Pos} {v:V} {N:Loc→St→Prop} (h:EV c k o sc ρ σ fun a σ₁=>EV c k i sc ρ σ₁ fun b σ₂=>∃ l vs,∃ j:Nat,a=.ref l∧b=.int j∧σ₂ l=some (.list vs)∧j < vs.length∧j < 2 ^ 60∧N ρ (upM σ₂ l (.list (vs.set j v)))) :
  TgV c k (.Subscript o i p) sc ρ σ v N:=by
 intro env A s u ok fr rm sm F ru
 rw [arm_assign_Subscript]
 refine wpAny_bind (wpAny_holding (h.andThen ok rm sm F fun va a σ₁ h₁ t₁ ra sm₁ st₁ F₁ q₁=>?_))
 refine wpAny_bind (wpAny_holding (q₁.andThen (s:={ s with heap:=h₁,toks:=t₁ }) ok rm sm₁ F₁ fun vb b σ₂ h₂ t₂ rb sm₂ st₂ F₂ q₂=>?_))
 obtain ⟨l,vs,j,rfl,rfl,e,hj,hz,q⟩:=q₂
 rw [show va=.ref l from ra]
 obtain ⟨t,rfl⟩:=rb
 refine wpAny_bind (wpAny_standAt (wpAny_bind (wpAny_holding ?_)))
 obtain ⟨its,n,g,r⟩:=sm₂.rep l _ e
 have hlen:=r.length
 have hL:=IsL_of g
 have m:=mutAt_list e
 have ru₂:VR h₂ u v:=(ru.keeps (sm.tups st₁)).keeps (sm₁.tups st₂)
 refine setItem_exact (s:={ s with heap:=h₂,toks:=t₂ }) g (by exact ar20) (by exact ar6 hz) (by exact ar532 hj hlen) ?_
 rw [Int.toNat_natCast]
 have hs:=Heap.SameBut.update h₂ l (Obj.mapSeq (·.setIfInBounds j u))
 obtain ⟨n',g'⟩:∃ n',(h₂.update l (Obj.mapSeq (·.setIfInBounds j u))).get? l=some (listO (its.set j u) n'):=by
  have:=IsL.update g (fun z=>z.setIfInBounds j u)
  exact ⟨n,by simpa [IsL] using this⟩
 have tk:TupKeep h₂ (h₂.update l (Obj.mapSeq (·.setIfInBounds j u))):=tup_same hs g (by simp)
 have rset:=r.set (j:=j) tk (ru₂.keeps tk)
 have sm₃:=sm₂.update m hs (x:=.list (vs.set j v)) ⟨_,_,g',rset⟩
 have st₃:=Step.update (.list (vs.set j v)) m hs
 have F₃:=F₂.step sm₂ st₃
 have fin:PostL c env σ s N { s with heap:=h₂.update l (Obj.mapSeq (·.setIfInBounds j u)),toks:=t₂ } :=
  ⟨ρ,_,_,_,rfl,sm₃,((st₁.toF F sm).trans (st₂.toF F₁ sm₁)).trans (st₃.toF F₂ sm₂),F₃,q⟩
 exact wpAny_release fin
end
theorem setL_same {ρ:Loc} {x:Str} {v:V}:setL ρ x v x=some v:=if_pos rfl
theorem setL_other {ρ:Loc} {x y:Str} {v:V} {w:Option V} (h:(y==x)=false) (e:ρ y=w):setL ρ x v y=w:=by
 unfold setL
 rw [if_neg (by simpa using h)]; exact e
theorem exBool {b:Bool} {P:Bool→Prop} (h:P b):∃ z,V.bool b=V.bool z∧P z:=⟨b,rfl,h⟩
theorem exInt {b:Int} {P:Int→Prop} (h:P b):∃ z,V.int b=V.int z∧P z:=⟨b,rfl,h⟩
theorem ite_dec {p:Prop} [Decidable p] {A B:Prop} (h1:p→A) (h2:¬ p→B):if decide p=true then A else B:=by
 by_cases h:p
 ·rw [if_pos (by simpa using h)]; exact h1 h
 ·rw [if_neg (by simpa using h)]; exact h2 h
theorem ite_bool {b:Bool} {A B:Prop} (h1:b=true→A) (h2:b=false→B):if b=true then A else B:=by
 cases b
 ·rw [if_neg (by decide)]; exact h2 rfl
 ·rw [if_pos rfl]
  exact h1 rfl
theorem iteT {A B:Prop} (h:A):if true=true then A else B:=by rw [if_pos rfl]; exact h
theorem iteF {A B:Prop} (h:B):if false=true then A else B:=by rw [if_neg (by decide)]; exact h
theorem iteNT {A B:Prop} (h:B):if (!true)=true then A else B:=by rw [if_neg (by decide)]; exact h
theorem iteNF {A B:Prop} (h:A):if (!false)=true then A else B:=by rw [if_pos (by decide)]; exact h
theorem ite_decN {p:Prop} [Decidable p] {A B:Prop} (h1:¬ p→A) (h2:p→B):if (!decide p)=true then A else B:=by
 by_cases h:p
 ·rw [if_neg (by simpa using h)]; exact h2 h
 ·rw [if_pos (by simpa using h)]; exact h1 h
theorem compLoc_free {scope:Scope} {ρ:Loc} {x:Str} {w:Option V} (h:(scope.names.lookup x==some .free)=true) (e:ρ x=w):compLoc scope ρ x=w:=by
 unfold compLoc
 rw [if_pos (by simpa using h)]; exact e
section
variable {c:Cx} {k:Nat} {sc:Scope} {ρ:Loc} {σ:St}
theorem EVs.nil {Q:List V→St→Prop} (h:Q [] σ):EVs c k sc ρ [] σ Q:=h
theorem EVs.cons {e:Expr} {r:List Expr} {Q:List V→St→Prop} (h:EV c k e sc ρ σ fun v σ'=>EVs c k sc ρ r σ' fun vs σ''=>Q (v::vs) σ''):EVs c k sc ρ (e::r) σ Q:=h
theorem AllV.andNil {Q:Bool→St→Prop} (h:Q true σ):AllV c k .And sc ρ [] σ Q:=h
theorem AllV.orNil {Q:Bool→St→Prop} (h:Q false σ):AllV c k .Or sc ρ [] σ Q:=h
theorem TV.mono {e:Expr} {Q Q':Bool→St→Prop} (h:TV c k e sc ρ σ Q) (kk:∀ b σ',Q b σ'→Q' b σ'):TV c k e sc ρ σ Q' :=
 fun env A s a b d f=>wpAny_mono (h env A s a b d f) (fun _ _=>xi3 fun σ' h' t'=>im4 fun e x y z=>⟨σ',h',t',e,x,y,kk _ _ z⟩) fun _ _ e=>e
theorem AllV.andCons {e:Expr} {r:List Expr} {Q:Bool→St→Prop} (h:TV c k e sc ρ σ fun b σ'=>if b=true then AllV c k .And sc ρ r σ' Q else Q false σ'):AllV c k .And sc ρ (e::r) σ Q :=
 TV.mono h fun b σ' z=>by cases b <;> exact z
theorem AllV.orCons {e:Expr} {r:List Expr} {Q:Bool→St→Prop} (h:TV c k e sc ρ σ fun b σ'=>if b=true then Q true σ' else AllV c k .Or sc ρ r σ' Q):AllV c k .Or sc ρ (e::r) σ Q :=
 TV.mono h fun b σ' z=>by cases b <;> exact z
theorem Op2.mono {f:Value→Value→Sem Value} {a b:V} {Q Q':V→St→Prop} (h:Op2 c k f a b σ Q) (kk:∀ x σ',Q x σ'→Q' x σ'):Op2 c k f a b σ Q' :=
 fun A s va vb r sm ra rb=>wpAny_mono (h A s va vb r sm ra rb) (fun _ _ p=>p.mono kk) fun _ _ e=>e
theorem EV.mono' {e:Expr} {Q Q':V→St→Prop} (h:EV c k e sc ρ σ Q) (kk:∀ x σ',Q x σ'→Q' x σ'):EV c k e sc ρ σ Q':=h.mono kk
theorem TV.evB {e:Expr} {Q:Bool→St→Prop} (he:∀ env whole,isTrue e env whole=(do let v ← whole; standAt e.pos; holding [v] (truthy v))) (h:EV c k e sc ρ σ fun x σ'=>∃ b,x=.bool b∧Q b σ'):TV c k e sc ρ σ Q :=
 TV.ev he (h.mono fun x σ' z=>by obtain ⟨b,rfl,z⟩:=z; exact ⟨b,TruthW.bool,z⟩)
theorem BoolV.one {op:BoolOp} {e:Expr} {Q:V→St→Prop} (h:EV c k e sc ρ σ Q):BoolV c k op sc ρ [e] σ Q:=h
theorem BoolV.andB {e e':Expr} {r:List Expr} {Q:V→St→Prop} (h:EV c k e sc ρ σ fun v σ'=>∃ b,v=.bool b∧if b=true then BoolV c k .And sc ρ (e'::r) σ' Q else Q (.bool false) σ'):BoolV c k .And sc ρ (e::e'::r) σ Q :=
 h.mono fun v σ' z=>by
  refine xi1 ?_ (z)
  intro b
  refine im2 ?_
  intro hq337
  obtain rfl:=hq337
  intro z
  refine xc1_2 b TruthW.bool ?_
  cases b <;> exact z
theorem BoolV.orB {e e':Expr} {r:List Expr} {Q:V→St→Prop} (h:EV c k e sc ρ σ fun v σ'=>∃ b,v=.bool b∧if b=true then Q (.bool true) σ' else BoolV c k .Or sc ρ (e'::r) σ' Q):BoolV c k .Or sc ρ (e::e'::r) σ Q :=
 h.mono fun v σ' z=>by
  refine xi1 ?_ (z)
  intro b
  refine im2 ?_
  intro hq338
  obtain rfl:=hq338
  intro z
  refine xc1_2 b TruthW.bool ?_
  cases b <;> exact z
theorem exRefl {α:Type} {f:α→V} {v:V} {P:α→Prop} (b:α) (e:v=f b) (h:P b):∃ z,v=f z∧P z:=⟨b,e,h⟩
theorem TgVs.nil {N:Loc→St→Prop} (h:N ρ σ):TgVs c k sc [] [] ρ σ N:=h
theorem TgVs.cons {t:Expr} {ts:List Expr} {v:V} {vs:List V} {N:Loc→St→Prop} (h:TgV c k t sc ρ σ v fun ρ' σ'=>TgVs c k sc ts vs ρ' σ' N):TgVs c k sc (t::ts) (v::vs) ρ σ N:=h
theorem PartV.no {Q:Option Int→St→Prop} (h:Q none σ):PartV c k none sc ρ σ Q:=h
theorem PartV.yes {e:Expr} {Q:Option Int→St→Prop} (h:EV c k e sc ρ σ fun x σ'=>∃ i,x=.int i∧Q (some i) σ'):PartV c k (some e) sc ρ σ Q:=h
noncomputable def GlobV (c:Cx) (x:Str) (v:V):Prop:=∃ u,c.mg x=some u∧VR c.h0 u v
theorem EV.globE {x:Str} {p:Pos} {v:V} {Q:V→St→Prop} (hk:(sc.names.lookup x==some .globalImplicit)=true) (hd:(x==("__debug__":Str))=false) (hu:GlobV c x v) (q:Q v σ):EV c k (.Name x p) sc ρ σ Q:=by
 refine xi1 ?_ (hu)
 intro u
 refine im2 ?_
 intro hu hv
 exact EV.glob (by simpa using hk) hd hu hv q
theorem EV.bltE {x:Str} {p:Pos} {u:Value} {Q:V→St→Prop} (hk:(sc.names.lookup x==some .globalImplicit)=true) (hd:(x==("__debug__":Str))=false) (hu:c.mg x=none) (hb:bootBuiltins x=some u) (hn:(x==("__name__":Str))=false) (q:Q (.stat u) σ):EV c k (.Name x p) sc ρ σ Q :=
 EV.blt (by simpa using hk) hd hu hb (by simpa using hn) q
theorem EV.locE {x:Str} {p:Pos} {v:V} {Q:V→St→Prop} (hk:slotB sc x=true) (hd:(x==("__debug__":Str))=false) (hv:ρ x=some v) (q:Q v σ):EV c k (.Name x p) sc ρ σ Q:=EV.loc (slot_of hk) hd hv q
theorem TgV.nameE {x:Str} {p:Pos} {v:V} {N:Loc→St→Prop} (hk:slotB sc x=true) (q:N (setL ρ x v) σ):TgV c k (.Name x p) sc ρ σ v N:=TgV.name (slot_of hk) q
theorem EV.callG {x:Str} {p p':Pos} {u:Value} {l:List Expr} {Q:V→St→Prop} (hk:(sc.names.lookup x==some .globalImplicit)=true) (hd:(x==("__debug__":Str))=false) (hu:GlobV c x (.stat u)) (kp:Kept c u) (hp:l.all plainE=true)
  (h:EVs c k sc ρ l σ fun vs σ'=>CallW c k u vs σ' Q):EV c k (.Call (.Name x p) l [] p') sc ρ σ Q :=
 EV.call ⟨_,_,rfl⟩ hp (EV.globE hk hd hu ⟨u,rfl,kp,h⟩)
theorem EV.callB {x:Str} {p p':Pos} {u:Value} {l:List Expr} {Q:V→St→Prop} (hk:(sc.names.lookup x==some .globalImplicit)=true) (hd:(x==("__debug__":Str))=false) (hu:c.mg x=none) (hb:bootBuiltins x=some u) (hn:(x==("__name__":Str))=false) (kp:Kept c u) (hp:l.all plainE=true)
  (h:EVs c k sc ρ l σ fun vs σ'=>CallW c k u vs σ' Q):EV c k (.Call (.Name x p) l [] p') sc ρ σ Q :=
 EV.call ⟨_,_,rfl⟩ hp (EV.bltE hk hd hu hb hn ⟨u,rfl,kp,h⟩)
theorem lenE {α:Type} {P:List α→Prop} {n:Nat} (h:∀ a t,t.length=n→P (a::t)):∀ l,l.length=n+1→P l:=fun l=>by
 cases l with
 | nil=>exact fun e=>absurd e (Nat.succ_ne_zero n).symm
 | cons a t=>exact fun e=>h a t (Nat.succ.inj e)
theorem len0 {α:Type} {P:List α→Prop} (h:P []):∀ l,l.length=0→P l:=fun l e=>List.eq_nil_of_length_eq_zero e ▸ h
theorem CallC.def1 {K:Frag} {f:Addr} {name qual:Str} {body:List Stmt} {scope:Scope} {dV kV doc pm cdv ct oc:Value} {an od:Option Addr} {osl:Array (Option Value)} {Q:V→St→Prop} {n₁:Str} {p₁:Pos} {v₁:V}
  (X:K.In c.h0) (hf:K.lookup f=some ⟨oc,od,.func (fnOf name qual ⟨[],[⟨n₁,none,p₁⟩],none,[],[],none,[]⟩ body scope dV kV doc pm an cdv ct),osl⟩) (hcd:codeIn K cdv qual=true)
  (hbind:∀ a,bindArgs (fnOf name qual ⟨[],[⟨n₁,none,p₁⟩],none,[],[],none,[]⟩ body scope dV kV doc pm an cdv ct) ⟨[a],[]⟩=pure [(n₁,a)])
  (hkindB:([n₁].all fun x=>slotB scope x)=true) (hco:scope.isCoroutine=false) (hgen:scope.isGenerator=false) (hk:scope.kind=.function)
  (h:XV c k body scope (setL (fun _=>none) n₁ v₁) σ (fun _ σ'=>Q .none σ') Q):CallC c (k+1) (.ref f) [v₁] σ Q :=
 CallC.def [n₁] X hf hcd (lenE fun a=>len0 (hbind a)) hkindB rfl hco hgen hk h
theorem CallC.def2 {K:Frag} {f:Addr} {name qual:Str} {body:List Stmt} {scope:Scope} {dV kV doc pm cdv ct oc:Value} {an od:Option Addr} {osl:Array (Option Value)} {Q:V→St→Prop} {n₁ n₂:Str} {p₁ p₂:Pos} {v₁ v₂:V}
  (X:K.In c.h0) (hf:K.lookup f=some ⟨oc,od,.func (fnOf name qual ⟨[],[⟨n₁,none,p₁⟩,⟨n₂,none,p₂⟩],none,[],[],none,[]⟩ body scope dV kV doc pm an cdv ct),osl⟩) (hcd:codeIn K cdv qual=true)
  (hbind:∀ a b,bindArgs (fnOf name qual ⟨[],[⟨n₁,none,p₁⟩,⟨n₂,none,p₂⟩],none,[],[],none,[]⟩ body scope dV kV doc pm an cdv ct) ⟨[a,b],[]⟩=pure [(n₁,a),(n₂,b)])
  (hkindB:([n₁,n₂].all fun x=>slotB scope x)=true) (hco:scope.isCoroutine=false) (hgen:scope.isGenerator=false) (hk:scope.kind=.function)
  (h:XV c k body scope (setL (setL (fun _=>none) n₁ v₁) n₂ v₂) σ (fun _ σ'=>Q .none σ') Q):CallC c (k+1) (.ref f) [v₁,v₂] σ Q :=
 CallC.def [n₁,n₂] X hf hcd (lenE fun a=>lenE fun b=>len0 (hbind a b)) hkindB rfl hco hgen hk h
theorem CallC.def3 {K:Frag} {f:Addr} {name qual:Str} {body:List Stmt} {scope:Scope} {dV kV doc pm cdv ct oc:Value} {an od:Option Addr} {osl:Array (Option Value)} {Q:V→St→Prop} {n₁ n₂ n₃:Str} {p₁ p₂ p₃:Pos} {v₁ v₂ v₃:V}
  (X:K.In c.h0) (hf:K.lookup f=some ⟨oc,od,.func (fnOf name qual ⟨[],[⟨n₁,none,p₁⟩,⟨n₂,none,p₂⟩,⟨n₃,none,p₃⟩],none,[],[],none,[]⟩ body scope dV kV doc pm an cdv ct),osl⟩) (hcd:codeIn K cdv qual=true)
  (hbind:∀ a b d,bindArgs (fnOf name qual ⟨[],[⟨n₁,none,p₁⟩,⟨n₂,none,p₂⟩,⟨n₃,none,p₃⟩],none,[],[],none,[]⟩ body scope dV kV doc pm an cdv ct) ⟨[a,b,d],[]⟩=pure [(n₁,a),(n₂,b),(n₃,d)])
  (hkindB:([n₁,n₂,n₃].all fun x=>slotB scope x)=true) (hco:scope.isCoroutine=false) (hgen:scope.isGenerator=false) (hk:scope.kind=.function)
  (h:XV c k body scope (setL (setL (setL (fun _=>none) n₁ v₁) n₂ v₂) n₃ v₃) σ (fun _ σ'=>Q .none σ') Q):CallC c (k+1) (.ref f) [v₁,v₂,v₃] σ Q :=
 CallC.def [n₁,n₂,n₃] X hf hcd (lenE fun a=>lenE fun b=>lenE fun d=>len0 (hbind a b d)) hkindB rfl hco hgen hk h
theorem CallC.def4 {K:Frag} {f:Addr} {name qual:Str} {body:List Stmt} {scope:Scope} {dV kV doc pm cdv ct oc:Value} {an od:Option Addr} {osl:Array (Option Value)} {Q:V→St→Prop} {n₁ n₂ n₃ n₄:Str} {p₁ p₂ p₃ p₄:Pos} {v₁ v₂ v₃ v₄:V}
  (X:K.In c.h0) (hf:K.lookup f=some ⟨oc,od,.func (fnOf name qual ⟨[],[⟨n₁,none,p₁⟩,⟨n₂,none,p₂⟩,⟨n₃,none,p₃⟩,⟨n₄,none,p₄⟩],none,[],[],none,[]⟩ body scope dV kV doc pm an cdv ct),osl⟩) (hcd:codeIn K cdv qual=true)
  (hbind:∀ a b d e,bindArgs (fnOf name qual ⟨[],[⟨n₁,none,p₁⟩,⟨n₂,none,p₂⟩,⟨n₃,none,p₃⟩,⟨n₄,none,p₄⟩],none,[],[],none,[]⟩ body scope dV kV doc pm an cdv ct) ⟨[a,b,d,e],[]⟩=pure [(n₁,a),(n₂,b),(n₃,d),(n₄,e)])
  (hkindB:([n₁,n₂,n₃,n₄].all fun x=>slotB scope x)=true) (hco:scope.isCoroutine=false) (hgen:scope.isGenerator=false) (hk:scope.kind=.function)
  (h:XV c k body scope (setL (setL (setL (setL (fun _=>none) n₁ v₁) n₂ v₂) n₃ v₃) n₄ v₄) σ (fun _ σ'=>Q .none σ') Q):CallC c (k+1) (.ref f) [v₁,v₂,v₃,v₄] σ Q :=
 CallC.def [n₁,n₂,n₃,n₄] X hf hcd (lenE fun a=>lenE fun b=>lenE fun d=>lenE fun e=>len0 (hbind a b d e)) hkindB rfl hco hgen hk h
theorem CallC.def5 {K:Frag} {f:Addr} {name qual:Str} {body:List Stmt} {scope:Scope} {dV kV doc pm cdv ct oc:Value} {an od:Option Addr} {osl:Array (Option Value)} {Q:V→St→Prop} {n₁ n₂ n₃ n₄ n₅:Str} {p₁ p₂ p₃ p₄ p₅:Pos} {v₁ v₂ v₃ v₄ v₅:V}
  (X:K.In c.h0) (hf:K.lookup f=some ⟨oc,od,.func (fnOf name qual ⟨[],[⟨n₁,none,p₁⟩,⟨n₂,none,p₂⟩,⟨n₃,none,p₃⟩,⟨n₄,none,p₄⟩,⟨n₅,none,p₅⟩],none,[],[],none,[]⟩ body scope dV kV doc pm an cdv ct),osl⟩) (hcd:codeIn K cdv qual=true)
  (hbind:∀ a b d e g,bindArgs (fnOf name qual ⟨[],[⟨n₁,none,p₁⟩,⟨n₂,none,p₂⟩,⟨n₃,none,p₃⟩,⟨n₄,none,p₄⟩,⟨n₅,none,p₅⟩],none,[],[],none,[]⟩ body scope dV kV doc pm an cdv ct) ⟨[a,b,d,e,g],[]⟩=pure [(n₁,a),(n₂,b),(n₃,d),(n₄,e),(n₅,g)])
  (hkindB:([n₁,n₂,n₃,n₄,n₅].all fun x=>slotB scope x)=true) (hco:scope.isCoroutine=false) (hgen:scope.isGenerator=false) (hk:scope.kind=.function)
  (h:XV c k body scope (setL (setL (setL (setL (setL (fun _=>none) n₁ v₁) n₂ v₂) n₃ v₃) n₄ v₄) n₅ v₅) σ (fun _ σ'=>Q .none σ') Q):CallC c (k+1) (.ref f) [v₁,v₂,v₃,v₄,v₅] σ Q :=
 CallC.def [n₁,n₂,n₃,n₄,n₅] X hf hcd (lenE fun a=>lenE fun b=>lenE fun d=>lenE fun e=>lenE fun g=>len0 (hbind a b d e g)) hkindB rfl hco hgen hk h
end
noncomputable abbrev tx (s:String):List Nat:=(Str.ofString s).cps.toList
structure PC (c:Cx):Prop where
 K:c.K=Mine.Internal.hd.heap_1 c.w.params
theorem PC.X {c:Cx} (pc:PC c):(Mine.Internal.hd.heap_1 c.w.params).In c.h0:=pc.K ▸ c.k
theorem PC.mg {c:Cx} (pc:PC c) {n:Str} {v:Value} (e:nsIn (Mine.Internal.hd.heap_1 c.w.params) mainGlobals n=some (some v)):c.mg n=some v:=mg_of pc.X c.g e
theorem nsIn_none {K:Frag} {h:Heap} {mg:Str→Option Value} {n:Str} (X:K.In h) (G:h.Ns mainGlobals mg) (e:nsIn K mainGlobals n=some none):mg n=none:=by
 obtain ⟨o,es,ep,ho,hd,_,hf⟩:=G
 delta nsIn at e
 cases q:K.lookup mainGlobals with
 | none=>rw [q] at e; cases e
 | some ob =>
  have z:=X _ _ q
  rw [ho] at z
  cases z
  rw [q] at e
  obtain ⟨cl,d,data,sl⟩:=o
  cases hd
  rw [← hf]
  dsimp only at e
  split at e
  ·cases e
  ·split at e
   ·cases e
   ·rename_i w z
    unfold nsFind findBy
    rw [← Array.find?_toList,w]; rfl
theorem PC.no {c:Cx} (pc:PC c) {n:Str} (e:nsIn (Mine.Internal.hd.heap_1 c.w.params) mainGlobals n=some none):c.mg n=none:=nsIn_none pc.X c.g e
theorem kp_ShapeError___init {c:Cx} (pc:PC c):Kept c (.ref 31):=Kept.of (by rw [pc.K]; kernel_rfl)
theorem kp_ShapeError_told {c:Cx} (pc:PC c):Kept c (.ref 38):=Kept.of (by rw [pc.K]; kernel_rfl)
theorem kp_RuleTree___init {c:Cx} (pc:PC c):Kept c (.ref 71):=Kept.of (by rw [pc.K]; kernel_rfl)
theorem kp_RuleTree_told {c:Cx} (pc:PC c):Kept c (.ref 76):=Kept.of (by rw [pc.K]; kernel_rfl)
theorem kp_RuleTree_lookup_named {c:Cx} (pc:PC c):Kept c (.ref 81):=Kept.of (by rw [pc.K]; kernel_rfl)
theorem kp_LookupBlock___init {c:Cx} (pc:PC c):Kept c (.ref 102):=Kept.of (by rw [pc.K]; kernel_rfl)
theorem kp_LookupBlock_told {c:Cx} (pc:PC c):Kept c (.ref 107):=Kept.of (by rw [pc.K]; kernel_rfl)
theorem kp_LookupBlock_kind {c:Cx} (pc:PC c):Kept c (.ref 114):=Kept.of (by rw [pc.K]; kernel_rfl)
theorem kp_LookupBlock_is_position {c:Cx} (pc:PC c):Kept c (.ref 121):=Kept.of (by rw [pc.K]; kernel_rfl)
theorem kp_RuleRow___init {c:Cx} (pc:PC c):Kept c (.ref 142):=Kept.of (by rw [pc.K]; kernel_rfl)
theorem kp_RuleRow_told {c:Cx} (pc:PC c):Kept c (.ref 149):=Kept.of (by rw [pc.K]; kernel_rfl)
theorem kp_RuleRow_word {c:Cx} (pc:PC c):Kept c (.ref 156):=Kept.of (by rw [pc.K]; kernel_rfl)
theorem kp_RuleRow_left {c:Cx} (pc:PC c):Kept c (.ref 163):=Kept.of (by rw [pc.K]; kernel_rfl)
theorem kp_FeatureRow___init {c:Cx} (pc:PC c):Kept c (.ref 184):=Kept.of (by rw [pc.K]; kernel_rfl)
theorem kp_FeatureRow_told {c:Cx} (pc:PC c):Kept c (.ref 191):=Kept.of (by rw [pc.K]; kernel_rfl)
theorem gv_run_end {c:Cx} (pc:PC c):GlobV c "run_end" (.stat (.ref 205)):=⟨_,pc.mg (by kernel_rfl),rfl⟩
theorem kp_run_end {c:Cx} (pc:PC c):Kept c (.ref 205):=Kept.of (by rw [pc.K]; kernel_rfl)
theorem gv_skipped {c:Cx} (pc:PC c):GlobV c "skipped" (.stat (.ref 212)):=⟨_,pc.mg (by kernel_rfl),rfl⟩
theorem kp_skipped {c:Cx} (pc:PC c):Kept c (.ref 212):=Kept.of (by rw [pc.K]; kernel_rfl)
theorem gv_word_end {c:Cx} (pc:PC c):GlobV c "word_end" (.stat (.ref 219)):=⟨_,pc.mg (by kernel_rfl),rfl⟩
theorem kp_word_end {c:Cx} (pc:PC c):Kept c (.ref 219):=Kept.of (by rw [pc.K]; kernel_rfl)
theorem gv_words_of_text {c:Cx} (pc:PC c):GlobV c "words_of_text" (.stat (.ref 226)):=⟨_,pc.mg (by kernel_rfl),rfl⟩
theorem kp_words_of_text {c:Cx} (pc:PC c):Kept c (.ref 226):=Kept.of (by rw [pc.K]; kernel_rfl)
theorem gv_is_name {c:Cx} (pc:PC c):GlobV c "is_name" (.stat (.ref 233)):=⟨_,pc.mg (by kernel_rfl),rfl⟩
theorem kp_is_name {c:Cx} (pc:PC c):Kept c (.ref 233):=Kept.of (by rw [pc.K]; kernel_rfl)
theorem kp_RuleReader___init {c:Cx} (pc:PC c):Kept c (.ref 247):=Kept.of (by rw [pc.K]; kernel_rfl)
theorem kp_RuleReader_word {c:Cx} (pc:PC c):Kept c (.ref 254):=Kept.of (by rw [pc.K]; kernel_rfl)
theorem kp_RuleReader_fault {c:Cx} (pc:PC c):Kept c (.ref 261):=Kept.of (by rw [pc.K]; kernel_rfl)
theorem kp_RuleReader_take {c:Cx} (pc:PC c):Kept c (.ref 268):=Kept.of (by rw [pc.K]; kernel_rfl)
theorem kp_RuleReader_skip {c:Cx} (pc:PC c):Kept c (.ref 275):=Kept.of (by rw [pc.K]; kernel_rfl)
theorem kp_RuleReader_need {c:Cx} (pc:PC c):Kept c (.ref 282):=Kept.of (by rw [pc.K]; kernel_rfl)
theorem kp_RuleReader_name {c:Cx} (pc:PC c):Kept c (.ref 289):=Kept.of (by rw [pc.K]; kernel_rfl)
theorem kp_RuleReader_glyph {c:Cx} (pc:PC c):Kept c (.ref 296):=Kept.of (by rw [pc.K]; kernel_rfl)
theorem kp_RuleReader_number {c:Cx} (pc:PC c):Kept c (.ref 303):=Kept.of (by rw [pc.K]; kernel_rfl)
theorem kp_RuleReader_tag {c:Cx} (pc:PC c):Kept c (.ref 310):=Kept.of (by rw [pc.K]; kernel_rfl)
theorem gv_read_glyph_set {c:Cx} (pc:PC c):GlobV c "read_glyph_set" (.stat (.ref 324)):=⟨_,pc.mg (by kernel_rfl),rfl⟩
theorem kp_read_glyph_set {c:Cx} (pc:PC c):Kept c (.ref 324):=Kept.of (by rw [pc.K]; kernel_rfl)
theorem gv_read_item {c:Cx} (pc:PC c):GlobV c "read_item" (.stat (.ref 331)):=⟨_,pc.mg (by kernel_rfl),rfl⟩
theorem kp_read_item {c:Cx} (pc:PC c):Kept c (.ref 331):=Kept.of (by rw [pc.K]; kernel_rfl)
theorem gv_starts_item {c:Cx} (pc:PC c):GlobV c "starts_item" (.stat (.ref 338)):=⟨_,pc.mg (by kernel_rfl),rfl⟩
theorem kp_starts_item {c:Cx} (pc:PC c):Kept c (.ref 338):=Kept.of (by rw [pc.K]; kernel_rfl)
theorem gv_read_items {c:Cx} (pc:PC c):GlobV c "read_items" (.stat (.ref 345)):=⟨_,pc.mg (by kernel_rfl),rfl⟩
theorem kp_read_items {c:Cx} (pc:PC c):Kept c (.ref 345):=Kept.of (by rw [pc.K]; kernel_rfl)
theorem gv_chain_row {c:Cx} (pc:PC c):GlobV c "chain_row" (.stat (.ref 350)):=⟨_,pc.mg (by kernel_rfl),rfl⟩
theorem kp_chain_row {c:Cx} (pc:PC c):Kept c (.ref 350):=Kept.of (by rw [pc.K]; kernel_rfl)
theorem gv_read_names {c:Cx} (pc:PC c):GlobV c "read_names" (.stat (.ref 357)):=⟨_,pc.mg (by kernel_rfl),rfl⟩
theorem kp_read_names {c:Cx} (pc:PC c):Kept c (.ref 357):=Kept.of (by rw [pc.K]; kernel_rfl)
theorem gv_is_marked {c:Cx} (pc:PC c):GlobV c "is_marked" (.stat (.ref 362)):=⟨_,pc.mg (by kernel_rfl),rfl⟩
theorem kp_is_marked {c:Cx} (pc:PC c):Kept c (.ref 362):=Kept.of (by rw [pc.K]; kernel_rfl)
theorem gv_read_substitution_row {c:Cx} (pc:PC c):GlobV c "read_substitution_row" (.stat (.ref 367)):=⟨_,pc.mg (by kernel_rfl),rfl⟩
theorem kp_read_substitution_row {c:Cx} (pc:PC c):Kept c (.ref 367):=Kept.of (by rw [pc.K]; kernel_rfl)
theorem gv_read_worth {c:Cx} (pc:PC c):GlobV c "read_worth" (.stat (.ref 372)):=⟨_,pc.mg (by kernel_rfl),rfl⟩
theorem kp_read_worth {c:Cx} (pc:PC c):Kept c (.ref 372):=Kept.of (by rw [pc.K]; kernel_rfl)
theorem gv_read_position_row {c:Cx} (pc:PC c):GlobV c "read_position_row" (.stat (.ref 377)):=⟨_,pc.mg (by kernel_rfl),rfl⟩
theorem kp_read_position_row {c:Cx} (pc:PC c):Kept c (.ref 377):=Kept.of (by rw [pc.K]; kernel_rfl)
theorem gv_refuse_sets {c:Cx} (pc:PC c):GlobV c "refuse_sets" (.stat (.ref 384)):=⟨_,pc.mg (by kernel_rfl),rfl⟩
theorem kp_refuse_sets {c:Cx} (pc:PC c):Kept c (.ref 384):=Kept.of (by rw [pc.K]; kernel_rfl)
theorem gv_read_row {c:Cx} (pc:PC c):GlobV c "read_row" (.stat (.ref 391)):=⟨_,pc.mg (by kernel_rfl),rfl⟩
theorem kp_read_row {c:Cx} (pc:PC c):Kept c (.ref 391):=Kept.of (by rw [pc.K]; kernel_rfl)
theorem gv_check_row {c:Cx} (pc:PC c):GlobV c "check_row" (.stat (.ref 396)):=⟨_,pc.mg (by kernel_rfl),rfl⟩
theorem kp_check_row {c:Cx} (pc:PC c):Kept c (.ref 396):=Kept.of (by rw [pc.K]; kernel_rfl)
theorem gv_read_lookup {c:Cx} (pc:PC c):GlobV c "read_lookup" (.stat (.ref 403)):=⟨_,pc.mg (by kernel_rfl),rfl⟩
theorem kp_read_lookup {c:Cx} (pc:PC c):Kept c (.ref 403):=Kept.of (by rw [pc.K]; kernel_rfl)
theorem gv_read_feature {c:Cx} (pc:PC c):GlobV c "read_feature" (.stat (.ref 410)):=⟨_,pc.mg (by kernel_rfl),rfl⟩
theorem kp_read_feature {c:Cx} (pc:PC c):Kept c (.ref 410):=Kept.of (by rw [pc.K]; kernel_rfl)
theorem gv_read_rules {c:Cx} (pc:PC c):GlobV c "read_rules" (.stat (.ref 417)):=⟨_,pc.mg (by kernel_rfl),rfl⟩
theorem kp_read_rules {c:Cx} (pc:PC c):Kept c (.ref 417):=Kept.of (by rw [pc.K]; kernel_rfl)
theorem gv_show_set {c:Cx} (pc:PC c):GlobV c "show_set" (.stat (.ref 424)):=⟨_,pc.mg (by kernel_rfl),rfl⟩
theorem kp_show_set {c:Cx} (pc:PC c):Kept c (.ref 424):=Kept.of (by rw [pc.K]; kernel_rfl)
theorem gv_show_worth {c:Cx} (pc:PC c):GlobV c "show_worth" (.stat (.ref 429)):=⟨_,pc.mg (by kernel_rfl),rfl⟩
theorem kp_show_worth {c:Cx} (pc:PC c):Kept c (.ref 429):=Kept.of (by rw [pc.K]; kernel_rfl)
theorem gv_show_chain {c:Cx} (pc:PC c):GlobV c "show_chain" (.stat (.ref 434)):=⟨_,pc.mg (by kernel_rfl),rfl⟩
theorem kp_show_chain {c:Cx} (pc:PC c):Kept c (.ref 434):=Kept.of (by rw [pc.K]; kernel_rfl)
theorem gv_show_row {c:Cx} (pc:PC c):GlobV c "show_row" (.stat (.ref 441)):=⟨_,pc.mg (by kernel_rfl),rfl⟩
theorem kp_show_row {c:Cx} (pc:PC c):Kept c (.ref 441):=Kept.of (by rw [pc.K]; kernel_rfl)
theorem gv_show_lookup {c:Cx} (pc:PC c):GlobV c "show_lookup" (.stat (.ref 446)):=⟨_,pc.mg (by kernel_rfl),rfl⟩
theorem kp_show_lookup {c:Cx} (pc:PC c):Kept c (.ref 446):=Kept.of (by rw [pc.K]; kernel_rfl)
theorem gv_show_feature {c:Cx} (pc:PC c):GlobV c "show_feature" (.stat (.ref 453)):=⟨_,pc.mg (by kernel_rfl),rfl⟩
theorem kp_show_feature {c:Cx} (pc:PC c):Kept c (.ref 453):=Kept.of (by rw [pc.K]; kernel_rfl)
theorem gv_show_rules {c:Cx} (pc:PC c):GlobV c "show_rules" (.stat (.ref 458)):=⟨_,pc.mg (by kernel_rfl),rfl⟩
theorem kp_show_rules {c:Cx} (pc:PC c):Kept c (.ref 458):=Kept.of (by rw [pc.K]; kernel_rfl)
theorem gv_law_pen {c:Cx} (pc:PC c):GlobV c "_law_pen" (.stat (.ref 463)):=⟨_,pc.mg (by kernel_rfl),rfl⟩
theorem kp_law_pen {c:Cx} (pc:PC c):Kept c (.ref 463):=Kept.of (by rw [pc.K]; kernel_rfl)
theorem gv_law_draw {c:Cx} (pc:PC c):GlobV c "_law_draw" (.stat (.ref 470)):=⟨_,pc.mg (by kernel_rfl),rfl⟩
theorem kp_law_draw {c:Cx} (pc:PC c):Kept c (.ref 470):=Kept.of (by rw [pc.K]; kernel_rfl)
theorem gv_law_kinds {c:Cx} (pc:PC c):GlobV c "_law_kinds" (.stat (.ref 478)):=⟨_,pc.mg (by kernel_rfl),rfl⟩
theorem kp_law_kinds {c:Cx} (pc:PC c):Kept c (.ref 478):=Kept.of (by rw [pc.K]; kernel_rfl)
theorem gv_law_glyph {c:Cx} (pc:PC c):GlobV c "_law_glyph" (.stat (.ref 485)):=⟨_,pc.mg (by kernel_rfl),rfl⟩
theorem kp_law_glyph {c:Cx} (pc:PC c):Kept c (.ref 485):=Kept.of (by rw [pc.K]; kernel_rfl)
theorem gv_law_some {c:Cx} (pc:PC c):GlobV c "_law_some" (.stat (.ref 492)):=⟨_,pc.mg (by kernel_rfl),rfl⟩
theorem kp_law_some {c:Cx} (pc:PC c):Kept c (.ref 492):=Kept.of (by rw [pc.K]; kernel_rfl)
theorem gv_law_worth {c:Cx} (pc:PC c):GlobV c "_law_worth" (.stat (.ref 497)):=⟨_,pc.mg (by kernel_rfl),rfl⟩
theorem kp_law_worth {c:Cx} (pc:PC c):Kept c (.ref 497):=Kept.of (by rw [pc.K]; kernel_rfl)
theorem gv_law_chain {c:Cx} (pc:PC c):GlobV c "_law_chain" (.stat (.ref 502)):=⟨_,pc.mg (by kernel_rfl),rfl⟩
theorem kp_law_chain {c:Cx} (pc:PC c):Kept c (.ref 502):=Kept.of (by rw [pc.K]; kernel_rfl)
theorem gv_law_row {c:Cx} (pc:PC c):GlobV c "_law_row" (.stat (.ref 507)):=⟨_,pc.mg (by kernel_rfl),rfl⟩
theorem kp_law_row {c:Cx} (pc:PC c):Kept c (.ref 507):=Kept.of (by rw [pc.K]; kernel_rfl)
theorem gv_law_left {c:Cx} (pc:PC c):GlobV c "_law_left" (.stat (.ref 514)):=⟨_,pc.mg (by kernel_rfl),rfl⟩
theorem kp_law_left {c:Cx} (pc:PC c):Kept c (.ref 514):=Kept.of (by rw [pc.K]; kernel_rfl)
theorem gv_law_lookup {c:Cx} (pc:PC c):GlobV c "_law_lookup" (.stat (.ref 519)):=⟨_,pc.mg (by kernel_rfl),rfl⟩
theorem kp_law_lookup {c:Cx} (pc:PC c):Kept c (.ref 519):=Kept.of (by rw [pc.K]; kernel_rfl)
theorem gv_law_told_tree {c:Cx} (pc:PC c):GlobV c "_law_told_tree" (.stat (.ref 524)):=⟨_,pc.mg (by kernel_rfl),rfl⟩
theorem kp_law_told_tree {c:Cx} (pc:PC c):Kept c (.ref 524):=Kept.of (by rw [pc.K]; kernel_rfl)
theorem gv_law_set_words {c:Cx} (pc:PC c):GlobV c "_law_set_words" (.stat (.ref 531)):=⟨_,pc.mg (by kernel_rfl),rfl⟩
theorem kp_law_set_words {c:Cx} (pc:PC c):Kept c (.ref 531):=Kept.of (by rw [pc.K]; kernel_rfl)
theorem gv_law_worth_words {c:Cx} (pc:PC c):GlobV c "_law_worth_words" (.stat (.ref 536)):=⟨_,pc.mg (by kernel_rfl),rfl⟩
theorem kp_law_worth_words {c:Cx} (pc:PC c):Kept c (.ref 536):=Kept.of (by rw [pc.K]; kernel_rfl)
theorem gv_law_row_words {c:Cx} (pc:PC c):GlobV c "_law_row_words" (.stat (.ref 543)):=⟨_,pc.mg (by kernel_rfl),rfl⟩
theorem kp_law_row_words {c:Cx} (pc:PC c):Kept c (.ref 543):=Kept.of (by rw [pc.K]; kernel_rfl)
theorem gv_law_lookup_words {c:Cx} (pc:PC c):GlobV c "_law_lookup_words" (.stat (.ref 550)):=⟨_,pc.mg (by kernel_rfl),rfl⟩
theorem kp_law_lookup_words {c:Cx} (pc:PC c):Kept c (.ref 550):=Kept.of (by rw [pc.K]; kernel_rfl)
theorem gv_law_feature_words {c:Cx} (pc:PC c):GlobV c "_law_feature_words" (.stat (.ref 557)):=⟨_,pc.mg (by kernel_rfl),rfl⟩
theorem kp_law_feature_words {c:Cx} (pc:PC c):Kept c (.ref 557):=Kept.of (by rw [pc.K]; kernel_rfl)
theorem gv_law_words {c:Cx} (pc:PC c):GlobV c "_law_words" (.stat (.ref 564)):=⟨_,pc.mg (by kernel_rfl),rfl⟩
theorem kp_law_words {c:Cx} (pc:PC c):Kept c (.ref 564):=Kept.of (by rw [pc.K]; kernel_rfl)
theorem gv_law_text {c:Cx} (pc:PC c):GlobV c "_law_text" (.stat (.ref 571)):=⟨_,pc.mg (by kernel_rfl),rfl⟩
theorem kp_law_text {c:Cx} (pc:PC c):Kept c (.ref 571):=Kept.of (by rw [pc.K]; kernel_rfl)
theorem gv_law_bare {c:Cx} (pc:PC c):GlobV c "_law_bare" (.stat (.ref 578)):=⟨_,pc.mg (by kernel_rfl),rfl⟩
theorem kp_law_bare {c:Cx} (pc:PC c):Kept c (.ref 578):=Kept.of (by rw [pc.K]; kernel_rfl)
theorem gv_law {c:Cx} (pc:PC c):GlobV c "law" (.stat (.ref 583)):=⟨_,pc.mg (by kernel_rfl),rfl⟩
theorem kp_law {c:Cx} (pc:PC c):Kept c (.ref 583):=Kept.of (by rw [pc.K]; kernel_rfl)
theorem gv_RuleTree {c:Cx} (pc:PC c):GlobV c "RuleTree" (.stat (.ref 84)):=⟨_,pc.mg (by kernel_rfl),rfl⟩
theorem kp_RuleTree {c:Cx} (pc:PC c):Kept c (.ref 84):=Kept.of (by rw [pc.K]; kernel_rfl)
theorem pl_RuleTree {c:Cx} (pc:PC c):plainCls c.K 84=true:=by rw [pc.K]; kernel_rfl
theorem mk_RuleTree {c:Cx} (pc:PC c):makesIn c.K 84=true:=by rw [pc.K]; kernel_rfl
theorem in_RuleTree {c:Cx} (pc:PC c):findIn c.K (.ref 84) "__init__"=some (some (.ref 71))∧typeIn c.K (.ref 71)=some (.type "function"):=by rw [pc.K]; exact ⟨by kernel_rfl,by kernel_rfl⟩
theorem gv_LookupBlock {c:Cx} (pc:PC c):GlobV c "LookupBlock" (.stat (.ref 124)):=⟨_,pc.mg (by kernel_rfl),rfl⟩
theorem kp_LookupBlock {c:Cx} (pc:PC c):Kept c (.ref 124):=Kept.of (by rw [pc.K]; kernel_rfl)
theorem pl_LookupBlock {c:Cx} (pc:PC c):plainCls c.K 124=true:=by rw [pc.K]; kernel_rfl
theorem mk_LookupBlock {c:Cx} (pc:PC c):makesIn c.K 124=true:=by rw [pc.K]; kernel_rfl
theorem in_LookupBlock {c:Cx} (pc:PC c):findIn c.K (.ref 124) "__init__"=some (some (.ref 102))∧typeIn c.K (.ref 102)=some (.type "function"):=by rw [pc.K]; exact ⟨by kernel_rfl,by kernel_rfl⟩
theorem gv_RuleRow {c:Cx} (pc:PC c):GlobV c "RuleRow" (.stat (.ref 166)):=⟨_,pc.mg (by kernel_rfl),rfl⟩
theorem kp_RuleRow {c:Cx} (pc:PC c):Kept c (.ref 166):=Kept.of (by rw [pc.K]; kernel_rfl)
theorem pl_RuleRow {c:Cx} (pc:PC c):plainCls c.K 166=true:=by rw [pc.K]; kernel_rfl
theorem mk_RuleRow {c:Cx} (pc:PC c):makesIn c.K 166=true:=by rw [pc.K]; kernel_rfl
theorem in_RuleRow {c:Cx} (pc:PC c):findIn c.K (.ref 166) "__init__"=some (some (.ref 142))∧typeIn c.K (.ref 142)=some (.type "function"):=by rw [pc.K]; exact ⟨by kernel_rfl,by kernel_rfl⟩
theorem gv_FeatureRow {c:Cx} (pc:PC c):GlobV c "FeatureRow" (.stat (.ref 194)):=⟨_,pc.mg (by kernel_rfl),rfl⟩
theorem kp_FeatureRow {c:Cx} (pc:PC c):Kept c (.ref 194):=Kept.of (by rw [pc.K]; kernel_rfl)
theorem pl_FeatureRow {c:Cx} (pc:PC c):plainCls c.K 194=true:=by rw [pc.K]; kernel_rfl
theorem mk_FeatureRow {c:Cx} (pc:PC c):makesIn c.K 194=true:=by rw [pc.K]; kernel_rfl
theorem in_FeatureRow {c:Cx} (pc:PC c):findIn c.K (.ref 194) "__init__"=some (some (.ref 184))∧typeIn c.K (.ref 184)=some (.type "function"):=by rw [pc.K]; exact ⟨by kernel_rfl,by kernel_rfl⟩
theorem gv_RuleReader {c:Cx} (pc:PC c):GlobV c "RuleReader" (.stat (.ref 313)):=⟨_,pc.mg (by kernel_rfl),rfl⟩
theorem kp_RuleReader {c:Cx} (pc:PC c):Kept c (.ref 313):=Kept.of (by rw [pc.K]; kernel_rfl)
theorem pl_RuleReader {c:Cx} (pc:PC c):plainCls c.K 313=true:=by rw [pc.K]; kernel_rfl
theorem mk_RuleReader {c:Cx} (pc:PC c):makesIn c.K 313=true:=by rw [pc.K]; kernel_rfl
theorem in_RuleReader {c:Cx} (pc:PC c):findIn c.K (.ref 313) "__init__"=some (some (.ref 247))∧typeIn c.K (.ref 247)=some (.type "function"):=by rw [pc.K]; exact ⟨by kernel_rfl,by kernel_rfl⟩
theorem fa_RuleTree_lookups {c:Cx} (pc:PC c):freeName c.K 84 "lookups"=true:=by rw [pc.K]; kernel_rfl
theorem fa_RuleTree_features {c:Cx} (pc:PC c):freeName c.K 84 "features"=true:=by rw [pc.K]; kernel_rfl
theorem fa_LookupBlock_name {c:Cx} (pc:PC c):freeName c.K 124 "name"=true:=by rw [pc.K]; kernel_rfl
theorem fa_LookupBlock_flag {c:Cx} (pc:PC c):freeName c.K 124 "flag"=true:=by rw [pc.K]; kernel_rfl
theorem fa_LookupBlock_rows {c:Cx} (pc:PC c):freeName c.K 124 "rows"=true:=by rw [pc.K]; kernel_rfl
theorem fa_RuleRow_kind {c:Cx} (pc:PC c):freeName c.K 166 "kind"=true:=by rw [pc.K]; kernel_rfl
theorem fa_RuleRow_parts {c:Cx} (pc:PC c):freeName c.K 166 "parts"=true:=by rw [pc.K]; kernel_rfl
theorem fa_FeatureRow_tag {c:Cx} (pc:PC c):freeName c.K 194 "tag"=true:=by rw [pc.K]; kernel_rfl
theorem fa_FeatureRow_script {c:Cx} (pc:PC c):freeName c.K 194 "script"=true:=by rw [pc.K]; kernel_rfl
theorem fa_FeatureRow_language {c:Cx} (pc:PC c):freeName c.K 194 "language"=true:=by rw [pc.K]; kernel_rfl
theorem fa_FeatureRow_lookups {c:Cx} (pc:PC c):freeName c.K 194 "lookups"=true:=by rw [pc.K]; kernel_rfl
theorem fa_RuleReader_words {c:Cx} (pc:PC c):freeName c.K 313 "words"=true:=by rw [pc.K]; kernel_rfl
theorem fa_RuleReader_names {c:Cx} (pc:PC c):freeName c.K 313 "names"=true:=by rw [pc.K]; kernel_rfl
theorem fa_RuleReader_at {c:Cx} (pc:PC c):freeName c.K 313 "at"=true:=by rw [pc.K]; kernel_rfl
theorem me_RuleTree_told {c:Cx} (pc:PC c):methIn c.K 84 "told" 76=true:=by rw [pc.K]; kernel_rfl
theorem ke_RuleTree_told {c:Cx} (pc:PC c):keepIn c.K (.ref 76)=true:=by rw [pc.K]; kernel_rfl
theorem me_RuleTree_lookup_named {c:Cx} (pc:PC c):methIn c.K 84 "lookup_named" 81=true:=by rw [pc.K]; kernel_rfl
theorem ke_RuleTree_lookup_named {c:Cx} (pc:PC c):keepIn c.K (.ref 81)=true:=by rw [pc.K]; kernel_rfl
theorem me_LookupBlock_told {c:Cx} (pc:PC c):methIn c.K 124 "told" 107=true:=by rw [pc.K]; kernel_rfl
theorem ke_LookupBlock_told {c:Cx} (pc:PC c):keepIn c.K (.ref 107)=true:=by rw [pc.K]; kernel_rfl
theorem me_LookupBlock_kind {c:Cx} (pc:PC c):methIn c.K 124 "kind" 114=true:=by rw [pc.K]; kernel_rfl
theorem ke_LookupBlock_kind {c:Cx} (pc:PC c):keepIn c.K (.ref 114)=true:=by rw [pc.K]; kernel_rfl
theorem me_LookupBlock_is_position {c:Cx} (pc:PC c):methIn c.K 124 "is_position" 121=true:=by rw [pc.K]; kernel_rfl
theorem ke_LookupBlock_is_position {c:Cx} (pc:PC c):keepIn c.K (.ref 121)=true:=by rw [pc.K]; kernel_rfl
theorem me_RuleRow_told {c:Cx} (pc:PC c):methIn c.K 166 "told" 149=true:=by rw [pc.K]; kernel_rfl
theorem ke_RuleRow_told {c:Cx} (pc:PC c):keepIn c.K (.ref 149)=true:=by rw [pc.K]; kernel_rfl
theorem me_RuleRow_word {c:Cx} (pc:PC c):methIn c.K 166 "word" 156=true:=by rw [pc.K]; kernel_rfl
theorem ke_RuleRow_word {c:Cx} (pc:PC c):keepIn c.K (.ref 156)=true:=by rw [pc.K]; kernel_rfl
theorem me_RuleRow_left {c:Cx} (pc:PC c):methIn c.K 166 "left" 163=true:=by rw [pc.K]; kernel_rfl
theorem ke_RuleRow_left {c:Cx} (pc:PC c):keepIn c.K (.ref 163)=true:=by rw [pc.K]; kernel_rfl
theorem me_FeatureRow_told {c:Cx} (pc:PC c):methIn c.K 194 "told" 191=true:=by rw [pc.K]; kernel_rfl
theorem ke_FeatureRow_told {c:Cx} (pc:PC c):keepIn c.K (.ref 191)=true:=by rw [pc.K]; kernel_rfl
theorem me_RuleReader_word {c:Cx} (pc:PC c):methIn c.K 313 "word" 254=true:=by rw [pc.K]; kernel_rfl
theorem ke_RuleReader_word {c:Cx} (pc:PC c):keepIn c.K (.ref 254)=true:=by rw [pc.K]; kernel_rfl
theorem me_RuleReader_fault {c:Cx} (pc:PC c):methIn c.K 313 "fault" 261=true:=by rw [pc.K]; kernel_rfl
theorem ke_RuleReader_fault {c:Cx} (pc:PC c):keepIn c.K (.ref 261)=true:=by rw [pc.K]; kernel_rfl
theorem me_RuleReader_take {c:Cx} (pc:PC c):methIn c.K 313 "take" 268=true:=by rw [pc.K]; kernel_rfl
theorem ke_RuleReader_take {c:Cx} (pc:PC c):keepIn c.K (.ref 268)=true:=by rw [pc.K]; kernel_rfl
theorem me_RuleReader_skip {c:Cx} (pc:PC c):methIn c.K 313 "skip" 275=true:=by rw [pc.K]; kernel_rfl
theorem ke_RuleReader_skip {c:Cx} (pc:PC c):keepIn c.K (.ref 275)=true:=by rw [pc.K]; kernel_rfl
theorem me_RuleReader_need {c:Cx} (pc:PC c):methIn c.K 313 "need" 282=true:=by rw [pc.K]; kernel_rfl
theorem ke_RuleReader_need {c:Cx} (pc:PC c):keepIn c.K (.ref 282)=true:=by rw [pc.K]; kernel_rfl
theorem me_RuleReader_name {c:Cx} (pc:PC c):methIn c.K 313 "name" 289=true:=by rw [pc.K]; kernel_rfl
theorem ke_RuleReader_name {c:Cx} (pc:PC c):keepIn c.K (.ref 289)=true:=by rw [pc.K]; kernel_rfl
theorem me_RuleReader_glyph {c:Cx} (pc:PC c):methIn c.K 313 "glyph" 296=true:=by rw [pc.K]; kernel_rfl
theorem ke_RuleReader_glyph {c:Cx} (pc:PC c):keepIn c.K (.ref 296)=true:=by rw [pc.K]; kernel_rfl
theorem me_RuleReader_number {c:Cx} (pc:PC c):methIn c.K 313 "number" 303=true:=by rw [pc.K]; kernel_rfl
theorem ke_RuleReader_number {c:Cx} (pc:PC c):keepIn c.K (.ref 303)=true:=by rw [pc.K]; kernel_rfl
theorem me_RuleReader_tag {c:Cx} (pc:PC c):methIn c.K 313 "tag" 310=true:=by rw [pc.K]; kernel_rfl
theorem ke_RuleReader_tag {c:Cx} (pc:PC c):keepIn c.K (.ref 310)=true:=by rw [pc.K]; kernel_rfl
theorem gn_len {c:Cx} (pc:PC c):c.mg "len"=none:=pc.no (by kernel_rfl)
theorem gn_range {c:Cx} (pc:PC c):c.mg "range"=none:=pc.no (by kernel_rfl)
theorem gn_enumerate {c:Cx} (pc:PC c):c.mg "enumerate"=none:=pc.no (by kernel_rfl)
theorem gn_tuple {c:Cx} (pc:PC c):c.mg "tuple"=none:=pc.no (by kernel_rfl)
theorem gn_list {c:Cx} (pc:PC c):c.mg "list"=none:=pc.no (by kernel_rfl)
theorem gn_dict {c:Cx} (pc:PC c):c.mg "dict"=none:=pc.no (by kernel_rfl)
theorem gn_str {c:Cx} (pc:PC c):c.mg "str"=none:=pc.no (by kernel_rfl)
theorem gn_int {c:Cx} (pc:PC c):c.mg "int"=none:=pc.no (by kernel_rfl)
theorem gn_abs {c:Cx} (pc:PC c):c.mg "abs"=none:=pc.no (by kernel_rfl)
noncomputable abbrev c_LETTERS:List Nat:=tx "abcdefghijklmnopqrstuvwxyzABCDEFGHIJKLMNOPQRSTUVWXYZ_."
theorem gv_LETTERS {c:Cx} (pc:PC c):GlobV c "LETTERS" (.str c_LETTERS):=⟨.str (Str.ofString "abcdefghijklmnopqrstuvwxyzABCDEFGHIJKLMNOPQRSTUVWXYZ_.") 260,pc.mg (by kernel_rfl),⟨_,by rw [S_cps]⟩⟩
noncomputable abbrev c_FIGURES:List Nat:=tx "0123456789"
theorem gv_FIGURES {c:Cx} (pc:PC c):GlobV c "FIGURES" (.str c_FIGURES):=⟨.str (Str.ofString "0123456789") 262,pc.mg (by kernel_rfl),⟨_,by rw [S_cps]⟩⟩
noncomputable abbrev c_SIGNS:List Nat:=tx "{}[];'<>"
theorem gv_SIGNS {c:Cx} (pc:PC c):GlobV c "SIGNS" (.str c_SIGNS):=⟨.str (Str.ofString "{}[];'<>") 264,pc.mg (by kernel_rfl),⟨_,by rw [S_cps]⟩⟩
noncomputable abbrev c_BLANKS:List Nat:=tx " \t\x0d\n"
theorem gv_BLANKS {c:Cx} (pc:PC c):GlobV c "BLANKS" (.str c_BLANKS):=⟨.str (Str.ofString " \t\x0d\n") 266,pc.mg (by kernel_rfl),⟨_,by rw [S_cps]⟩⟩
noncomputable abbrev c_LINE_ENDS:List Nat:=tx "\x0d\n"
theorem gv_LINE_ENDS {c:Cx} (pc:PC c):GlobV c "LINE_ENDS" (.str c_LINE_ENDS):=⟨.str (Str.ofString "\x0d\n") 268,pc.mg (by kernel_rfl),⟨_,by rw [S_cps]⟩⟩
theorem gv_MOST_SIGNS {c:Cx} (pc:PC c):GlobV c "MOST_SIGNS" (.int 6):=⟨.int 6 270,pc.mg (by kernel_rfl),⟨_,rfl⟩⟩
theorem gv_MOST_FLAG {c:Cx} (pc:PC c):GlobV c "MOST_FLAG" (.int 65535):=⟨.int 65535 272,pc.mg (by kernel_rfl),⟨_,rfl⟩⟩
theorem gv_MOST_VALUE {c:Cx} (pc:PC c):GlobV c "MOST_VALUE" (.int 32767):=⟨.int 32767 274,pc.mg (by kernel_rfl),⟨_,rfl⟩⟩
theorem gv_law_glyphs {c:Cx} (pc:PC c):GlobV c "_law_glyphs" (.ref 471):=⟨_,pc.mg (by kernel_rfl),rfl⟩
noncomputable abbrev c_WORDS:List (List Nat):=[tx "lookup",tx "flag",tx "sub",tx "by",tx "from",tx "NULL",tx "pos",tx "feature",tx "script",tx "language"]
theorem gv_WORDS {c:Cx} (pc:PC c):GlobV c "WORDS" (.tup (strVs c_WORDS)):=⟨.ref 57,pc.mg (by kernel_rfl),57,[.str (Str.ofString "lookup") 249,.str (Str.ofString "flag") 250,.str (Str.ofString "sub") 251,.str (Str.ofString "by") 252,.str (Str.ofString "from") 253,.str (Str.ofString "NULL") 254,.str (Str.ofString "pos") 255,.str (Str.ofString "feature") 256,.str (Str.ofString "script") 257,.str (Str.ofString "language") 258],_,rfl,pc.X 57 _ rfl,VRs.cons ⟨_,by rw [S_cps]⟩ (VRs.cons ⟨_,by rw [S_cps]⟩ (VRs.cons ⟨_,by rw [S_cps]⟩ (VRs.cons ⟨_,by rw [S_cps]⟩ (VRs.cons ⟨_,by rw [S_cps]⟩ (VRs.cons ⟨_,by rw [S_cps]⟩ (VRs.cons ⟨_,by rw [S_cps]⟩ (VRs.cons ⟨_,by rw [S_cps]⟩ (VRs.cons ⟨_,by rw [S_cps]⟩ (VRs.cons ⟨_,by rw [S_cps]⟩ (rfl))))))))))⟩
noncomputable abbrev c_glyphs:List (List Nat):=[tx "a",tx "b",tx "c",tx "f_i",tx "x.alt",tx "N1",tx "_"]
theorem glyph_obj {c:Cx} (pc:PC c):∃ its n,c.h0.get? 471=some (listO its n)∧VRs c.h0 its (strVs c_glyphs):=⟨[.str (Str.ofString "a") 820,.str (Str.ofString "b") 821,.str (Str.ofString "c") 822,.str (Str.ofString "f_i") 823,.str (Str.ofString "x.alt") 824,.str (Str.ofString "N1") 825,.str (Str.ofString "_") 826],_,pc.X 471 _ rfl,VRs.cons ⟨_,by rw [S_cps]⟩ (VRs.cons ⟨_,by rw [S_cps]⟩ (VRs.cons ⟨_,by rw [S_cps]⟩ (VRs.cons ⟨_,by rw [S_cps]⟩ (VRs.cons ⟨_,by rw [S_cps]⟩ (VRs.cons ⟨_,by rw [S_cps]⟩ (VRs.cons ⟨_,by rw [S_cps]⟩ (rfl)))))))⟩
noncomputable def compOkB (sc scope:Scope):Bool:=(scope.names.all fun y=>y.2 != .cell)&&scope.kind==.function&&(scope.names.all fun y=>y.2 != .local||scope.names.lookup y.1==some .local)&&(scope.names.all fun y=>y.2 != .free||sc.names.lookup y.1==some .cell)
theorem compOk_of {sc scope:Scope} (h:compOkB sc scope=true):CompOk sc scope:=by
 simp only [compOkB,Bool.and_eq_true,List.all_eq_true,beq_iff_eq,bne_iff_ne,Bool.or_eq_true] at h
 refine im2 ?_ (h)
 refine im2 ?_
 refine im2 ?_
 intro h1 h2 h3 h4
 exact ⟨h1,h2,fun y hy e=>(h3 y hy).resolve_left (fun z=>z e),fun n hn=>(h4 (n,.free) hn).resolve_left (fun z=>z rfl)⟩
noncomputable def capOk (ρ:Loc):List (Str×NameKind)→Prop
 | []=>True
 | (n,kd)::r=>(kd=.free→∃ v,ρ n=some v)∧capOk ρ r
theorem capOk.nil {ρ:Loc}:capOk ρ []:=trivial
theorem capOk.no {ρ:Loc} {n:Str} {kd:NameKind} {r:List (Str×NameKind)} (e:(kd==.free)=false) (h:capOk ρ r):capOk ρ ((n,kd)::r):=⟨fun z=>absurd e (by subst z; decide),h⟩
theorem capOk.yes {ρ:Loc} {n:Str} {kd:NameKind} {r:List (Str×NameKind)} {v:V} (e:ρ n=some v) (h:capOk ρ r):capOk ρ ((n,kd)::r):=⟨fun _=>⟨v,e⟩,h⟩
theorem capOk_of {ρ:Loc}:∀ {l:List (Str×NameKind)},capOk ρ l→∀ n,(n,NameKind.free)∈l→ρ n≠none
 | (m,kd)::r,h,n,hn=>by
  rcases List.mem_cons.mp hn with z | z
  ·cases z; obtain ⟨v,e⟩:=h.1 rfl; rw [e]; intro q; cases q
  ·exact capOk_of h.2 n z
section
variable {c:Cx} {k:Nat} {sc:Scope} {ρ:Loc} {σ:St} {Q:V→St→Prop}
theorem EV.compE {elt target iter:Expr} {ifs:List Expr} {scope:Scope} {pos:Pos} (co:compOkB sc scope=true) (hs:∀ env x,foldedSetIterable iter env x=pure x) (hc:capOk ρ scope.names)
  (h:IT c k iter target sc ρ σ (CompQ c k elt target ifs scope sc ρ Q)):EV c k (.ListComp elt [⟨target,iter,ifs,0⟩] scope pos) sc ρ σ Q:=EV.comp (compOk_of co) hs (capOk_of hc) h
theorem SV.assignCompE {x:Str} {elt target iter:Expr} {ifs:List Expr} {scope:Scope} {pos p p':Pos} {N:Loc→St→Prop} {R:V→St→Prop} (co:compOkB sc scope=true) (hs:∀ env x,foldedSetIterable iter env x=pure x) (hc:capOk ρ scope.names)
  (hk:(sc.names.lookup x==some .local)=true) (hl:(p'.line==pos.line)=true) (hn:(scope.names.any fun (n,k)=>n==x&&(k==.local||k==.cell))=false)
  (h:IT c k iter target sc ρ σ (CompQ c k elt target ifs scope sc ρ fun v τ=>N (setL ρ x v) τ)):SV c k (.Assign [.Name x p'] (.ListComp elt [⟨target,iter,ifs,0⟩] scope pos) p) sc ρ σ N R :=
 SV.assignComp (compOk_of co) hs (capOk_of hc) (by simpa using hk) hl hn h
theorem CondV.nil {Q:Bool→St→Prop} (h:Q true σ):CondV c k sc ρ σ Q []:=h
theorem CondV.one {t:Expr} {Q:Bool→St→Prop} (h:TV c k t sc ρ σ Q):CondV c k sc ρ σ Q [t]:=h
end
noncomputable def To (n:Loc→St→Prop) (c:Cx) (k:Nat) (b:List Stmt) (sc:Scope) (N:Loc→St→Prop) (R:V→St→Prop):Prop:=∀ ρ σ,XV c k b sc ρ σ N R→n ρ σ
noncomputable def ToB (q:Bool→St→Prop) (c:Cx) (k:Nat) (a b:List Stmt) (sc:Scope) (ρ:Loc) (N:Loc→St→Prop) (R:V→St→Prop):Prop:=∀ z σ,(if z=true then XV c k a sc ρ σ N R else XV c k b sc ρ σ N R)→q z σ
noncomputable def ToT (q:V→St→Prop) (c:Cx) (k:Nat) (t:Expr) (sc:Scope) (ρ:Loc) (N:Loc→St→Prop):Prop:=∀ v σ,TgV c k t sc ρ σ v N→q v σ
section
variable {c:Cx} {k:Nat} {sc:Scope} {ρ:Loc} {σ:St} {N:Loc→St→Prop} {R:V→St→Prop}
theorem To.go {n:Loc→St→Prop} {b:List Stmt} (h:To n c k b sc N R) (x:XV c k b sc ρ σ N R):n ρ σ:=h _ _ x
theorem ToB.go {q:Bool→St→Prop} {z:Bool} {a b:List Stmt} (h:ToB q c k a b sc ρ N R) (x:if z=true then XV c k a sc ρ σ N R else XV c k b sc ρ σ N R):q z σ:=h _ _ x
theorem ToT.go {q:V→St→Prop} {v:V} {t:Expr} (h:ToT q c k t sc ρ N) (x:TgV c k t sc ρ σ v N):q v σ:=h _ _ x
theorem XV.consQ {st:Stmt} {b:List Stmt} (h:∀ n,To n c k b sc N R→SV c k st sc ρ σ n R):XV c k (st::b) sc ρ σ N R:=XV.cons (h _ fun _ _ x=>x)
theorem SV.ifsQ {t:Expr} {a b:List Stmt} {p:Pos} (h:∀ q,ToB q c k a b sc ρ N R→TV c k t sc ρ σ q):SV c k (.If t a b p) sc ρ σ N R:=SV.ifs (h _ fun _ _ x=>x)
theorem SV.assignQ {t e:Expr} {p:Pos} (hs:∀ env,swapsWith e (some t) p.line env=pure false) (hw:∀ env,swappedStores [t] e env=pure none) (ht:plainE t=true) (h:∀ q,ToT q c k t sc ρ N→EV c k e sc ρ σ q):SV c k (.Assign [t] e p) sc ρ σ N R:=SV.assign hs hw ht (h _ fun _ _ x=>x)
end
structure CB (c:Cx) (x:Str) (u:Value):Prop where
 g:c.mg x=none
 b:bootBuiltins x=some u
 n:(x==("__name__":Str))=false
 k:Kept c u
theorem EV.callX {c:Cx} {k:Nat} {sc:Scope} {ρ:Loc} {σ:St} {x:Str} {p p':Pos} {u:Value} {l:List Expr} {Q:V→St→Prop} (hk:(sc.names.lookup x==some .globalImplicit)=true) (hd:(x==("__debug__":Str))=false) (h:CB c x u) (hp:l.all plainE=true)
  (q:EVs c k sc ρ l σ fun vs σ'=>CallW c k u vs σ' Q):EV c k (.Call (.Name x p) l [] p') sc ρ σ Q:=EV.callB hk hd h.g h.b h.n h.k hp q
theorem cb_len {c:Cx} (pc:PC c):CB c "len" (.builtin "len"):=⟨gn_len pc,rfl,by kernel_rfl,Kept.builtin⟩
theorem cb_abs {c:Cx} (pc:PC c):CB c "abs" (.builtin "abs"):=⟨gn_abs pc,rfl,by kernel_rfl,Kept.builtin⟩
theorem cb_range {c:Cx} (pc:PC c):CB c "range" (.type "range"):=⟨gn_range pc,rfl,by kernel_rfl,Kept.type⟩
theorem cb_enumerate {c:Cx} (pc:PC c):CB c "enumerate" (.type "enumerate"):=⟨gn_enumerate pc,rfl,by kernel_rfl,Kept.type⟩
theorem cb_tuple {c:Cx} (pc:PC c):CB c "tuple" (.type "tuple"):=⟨gn_tuple pc,rfl,by kernel_rfl,Kept.type⟩
theorem cb_list {c:Cx} (pc:PC c):CB c "list" (.type "list"):=⟨gn_list pc,rfl,by kernel_rfl,Kept.type⟩
theorem cb_dict {c:Cx} (pc:PC c):CB c "dict" (.type "dict"):=⟨gn_dict pc,rfl,by kernel_rfl,Kept.type⟩
theorem cb_str {c:Cx} (pc:PC c):CB c "str" (.type "str"):=⟨gn_str pc,rfl,by kernel_rfl,Kept.type⟩
theorem cb_int {c:Cx} (pc:PC c):CB c "int" (.type "int"):=⟨gn_int pc,rfl,by kernel_rfl,Kept.type⟩
noncomputable def runEnd (t:List Nat) (a:Nat) (s:List Nat):Nat:=a+((t.drop a).takeWhile (·∈s)).length
theorem runEnd_step {t s:List Nat} {a:Nat} {x:Nat} (h:t[a]?=some x) (hx:x∈s):runEnd t a s=runEnd t (a+1) s:=by
 unfold runEnd
 have hlt:=(List.getElem?_eq_some_iff.mp h).1
 have:t.drop a=x::t.drop (a+1):=by
  rw [List.drop_eq_getElem_cons hlt]
  congr 1
  exact (List.getElem?_eq_some_iff.mp h).2
 rw [this,List.takeWhile_cons,if_pos (by simpa using hx),List.length_cons]; exact ar0
theorem runEnd_stop {t s:List Nat} {a:Nat} (h:∀ x,t[a]?=some x→x ∉ s):runEnd t a s=a:=by
 unfold runEnd
 cases q:t[a]? with
 | none=>rw [List.drop_eq_nil_of_le (by simpa using q)]; rfl
 | some x =>
  have hlt:=(List.getElem?_eq_some_iff.mp q).1
  have:t.drop a=x::t.drop (a+1):=by
   rw [List.drop_eq_getElem_cons hlt]
   congr 1
   exact (List.getElem?_eq_some_iff.mp q).2
  rw [this,List.takeWhile_cons,if_neg (by simpa using h x q)]; rfl
theorem at_get {t:List Nat} {e:Nat} (h:(e:Int) < t.length):∃ x,t[e]?=some x:=⟨t[e]'(by exact ar1 h),List.getElem?_eq_getElem _⟩
theorem seqIndex_nat {e n:Nat} (h:e < n):seqIndex? (e:Int) n=some e:=by
 unfold seqIndex?
 rw [if_neg (show ¬ ((e:Int) < 0) by exact ar2)]
 dsimp only
 rw [if_pos (by simp; exact ar3 h)]; simp
section
variable {c:Cx} {k:Nat} {σ:St} {Q:V→St→Prop}
theorem TailW.strN {v i:Expr} {l:List Nat} {j x:Nat} (hs:NoSlice i) (hz:l.length < 2 ^ 60) (hx:l[j]?=some x) (q:Q (.str [x]) σ):TailW c k v i (.str l) (.int j) σ Q:=by
 have hlt:=(List.getElem?_eq_some_iff.mp hx).1
 exact TailW.str hs (by exact ar4) (by exact ar5 hz hlt) (seqIndex_nat hlt) hx q
theorem w_run_end (pc:PC c) {t s:List Nat} {a:Nat} (ht:t.length < 2 ^ 60) (q:Q (.int (runEnd t a s)) σ):CallC c (k+1) (.ref 205) [.str t,.int a,.str s] σ Q:=by
 revert pc ht q
 revert c; revert k; revert σ; revert s; revert Q; revert t a
 walk_at "close 7"
 intro t a Q s σ k c pc ht q
 walk_at "def 3"
 walk_at "g"
 refine SV.while (fun n ρ' σ'=>∃ e:Nat,n=t.length - e∧ρ' "text"=some (.str t)∧ρ' "signs"=some (.str s)∧ρ' "end"=some (.int e)∧σ'=σ∧runEnd t a s=runEnd t e s) _ ⟨a,rfl,?_,?_,?_,rfl,rfl⟩ ?_
 ·walk_at "loc"
 ·walk_at "loc"
 ·walk_at "loc"
 intro n ρ' σ'
 refine xi1 ?_
 intro e
 refine im6 ?_
 intro hq1
 obtain rfl:=hq1
 intro h1 h2 h3 hq2
 obtain rfl:=hq2
 intro he
 walk_at "g"
 refine CallW.lenStr (by exact ar6 ht) ?_
 walk_at "g"
 refine ite_dec (fun hlt=>?_) (fun hlt=>?_)
 ·walk_at "g"
  refine xi1 ?_ (at_get hlt)
  intro x hx
  refine TailW.strN (fun _ _=>rfl) ht hx ?_
  walk_at "g"
  rw [strIn_one]
  refine ite_dec (fun hin=>?_) (fun hin=>?_)
  ·walk_at "g"
   refine xc1_2 _ ?_ (xc1_6 (e+1) rfl ?_ ?_ ?_ rfl ?_)
   ·exact ar7 hlt
   ·walk_at "loc"
   ·walk_at "loc"
   ·show _=some (V.int ((e:Int)+1)); walk_at "loc"
   ·rw [he,runEnd_step hx hin]
  ·walk_at "g"
   rw [he,runEnd_stop (fun y hy=>by rw [hx] at hy; cases hy; exact hin)] at q
   exact q
 ·walk_at "g"
  rw [he,runEnd_stop (fun y hy=>by have:=(List.getElem?_eq_some_iff.mp hy).1; exact (ar8 hlt this).elim)] at q
  exact q
end
noncomputable def sk:Bool→List Nat→Nat
 | _,[]=>0
 | true,x::r=>if x∈c_LINE_ENDS then 1+sk false r else 1+sk true r
 | false,x::r=>if x∈c_BLANKS then 1+sk false r else if x=35 then 1+sk true r else 0
theorem sk_blank {x:Nat} {r:List Nat} (h:x∈c_BLANKS):sk false (x::r)=1+sk false r:=if_pos h
theorem sk_hash {x:Nat} {r:List Nat} (h:¬ x∈c_BLANKS) (h2:x=35):sk false (x::r)=1+sk true r:=(if_neg h).trans (if_pos h2)
theorem sk_stop {x:Nat} {r:List Nat} (h:¬ x∈c_BLANKS) (h2:¬ x=35):sk false (x::r)=0:=(if_neg h).trans (if_neg h2)
theorem sk_end {x:Nat} {r:List Nat} (h:x∈c_LINE_ENDS):sk true (x::r)=1+sk false r:=if_pos h
theorem sk_in {x:Nat} {r:List Nat} (h:¬ x∈c_LINE_ENDS):sk true (x::r)=1+sk true r:=if_neg h
noncomputable def skipTo (t:List Nat) (a:Nat):Nat:=a+sk false (t.drop a)
theorem drop_get {t:List Nat} {a x:Nat} (h:t[a]?=some x):t.drop a=x::t.drop (a+1):=by
 have hlt:=(List.getElem?_eq_some_iff.mp h).1
 rw [List.drop_eq_getElem_cons hlt]
 congr 1
 exact (List.getElem?_eq_some_iff.mp h).2
theorem sk_le (b:Bool) (l:List Nat):sk b l≤l.length:=by
 induction l generalizing b with
 | nil=>cases b <;> exact Nat.le_refl _
 | cons x r ih =>
  have h1:∀ d,1+sk d r≤(x::r).length:=fun d=>Nat.le_trans (Nat.le_of_eq (Nat.add_comm 1 _)) (Nat.succ_le_succ (ih d))
  cases b with
  | true=>exact if h:x∈c_LINE_ENDS then by rw [sk_end h]; exact h1 _ else by rw [sk_in h]; exact h1 _
  | false=>exact if h:x∈c_BLANKS then by rw [sk_blank h]; exact h1 _ else if h2:x=35 then by rw [sk_hash h h2]; exact h1 _ else by rw [sk_stop h h2]; exact Nat.zero_le _
theorem le_blank {x:Nat} (h:x∈c_LINE_ENDS):x∈c_BLANKS:=by
 have:∀ y∈c_LINE_ENDS,y∈c_BLANKS:=by decide +kernel
 exact this x h
theorem hash_not_le:(35:Nat) ∉ c_LINE_ENDS:=by decide +kernel
theorem cs_hash:(Str.ofString "#").cps.toList=[35]:=by decide +kernel
section
variable {c:Cx} {k:Nat} {σ:St} {Q:V→St→Prop}
theorem w_skipped (pc:PC c) {t:List Nat} {a:Nat} (ht:t.length < 2 ^ 60) (q:Q (.int (skipTo t a)) σ):CallC c (k+1) (.ref 212) [.str t,.int a] σ Q:=by
 revert pc ht q
 revert c; revert k; revert σ; revert Q; revert t a
 walk_at "close 6"
 intro t a Q σ k c pc ht q
 walk_at "def 2"
 walk_at "g"
 refine SV.while (fun n ρ' σ'=>∃ e:Nat,n=t.length - e∧ρ' "text"=some (.str t)∧ρ' "here"=some (.int e)∧σ'=σ∧skipTo t a=skipTo t e) _ ⟨a,rfl,?_,?_,rfl,rfl⟩ ?_
 ·walk_at "loc"
 ·walk_at "loc"
 intro n ρ' σ'
 refine xi1 ?_
 intro e
 refine im5 ?_
 intro hq3
 obtain rfl:=hq3
 intro h1 h2 hq4
 obtain rfl:=hq4
 intro he
 walk_at "g"
 refine CallW.lenStr (by exact ar6 ht) ?_
 walk_at "g"
 refine ite_dec (fun hlt=>?_) (fun hlt=>?_)
 ·walk_at "g"
  refine xi1 ?_ (at_get hlt)
  intro x hx
  refine TailW.strN (fun _ _=>rfl) ht hx ?_
  walk_at "g"
  rw [strIn_one]
  have dg:=drop_get hx
  have hstep:x∈c_BLANKS→skipTo t e=skipTo t (e+1):=fun hb=>by
   unfold skipTo; rw [dg,sk_blank hb]; exact ar9
  refine ite_dec (fun hb=>?_) (fun hb=>?_)
  ·walk_at "g"
   refine TailW.strN (fun _ _=>rfl) ht hx ?_
   walk_at "g"
   rw [cs_hash]
   have hne:x≠35:=by rintro rfl; revert hb; decide +kernel
   rw [show ([x]==[35])=false by simp [hne]]
   walk_at "g"
   refine xc1_2 _ ?_ (xc1_5 (e+1) rfl ?_ ?_ rfl (by rw [he,hstep hb]))
   ·exact ar7 hlt
   ·walk_at "loc"
   ·show _=some (V.int ((e:Int)+1)); walk_at "loc"
  ·walk_at "g"
   refine TailW.strN (fun _ _=>rfl) ht hx ?_
   walk_at "g"
   rw [cs_hash]
   by_cases h35:x=35
   ·subst h35
    rw [show (([35]:List Nat)==[35])=true by decide]
    walk_at "g"
    refine TailW.strN (fun _ _=>rfl) ht hx ?_
    walk_at "g"
    rw [cs_hash,show (([35]:List Nat)==[35])=true by decide]
    walk_at "g"
    have he2:skipTo t a=(e+1)+sk true (t.drop (e+1)):=by
     rw [he]
     unfold skipTo
     rw [dg,sk_hash hb rfl]
     exact ar9
    refine SV.while (fun n ρ₂ σ₂=>∃ f:Nat,n=t.length - f∧ρ₂ "text"=some (.str t)∧ρ₂ "here"=some (.int f)∧σ₂=σ'∧((f=e)∨(e < f∧skipTo t a=f+sk true (t.drop f)))) _ ⟨e,rfl,?_,?_,rfl,.inl rfl⟩ ?_
    ·walk_at "loc"
    ·walk_at "loc"
    intro n₂ ρ₂ σ₂
    refine xi1 ?_
    intro f
    refine im5 ?_
    intro hq5
    obtain rfl:=hq5
    intro g1 g2 hq6
    obtain rfl:=hq6
    intro hf
    walk_at "g"
    refine CallW.lenStr (by exact ar6 ht) ?_
    walk_at "g"
    refine ite_dec (fun hlt2=>?_) (fun hlt2=>?_)
    ·walk_at "g"
     refine xi1 ?_ (at_get hlt2)
     intro y hy
     refine TailW.strN (fun _ _=>rfl) ht hy ?_
     walk_at "g"
     rw [strIn_one]
     by_cases hle:y∈c_LINE_ENDS
     ·rw [show (!decide (y∈c_LINE_ENDS))=false by simp [hle]]
      walk_at "g"
      have hfe:e < f∧skipTo t a=f+sk true (t.drop f):=by
       rcases hf with rfl | hf
       ·rw [hx] at hy
        cases hy
        exact absurd hle hash_not_le
       ·exact hf
      refine xc1_2 _ ?_ (xc1_5 f rfl g1 g2 rfl ?_)
      ·exact ar10 hlt2 hfe
      ·rw [hfe.2]
       unfold skipTo
       rw [drop_get hy,sk_end hle,sk_blank (le_blank hle)]
     ·rw [show (!decide (y∈c_LINE_ENDS))=true by simp [hle]]
      walk_at "g"
      refine xc1_2 _ ?_ (xc1_5 (f+1) rfl ?_ ?_ rfl (.inr ⟨?_,?_⟩))
      ·exact ar7 hlt2
      ·walk_at "loc"
      ·show _=some (V.int ((f:Int)+1)); walk_at "loc"
      ·rcases hf with rfl | hf <;> walk_at "o"
      ·rcases hf with rfl | hf
       ·exact he2
       ·rw [hf.2,drop_get hy]
        rw [sk_in hle]
        exact ar9
    ·walk_at "g"
     have hfe:e < f∧skipTo t a=f+sk true (t.drop f):=by
      rcases hf with rfl | hf
      ·exact absurd hlt hlt2
      ·exact hf
     refine xc1_2 _ ?_ (xc1_5 f rfl g1 g2 rfl ?_)
     ·exact ar11 hlt hfe
     ·rw [hfe.2]; unfold skipTo; rw [List.drop_eq_nil_of_le (by exact ar12 hlt2)]; rfl
   ·rw [show ([x]==[35])=false by simp [h35]]
    walk_at "g"
    rw [he] at q
    have:skipTo t e=e:=by unfold skipTo; rw [dg,sk_stop hb h35]; rfl
    rw [this] at q
    exact q
 ·walk_at "g"
  rw [he] at q
  have:skipTo t e=e:=by unfold skipTo; rw [List.drop_eq_nil_of_le (by exact ar12 hlt)]; rfl
  rw [this] at q
  exact q
end
noncomputable def wordEnd (t:List Nat) (a x:Nat):Option Nat :=
 if x∈c_LETTERS then some (runEnd t a (c_LETTERS++c_FIGURES))
 else if x∈c_FIGURES then some (runEnd t a c_FIGURES)
 else if x=45∧a+1 < runEnd t (a+1) c_FIGURES then some (runEnd t (a+1) c_FIGURES)
 else if x∈c_SIGNS then some (a+1) else none
theorem cs_minus:(Str.ofString "-").cps.toList=[45]:=by decide +kernel
theorem cs_empty:(Str.ofString "").cps.toList=[]:=by decide +kernel
inductive TokAt (t:List Nat):Nat→List (List Nat×Nat)→Prop where
 | fin {a}:t.length≤a→TokAt t a [([],t.length)]
 | word {a x e r}:t[a]?=some x→wordEnd t a x=some e→a < e→e≤t.length→TokAt t (skipTo t e) r→TokAt t a (((t.drop a).take (e - a),a)::r)
noncomputable def tokV (p:List Nat×Nat):V:=.tup [.str p.1,.int p.2]
section
variable {c:Cx} {k:Nat} {σ:St} {Q:V→St→Prop}
theorem w_word_end (pc:PC c) {t:List Nat} {a x e:Nat} (ht:t.length < 2 ^ 60) (hx:t[a]?=some x) (hw:wordEnd t a x=some e) (q:Q (.int e) σ):CallC c (k+2) (.ref 219) [.str t,.int a] σ Q:=by
 revert pc ht hx hw q
 revert c; revert k; revert σ; revert Q; revert t a x e
 walk_at "close 8"
 intro t a x e Q σ k c pc ht hx hw q
 have hlt:=(List.getElem?_eq_some_iff.mp hx).1
 have ha:((a:Int)+1)=((a+1:Nat):Int):=rfl
 unfold wordEnd at hw
 walk_at "def 2"
 walk_at "g"
 refine TailW.strN (fun _ _=>rfl) ht hx ?_
 walk_at "g"
 rw [strIn_one]
 refine ite_dec (fun h1=>?_) (fun h1=>?_)
 ·rw [if_pos h1] at hw
  cases hw
  walk_at "g"
  refine Op2.addStr (by decide +kernel) ?_
  walk_at "g"
  exact (w_run_end pc ht q).toW
 rw [if_neg h1] at hw
 walk_at "g"
 rw [strIn_one]
 refine ite_dec (fun h2=>?_) (fun h2=>?_)
 ·rw [if_pos h2] at hw
  cases hw
  walk_at "g"
  exact (w_run_end pc ht q).toW
 rw [if_neg h2] at hw
 walk_at "g"
 rw [cs_minus]
 by_cases h3:x=45
 ·rw [show ([x]==[45])=true by simp [h3]]
  walk_at "g"
  rw [ha]
  refine (w_run_end pc ht ?_).toW
  walk_at "g"
  refine ite_dec (fun h4=>?_) (fun h4=>?_)
  ·rw [if_pos ⟨h3,by exact ar13 h4⟩] at hw; cases hw
   walk_at "g"
   rw [ha]
   exact (w_run_end pc ht q).toW
  ·rw [if_neg (fun h=>h4 (by exact ar14 h))] at hw
   have:x ∉ c_SIGNS:=by rw [h3]; decide +kernel
   rw [if_neg this] at hw
   cases hw
 ·rw [show ([x]==[45])=false by simp [h3]]
  walk_at "g"
  rw [if_neg (fun h=>h3 h.1)] at hw
  rw [strIn_one]
  refine ite_dec (fun h4=>?_) (fun h4=>?_)
  ·rw [if_pos h4] at hw
   cases hw
   walk_at "g"
   exact q
  ·rw [if_neg h4] at hw
   cases hw
theorem upd_upd {τ:St} {a:Addr} {o o':MObj}:upM (upM τ a o) a o'=upM τ a o':=by
 funext x; unfold upM; split <;> rfl
theorem w_words_of_text (pc:PC c) {t:List Nat} {l:List (List Nat×Nat)} (ht:t.length < 2 ^ 24) (h:TokAt t (skipTo t 0) l) (hl:l.length < 2 ^ 24) (q:∀ m,σ m=none→Q (.ref m) (upM σ m (.list (l.map tokV)))):CallC c (k+3) (.ref 226) [.str t] σ Q:=by
 revert pc ht h hl q
 revert c; revert k; revert σ; revert Q; revert t l
 walk_at "close 6"
 intro t l Q σ k c pc ht h hl q
 have ht':t.length < 2 ^ 60:=by exact ar15 ht
 have hS:sizeLine=2 ^ 24:=by decide +kernel
 walk_at "def 1"
 walk_at "g"
 intro m hm
 walk_at "g"
 refine (w_skipped (a:=0) pc ht' ?_).toW
 walk_at "g"
 refine SV.while (fun n ρ' σ'=>∃ (done rest:List (List Nat×Nat)) (a:Nat),n=rest.length∧l=done++rest∧TokAt t a rest∧ρ' "text"=some (.str t)∧ρ' "found"=some (.ref m)∧ρ' "at"=some (.int a)∧σ'=upM σ m (.list (done.map tokV))) l.length ⟨[],l,skipTo t 0,rfl,rfl,h,?_,?_,?_,rfl⟩ ?_
 ·walk_at "loc"
 ·walk_at "loc"
 ·walk_at "loc"
 intro n ρ' σ'
 refine xi3 ?_
 intro done rest a
 refine im7 ?_
 intro hq7
 obtain rfl:=hq7
 intro e tk h1 h2 h3 hq8
 obtain rfl:=hq8
 walk_at "g"
 refine CallW.lenStr (by exact ar6 ht') ?_
 walk_at "g"
 cases tk with
 | fin hge =>
  refine ite_dec (fun hlt=>by exact (ar16 hge hlt).elim) (fun _=>?_)
  walk_at "g"
  refine xc1_2 _ (MethR.append (.inl (upd_self _ _ _))) ?_
  walk_at "g"
  refine CallW.lenStr (by exact ar6 ht') ?_
  walk_at "g"
  refine CallW.append (upd_self _ _ _) (by rw [e] at hl; simp at hl ⊢; exact ar17 hS hl) ?_
  refine ⟨rfl,?_⟩
  walk_at "g"
  rw [upd_upd,cs_empty]
  have:=q m hm
  rw [e] at this
  simpa [tokV] using this
 | word hx hw hlt hle tk =>
  rename_i x e' r
  have hal:=(List.getElem?_eq_some_iff.mp hx).1
  refine ite_dec (fun _=>?_) (fun hn=>by exact (ar18 hal hn).elim)
  walk_at "g"
  refine (w_word_end pc ht' hx hw ?_).toW
  walk_at "g"
  refine xc1_2 _ (MethR.append (.inl (upd_self _ _ _))) ?_
  walk_at "g"
  refine CutW.str (by exact ar19 ht hS) (by exact ar20) (by exact ar21 hlt) (by exact ar22 hle) ?_
  walk_at "g"
  refine CallW.append (upd_self _ _ _) (by rw [e] at hl; simp at hl ⊢; exact ar23 hS hl) ?_
  refine ⟨rfl,?_⟩
  walk_at "g"
  refine (w_skipped pc ht' ?_).toW
  walk_at "g"
  refine xc1_2 _ ?_ (xc3_1 (done++[((t.drop a).take (e' - a),a)]) r (skipTo t e') (xc0_7 rfl (by rw [e]; simp) tk ?_ ?_ ?_ ?_))
  ·simp
  ·walk_at "loc"
  ·walk_at "loc"
  ·walk_at "loc"
  ·rw [upd_upd]
   congr 2
   rw [List.map_append]
   have e1:((a:Int)).toNat=a:=by simp
   have e2:((e':Int) - (a:Int)).toNat=e' - a:=by exact ar24
   simp [tokV,e1,e2]
end
theorem vin_str (w:List Nat) (ls:List (List Nat)):vin (.str w) (strVs ls)=decide (w∈ls):=by
 unfold vin
 induction ls with
 | nil=>rfl
 | cons x r ih =>
  have e1:(V.pys (strVs (x::r))).any (fun y=>PyData.eqv y (V.py (.str w)))=(PyData.eqv (.str (S x)) (.str (S w))||(V.pys (strVs r)).any fun y=>PyData.eqv y (V.py (.str w))):=rfl
  rw [e1,ih]
  have e2:PyData.eqv (.str (S x)) (.str (S w))=(x==w):=by
   show (S x==S w)=_
   exact S_beq x w
  rw [e2]
  by_cases h:x=w
  ·subst h
   simp
  ·simp [h,Ne.symm h]
noncomputable def chOk (w:List Nat):Bool:=w.all (· < 0x110000)
theorem ok_str {w:List Nat} (h:chOk w=true):(V.str w).ok=true:=h
theorem oks_strs {ls:List (List Nat)} (h:ls.all chOk=true):V.oks (strVs ls)=true:=by
 induction ls with
 | nil=>rfl
 | cons x r ih =>
  rw [List.all_cons,Bool.and_eq_true] at h
  show ((V.str x).ok&&V.oks (strVs r))=true
  rw [ih h.2,ok_str h.1]
  rfl
noncomputable def isName (w:List Nat):Bool:=match w with
 | []=>false
 | x::_=>decide (x∈c_LETTERS)&&!decide (w∈c_WORDS)
theorem isName_cons {x:Nat} {r:List Nat}:isName (x::r)=(decide (x∈c_LETTERS)&&!decide (x::r∈c_WORDS)):=rfl
theorem depth_str (w:List Nat):(V.str w).py.depth≤64:=by
 show PyData.depth (.str (S w))≤64
 simp [PyData.depth]
section
variable {c:Cx} {k:Nat} {σ:St} {Q:V→St→Prop}
theorem TailW.str0 {v i:Expr} {l:List Nat} {x:Nat} (hs:NoSlice i) (hz:l.length < 2 ^ 60) (hx:l[0]?=some x) (q:Q (.str [x]) σ):TailW c k v i (.str l) (.int 0) σ Q:=TailW.strN (j:=0) hs hz hx q
theorem w_is_name (pc:PC c) {w:List Nat} (hw:chOk w=true) (hl:w.length < 2 ^ 60) (q:Q (.bool (isName w)) σ):CallC c (k+1) (.ref 233) [.str w] σ Q:=by
 walk_at "def 1"
 walk_at "g"
 rw [cs_empty]
 cases w with
 | nil=>walk_at "g"; exact q
 | cons x r =>
  rw [show ((x::r) != [])=true from rfl]
  walk_at "g"
  refine TailW.str0 (fun _ _=>rfl) hl rfl ?_
  walk_at "g"
  rw [strIn_one]
  refine ite_dec (fun h=>?_) (fun h=>?_)
  ·walk_at "g"
   refine Op2.notInTup (ok_str hw) (oks_strs (by decide +kernel)) (depth_str _) ?_
   rw [vin_str]
   rw [isName_cons] at q
   rw [show decide (x∈c_LETTERS)=true by simpa using h,Bool.true_and] at q
   exact q
  ·walk_at "g"
   rw [isName_cons] at q
   rw [show decide (x∈c_LETTERS)=false by simpa using h,Bool.false_and] at q
   exact q
noncomputable def Ext (σ σ':St):Prop:=∀ a o,σ a=some o→σ' a=some o
theorem Ext.refl (σ:St):Ext σ σ:=fun _ _ e=>e
theorem Ext.trans {σ₁ σ₂ σ₃:St} (x:Ext σ₁ σ₂) (y:Ext σ₂ σ₃):Ext σ₁ σ₃:=fun a o e=>y a o (x a o e)
theorem Ext.fresh {σ:St} {m:Addr} {o:MObj} (h:σ m=none):Ext σ (upM σ m o):=fun a o' e=>by
 unfold upM; split
 ·rename_i z; rw [z,h] at e; cases e
 ·exact e
theorem Ext.upd {σ σ':St} (x:Ext σ σ') (a:Addr) (o:MObj):Ext (upM σ a o) (upM σ' a o):=fun b o' e=>by
 unfold upM at e ⊢
 split
 ·rename_i z; rw [if_pos z] at e; exact e
 ·rename_i z; rw [if_neg z] at e; exact x b o' e
theorem Ext.over {σ₀ σ σ':St} {a:Addr} {x y:MObj} (h:Ext (upM σ₀ a x) σ) (h':Ext (upM σ a y) σ'):Ext (upM σ₀ a y) σ':=fun b o e=>by
 by_cases z:b=a
 ·subst z
  rw [upd_self] at e
  cases e
  exact h' _ _ (upd_self _ _ _)
 ·rw [upd_ne _ _ z] at e
  exact h' b o (by rw [upd_ne _ _ z]; exact h b o (by rw [upd_ne _ _ z]; exact e))
theorem Ext.at {σ₀ σ:St} {a:Addr} {x:MObj} (h:Ext (upM σ₀ a x) σ):σ a=some x:=h _ _ (upd_self _ _ _)
theorem Ext.off {σ₀ σ:St} {a b:Addr} {x o:MObj} (h:Ext (upM σ₀ a x) σ) (n:b≠a) (e:σ₀ b=some o):σ b=some o:=h _ _ (by rw [upd_ne _ _ n]; exact e)
noncomputable abbrev rdD (wl:Addr) (nm:V) (n:Nat):MObj:=.dict [("words",.ref wl),("names",nm),("at",.int n)]
structure Rd (σ:St) (r d wl:Addr) (W:List (List Nat×Nat)) (nm:V) (n:Nat):Prop where
 obj:σ r=some (.inst 313 d)
 dict:σ d=some (rdD wl nm n)
 words:σ wl=some (.list (W.map tokV))
 chars:∀ p∈W,chOk p.1=true∧p.1.length < 2 ^ 24
 len:W.length < 2 ^ 24
theorem Rd.ext {σ σ':St} {r d wl:Addr} {W:List (List Nat×Nat)} {nm:V} {n:Nat} (h:Rd σ r d wl W nm n) (x:Ext σ σ'):Rd σ' r d wl W nm n:=⟨x _ _ h.obj,x _ _ h.dict,x _ _ h.words,h.chars,h.len⟩
theorem Rd.ner {σ:St} {r d wl:Addr} {W:List (List Nat×Nat)} {nm:V} {n:Nat} (h:Rd σ r d wl W nm n):r≠d∧wl≠d:=by
 revert h
 revert σ; revert r; revert d; revert wl; revert W; revert nm; revert n
 walk_at "close 7"
 intro n nm W wl d r σ h
 refine ⟨?_,?_⟩
 ·rintro rfl
  have:=h.obj
  rw [h.dict] at this
  cases this
 ·rintro rfl
  have:=h.words
  rw [h.dict] at this
  cases this
theorem Rd.move {σ:St} {r d wl:Addr} {W:List (List Nat×Nat)} {nm:V} {n:Nat} (h:Rd σ r d wl W nm n) (n':Nat):Rd (upM σ d (rdD wl nm n')) r d wl W nm n' :=
 ⟨by rw [upd_ne _ _ h.ner.1]; exact h.obj,upd_self _ _ _,by rw [upd_ne _ _ h.ner.2]; exact h.words,h.chars,h.len⟩
noncomputable def Ahead (W:List (List Nat×Nat)) (n:Nat) (ws:List (List Nat)):Prop:=(W.map (·.1)).drop n=ws
theorem Ahead.here {W:List (List Nat×Nat)} {n:Nat} {w:List Nat} {ws:List (List Nat)} (h:Ahead W n (w::ws)):∃ p,W[n]?=some (w,p):=by
 revert h
 revert W; revert n; revert w ws
 walk_at "close 4"
 intro w ws n W h
 unfold Ahead at h
 have:(W.map (·.1))[n]?=some w:=by
  rw [← List.head?_drop,h]
  rfl
 rw [List.getElem?_map] at this
 cases q:W[n]? with
 | none=>rw [q] at this; cases this
 | some x=>rw [q] at this; obtain ⟨a,b⟩:=x; cases this; exact ⟨b,rfl⟩
theorem Ahead.next {W:List (List Nat×Nat)} {n:Nat} {w:List Nat} {ws:List (List Nat)} (h:Ahead W n (w::ws)):Ahead W (n+1) ws:=by
 unfold Ahead at h ⊢
 rw [← List.drop_drop,h]
 rfl
theorem Ahead.skip {W:List (List Nat×Nat)} {n:Nat} {us ws:List (List Nat)} (h:Ahead W n (us++ws)):Ahead W (n+us.length) ws:=by
 unfold Ahead at h ⊢
 rw [← List.drop_drop,h]
 simp
theorem Rd.at {σ:St} {r d wl:Addr} {W:List (List Nat×Nat)} {nm:V} {n:Nat} (h:Rd σ r d wl W nm n) {w:List Nat} {p:Nat} (e:W[n]?=some (w,p)):(W.map tokV)[n]?=some (tokV (w,p))∧n < 2 ^ 24∧chOk w=true∧w.length < 2 ^ 24:=by
 have hlt:=(List.getElem?_eq_some_iff.mp e).1
 have hm:(w,p)∈W:=(List.getElem?_eq_some_iff.mp e).2 ▸ List.getElem_mem hlt
 refine xc0_3 (by rw [List.getElem?_map,e]; rfl) (by have:=h.len; exact ar25 hlt this) (h.chars _ hm)
theorem AttrR.of (pc:PC c) {σ:St} {x C d:Addr} {es:List (Str×V)} {name:Str} {v:V} (e:σ x=some (.inst C d)) (ed:σ d=some (.dict es)) (pl:plainCls c.K C=true) (fa:freeName c.K C name=true) (hv:getV es name=some v) (hs:v.noStat=true):AttrR c σ (.ref x) name v :=
 ⟨x,C,d,es,rfl,e,ed,pl,fa,hv,hs⟩
variable {r d wl:Addr} {W:List (List Nat×Nat)} {nm:V} {n:Nat} {w:List Nat} {p:Nat}
theorem Rd.a_words (pc:PC c) (h:Rd σ r d wl W nm n):AttrR c σ (.ref r) "words" (.ref wl):=AttrR.of pc h.obj h.dict (pl_RuleReader pc) (fa_RuleReader_words pc) rfl rfl
theorem Rd.a_names (pc:PC c) (h:Rd σ r d wl W nm n) (hn:nm.noStat=true):AttrR c σ (.ref r) "names" nm:=AttrR.of pc h.obj h.dict (pl_RuleReader pc) (fa_RuleReader_names pc) rfl hn
theorem Rd.a_at (pc:PC c) (h:Rd σ r d wl W nm n):AttrR c σ (.ref r) "at" (.int n):=AttrR.of pc h.obj h.dict (pl_RuleReader pc) (fa_RuleReader_at pc) rfl rfl
theorem w_word (pc:PC c) (h:Rd σ r d wl W nm n) (hw:W[n]?=some (w,p)) (q:Q (.str w) σ):CallC c (k+1) (.ref 254) [.ref r] σ Q:=by
 revert pc h hw q
 revert c; revert k; revert σ; revert Q; revert r; revert d; revert wl; revert W; revert nm; revert n; revert w p
 walk_at "close 12"
 intro w p n nm W wl d r Q σ k c pc h hw q
 refine im4 ?_ (h.at hw)
 intro a1 a2 a3 a4
 walk_at "def 1"
 walk_at "g"
 refine xc1_2 _ (h.a_words pc) ?_
 walk_at "g"
 refine xc1_2 _ (h.a_at pc) ?_
 refine TailW.list (fun _ _=>rfl) (.inl h.words) (by exact ar20) (by exact ar26 a2) a1 ?_
 walk_at "g"
 refine TailW.tup (m:=0) (fun _ _=>rfl) (by decide) (by decide) rfl rfl ?_
 exact q
theorem put_at {a b x v:V}:putV [((Str.ofString "words"),a),(Str.ofString "names",b),(Str.ofString "at",x)] (Str.ofString "at") v=[(Str.ofString "words",a),(Str.ofString "names",b),(Str.ofString "at",v)]:=by
 have h1:¬ (Str.ofString "words"=Str.ofString "at"):=by decide +kernel
 have h2:¬ (Str.ofString "names"=Str.ofString "at"):=by decide +kernel
 dsimp only [putV]; rw [if_neg h1,if_neg h2,if_pos rfl]
theorem Rd.meth (pc:PC c) (h:Rd σ r d wl W nm n) {name:Str} {f:Addr} (hm:methIn c.K 313 name f=true) (hk:keepIn c.K (.ref f)=true) (ho:getV [("words",V.none),("names",V.none),("at",V.none)] name=none):MethR c k name (.ref r) σ (.ref f):=by
 refine MethR.own h.obj h.dict hm hk ?_
 unfold getV at ho ⊢
 simp only [List.lookup_cons,List.lookup_nil] at ho ⊢
 (repeat' split at ho) <;> first | cases ho | skip
 simp_all
theorem w_take (pc:PC c) (h:Rd σ r d wl W nm n) (hw:W[n]?=some (w,p)) (q:Q (.str w) (upM σ d (rdD wl nm (n+1)))):CallC c (k+1) (.ref 268) [.ref r] σ Q:=by
 revert pc h hw q
 revert c; revert k; revert σ; revert Q; revert r; revert d; revert wl; revert W; revert nm; revert n; revert w p
 walk_at "close 12"
 intro w p n nm W wl d r Q σ k c pc h hw q
 refine im4 ?_ (h.at hw)
 intro a1 a2 a3 a4
 walk_at "def 1"
 walk_at "g"
 refine xc1_2 _ (h.a_words pc) ?_
 walk_at "g"
 refine xc1_2 _ (h.a_at pc) ?_
 refine TailW.list (fun _ _=>rfl) (.inl h.words) (by exact ar20) (by exact ar26 a2) a1 ?_
 walk_at "g"
 refine TailW.tup (m:=0) (fun _ _=>rfl) (by decide) (by decide) rfl rfl ?_
 walk_at "g"
 refine xc1_2 _ (h.a_at pc) ?_
 walk_at "g"
 refine xc4_1 r 313 d _ (xc0_7 rfl h.obj h.dict (pl_RuleReader pc) (fa_RuleReader_at pc) (by simp) ?_)
 rw [put_at]
 walk_at "g"
 exact q
theorem w_skip (pc:PC c) (h:Rd σ r d wl W nm n) (hw:W[n]?=some (w,p)) {x:List Nat} (q1:w=x→Q (.bool true) (upM σ d (rdD wl nm (n+1)))) (q2:w≠x→Q (.bool false) σ):CallC c (k+2) (.ref 275) [.ref r,.str x] σ Q:=by
 revert pc h hw q1 q2
 revert c; revert k; revert σ; revert Q; revert r; revert d; revert wl; revert W; revert nm; revert n; revert w p x
 walk_at "close 13"
 intro w p x n nm W wl d r Q σ k c pc h hw q1 q2
 walk_at "def 2"
 walk_at "g"
 refine xc1_2 _ (h.meth pc (me_RuleReader_word pc) (ke_RuleReader_word pc) rfl) ?_
 walk_at "g"
 refine (w_word pc h hw ?_).toW
 walk_at "g"
 by_cases e:w=x
 ·rw [show (w != x)=false by simp [e]]
  walk_at "g"
  refine xc1_2 _ (h.meth pc (me_RuleReader_take pc) (ke_RuleReader_take pc) rfl) ?_
  walk_at "g"
  refine (w_take pc h hw ?_).toW
  refine ⟨rfl,?_⟩
  walk_at "g"
  exact q1 e
 ·rw [show (w != x)=true by simp [e]]
  walk_at "g"
  exact q2 e
theorem w_need (pc:PC c) (h:Rd σ r d wl W nm n) (hw:W[n]?=some (w,p)) (q:Q .none (upM σ d (rdD wl nm (n+1)))):CallC c (k+3) (.ref 282) [.ref r,.str w] σ Q:=by
 revert pc h hw q
 revert c; revert k; revert σ; revert Q; revert r; revert d; revert wl; revert W; revert nm; revert n; revert w p
 walk_at "close 12"
 intro w p n nm W wl d r Q σ k c pc h hw q
 walk_at "def 2"
 walk_at "g"
 refine xc1_2 _ (h.meth pc (me_RuleReader_skip pc) (ke_RuleReader_skip pc) rfl) ?_
 walk_at "g"
 refine (w_skip pc h hw (fun _=>?_) (fun e=>absurd rfl e)).toW
 walk_at "g"
 exact q
theorem w_name (pc:PC c) (h:Rd σ r d wl W nm n) (hw:W[n]?=some (w,p)) (hn:isName w=true) (q:Q (.str w) (upM σ d (rdD wl nm (n+1)))):CallC c (k+2) (.ref 289) [.ref r] σ Q:=by
 revert pc h hw hn q
 revert c; revert k; revert σ; revert Q; revert r; revert d; revert wl; revert W; revert nm; revert n; revert w p
 walk_at "close 12"
 intro w p n nm W wl d r Q σ k c pc h hw hn q
 refine im4 ?_ (h.at hw)
 intro a1 a2 a3 a4
 walk_at "def 1"
 walk_at "g"
 refine xc1_2 _ (h.meth pc (me_RuleReader_word pc) (ke_RuleReader_word pc) rfl) ?_
 walk_at "g"
 refine (w_word pc h hw ?_).toW
 walk_at "g"
 refine (w_is_name pc a3 (by exact ar15 a4) ?_).toW
 walk_at "g"
 rw [hn]
 walk_at "g"
 refine xc1_2 _ (h.meth pc (me_RuleReader_take pc) (ke_RuleReader_take pc) rfl) ?_
 walk_at "g"
 exact (w_take pc h hw q).toW
noncomputable def Knows (c:Cx) (σ:St) (nm:V):Prop:=∃ a o,nm=.ref a∧σ a=some o∧(∀ wl nm n,o≠rdD wl nm n)∧(∀ us,o≠.list us)∧∀ τ,τ a=some o→∀ w∈c_glyphs,∀ k (Q:V→St→Prop),Q (.bool false) τ→Op2 c k (compareOp .NotIn) (.str w) nm τ Q
theorem Knows.ext {σ':St} (h:Knows c σ nm) (x:Ext σ σ'):Knows c σ' nm:=xi2 (fun a o=>im5 fun e g u v z=>⟨a,o,e,x _ _ g,u,v,z⟩) h
theorem Knows.st {τ:St} {m:Nat} (kn:Knows c σ nm) (h:Rd σ r d wl W nm n) (x:Ext (upM σ d (rdD wl nm m)) τ):Knows c τ nm:=by
 revert kn h x
 revert c; revert σ; revert r; revert d; revert wl; revert W; revert nm; revert n; revert τ m
 walk_at "close 10"
 intro τ m n nm W wl d r σ c kn h x
 refine xi2 ?_ (kn)
 intro a o
 refine im5 ?_
 intro e g u v z
 refine xc2_5 a o e (x _ _ ?_) u v z
 rw [upd_ne]
 ·exact g
 ·rintro rfl
  rw [h.dict] at g
  cases g
  exact u _ _ _ rfl
theorem Knows.put {U:Addr} {o:MObj} {us:List V} (kn:Knows c σ nm) (e:σ U=some (.list us)):Knows c (upM σ U o) nm:=by
 revert kn e
 revert c; revert σ; revert nm; revert U o us
 walk_at "close 6"
 intro U o us nm σ c kn e
 refine xi2 ?_ (kn)
 intro a o'
 refine im5 ?_
 intro e' g u v z
 refine xc2_5 a o' e' ?_ u v z
 rw [upd_ne]
 ·exact g
 ·rintro rfl
  rw [e] at g
  cases g
  exact v _ rfl
theorem Knows.noStat (kn:Knows c σ nm):nm.noStat=true:=by obtain ⟨a,o,rfl,_⟩:=kn; rfl
theorem Knows.op {w:List Nat} (kn:Knows c σ nm) (hw:w∈c_glyphs) (q:Q (.bool false) σ):Op2 c k (compareOp .NotIn) (.str w) nm σ Q:=by
 refine xi2 ?_ (kn)
 intro a o
 refine im5 ?_
 intro e g u v z
 exact z σ g w hw k Q q
theorem w_glyph (pc:PC c) (h:Rd σ r d wl W nm n) (hw:W[n]?=some (w,p)) (hg:w∈c_glyphs) (kn:Knows c σ nm) (q:Q (.str w) (upM σ d (rdD wl nm (n+1)))):CallC c (k+2) (.ref 296) [.ref r] σ Q:=by
 revert pc h hw hg kn q
 revert c; revert k; revert σ; revert Q; revert r; revert d; revert wl; revert W; revert nm; revert n; revert w p
 walk_at "close 12"
 intro w p n nm W wl d r Q σ k c pc h hw hg kn q
 refine im4 ?_ (h.at hw)
 intro a1 a2 a3 a4
 have hn:isName w=true:=(by decide +kernel:∀ x∈c_glyphs,isName x=true) w hg
 walk_at "def 1"
 walk_at "g"
 refine xc1_2 _ (h.meth pc (me_RuleReader_word pc) (ke_RuleReader_word pc) rfl) ?_
 walk_at "g"
 refine (w_word pc h hw ?_).toW
 walk_at "g"
 refine (w_is_name pc a3 (by exact ar15 a4) ?_).toW
 walk_at "g"
 rw [hn]
 walk_at "g"
 refine xc1_2 _ (h.meth pc (me_RuleReader_word pc) (ke_RuleReader_word pc) rfl) ?_
 walk_at "g"
 refine (w_word pc h hw ?_).toW
 walk_at "g"
 refine xc1_2 _ (h.a_names pc kn.noStat) ?_
 refine kn.op hg ?_
 walk_at "g"
 refine xc1_2 _ (h.meth pc (me_RuleReader_take pc) (ke_RuleReader_take pc) rfl) ?_
 walk_at "g"
 exact (w_take pc h hw q).toW
theorem w_tag (pc:PC c) (h:Rd σ r d wl W nm n) (hw:W[n]?=some (w,p)) (hn:isName w=true) (h4:w.length≤4) (q:Q (.str w) (upM σ d (rdD wl nm (n+1)))):CallC c (k+2) (.ref 310) [.ref r] σ Q:=by
 revert pc h hw hn h4 q
 revert c; revert k; revert σ; revert Q; revert r; revert d; revert wl; revert W; revert nm; revert n; revert w p
 walk_at "close 12"
 intro w p n nm W wl d r Q σ k c pc h hw hn h4 q
 refine im4 ?_ (h.at hw)
 intro a1 a2 a3 a4
 walk_at "def 1"
 walk_at "g"
 refine xc1_2 _ (h.meth pc (me_RuleReader_word pc) (ke_RuleReader_word pc) rfl) ?_
 walk_at "g"
 refine (w_word pc h hw ?_).toW
 walk_at "g"
 refine (w_is_name pc a3 (by exact ar15 a4) ?_).toW
 walk_at "g"
 rw [hn]
 walk_at "g"
 refine xc1_2 _ (h.meth pc (me_RuleReader_word pc) (ke_RuleReader_word pc) rfl) ?_
 walk_at "g"
 refine (w_word pc h hw ?_).toW
 walk_at "g"
 refine CallW.lenStr (by exact ar26 a4) ?_
 walk_at "g"
 refine ite_dec (fun hh=>by exact (ar27 h4 hh).elim) (fun _=>?_)
 walk_at "g"
 refine xc1_2 _ (h.meth pc (me_RuleReader_take pc) (ke_RuleReader_take pc) rfl) ?_
 walk_at "g"
 exact (w_take pc h hw q).toW
theorem w_starts_item (pc:PC c) (h:Rd σ r d wl W nm n) (hw:W[n]?=some (w,p)) (q:Q (.bool (w==tx "["||isName w)) σ):CallC c (k+2) (.ref 338) [.ref r] σ Q:=by
 revert pc h hw q
 revert c; revert k; revert σ; revert Q; revert r; revert d; revert wl; revert W; revert nm; revert n; revert w p
 walk_at "close 12"
 intro w p n nm W wl d r Q σ k c pc h hw q
 refine im4 ?_ (h.at hw)
 intro a1 a2 a3 a4
 walk_at "def 1"
 walk_at "g"
 refine xc1_2 _ (h.meth pc (me_RuleReader_word pc) (ke_RuleReader_word pc) rfl) ?_
 walk_at "g"
 refine (w_word pc h hw ?_).toW
 walk_at "g"
 refine ite_bool (fun e=>?_) (fun e=>?_)
 ·rw [e,Bool.true_or] at q
  exact q
 rw [e,Bool.false_or] at q
 walk_at "g"
 refine xc1_2 _ (h.meth pc (me_RuleReader_word pc) (ke_RuleReader_word pc) rfl) ?_
 walk_at "g"
 refine (w_word pc h hw ?_).toW
 walk_at "g"
 exact (w_is_name pc a3 (by exact ar15 a4) q).toW
end
section
variable {c:Cx} {k:Nat} {sc:Scope} {ρ:Loc} {σ:St} {Q:V→St→Prop}
theorem Ext.self {a:Addr} {x:MObj} (h:σ a=some x):Ext (upM σ a x) σ:=fun b o e=>by
 unfold upM at e; split at e
 ·rename_i z; rw [z,h]; exact e
 ·exact e
theorem Ext.bump {τ:St} {D:Addr} {o:MObj} (h:Ext σ τ) (n:σ D=none):Ext σ (upM τ D o):=fun b o' e=>by
 unfold upM; split
 ·rename_i z; rw [z,n] at e; cases e
 ·exact h _ _ e
noncomputable def numT (i:Int):List Nat:=(Str.ofString (toString i)).cps.toList
noncomputable def numOkB (w:List Nat) (i:Int):Bool:=PySem.intText? (S w)==some i&&decide (w.length≤6)&&(match w.getLast? with | some x=>decide (x∈c_FIGURES) | none=>false)&&(match w with | x::_=>!decide (x∈c_LETTERS) | []=>false)
theorem seqIndex_neg {n:Nat} (h:0 < n):seqIndex? (-1) n=some (n - 1):=by
 unfold seqIndex?
 rw [if_pos (show ((-1:Int) < 0) by decide)]
 dsimp only
 rw [if_pos (by simp; exact ar28 h)]; congr 1; exact ar29
theorem TailW.strLast {v i:Expr} {l:List Nat} {x:Nat} (hs:NoSlice i) (hx:l.getLast?=some x) (hz:l.length < 2 ^ 60) (q:Q (.str [x]) σ):TailW c k v i (.str l) (.int (-1)) σ Q:=by
 have hne:0 < l.length:=by cases l with | nil=>cases hx | cons _ _=>simp
 rw [List.getLast?_eq_getElem?] at hx
 exact TailW.str hs (by decide) (by decide) (seqIndex_neg hne) hx q
variable {r d wl:Addr} {W:List (List Nat×Nat)} {nm:V} {n:Nat} {w:List Nat} {p:Nat}
theorem w_number (pc:PC c) (h:Rd σ r d wl W nm n) (hw:W[n]?=some (w,p)) {i lo hi:Int} (hn:numOkB w i=true) (h1:lo≤i) (h2:i≤hi) (q:Q (.int i) (upM σ d (rdD wl nm (n+1)))):CallC c (k+2) (.ref 303) [.ref r,.int lo,.int hi] σ Q:=by
 revert pc h hw hn h1 h2 q
 revert c; revert k; revert σ; revert Q; revert r; revert d; revert wl; revert W; revert nm; revert n; revert w p i lo hi
 walk_at "close 15"
 intro w p i lo hi n nm W wl d r Q σ k c pc h hw hn h1 h2 q
 refine im4 ?_ (h.at hw)
 intro a1 a2 a3 a4
 simp only [numOkB,Bool.and_eq_true,beq_iff_eq,decide_eq_true_eq] at hn
 refine im2 ?_ (hn)
 refine im2 ?_
 refine im2 ?_
 intro n1 n2 n3 n4
 cases w with
 | nil=>cases n4
 | cons x rest =>
 obtain ⟨y,hy⟩:∃ y,(x::rest).getLast?=some y:=by
  cases e:(x::rest).getLast? with
  | none=>simp at e
  | some y=>exact ⟨y,rfl⟩
 rw [hy] at n3
 walk_at "def 3"
 walk_at "g"
 refine xc1_2 _ (h.meth pc (me_RuleReader_word pc) (ke_RuleReader_word pc) rfl) ?_
 walk_at "g"
 refine (w_word pc h hw ?_).toW
 walk_at "g"
 rw [cs_empty,show ((x::rest)==[])=false from rfl]
 walk_at "g"
 refine TailW.strLast (fun _ _=>rfl) hy (by exact ar30 n2) ?_
 walk_at "g"
 rw [strIn_one,show decide (y∈c_FIGURES)=true from n3]
 walk_at "g"
 refine TailW.str0 (fun _ _=>rfl) (by exact ar30 n2) rfl ?_
 walk_at "g"
 rw [strIn_one]
 simp only [Bool.not_eq_true',decide_eq_false_iff_not] at n4
 refine ite_dec (fun hh=>absurd hh n4) (fun _=>?_)
 walk_at "g"
 refine CallW.lenStr (by exact ar31 n2) ?_
 walk_at "g"
 refine ite_dec (fun hh=>by exact (ar32 n2 hh).elim) (fun _=>?_)
 walk_at "g"
 refine CallW.intStr n1 (by exact ar33 (by assumption)) ?_
 walk_at "g"
 refine ⟨rfl,ite_dec (fun _=>?_) (fun hh=>absurd h1 hh)⟩
 walk_at "g"
 rw [show decide (i≤hi)=true by simpa using h2]
 walk_at "g"
 refine xc1_2 _ (h.meth pc (me_RuleReader_take pc) (ke_RuleReader_take pc) rfl) ?_
 walk_at "g"
 refine (w_take pc h hw ?_).toW
 refine ⟨rfl,?_⟩
 walk_at "g"
 refine CallW.intStr n1 (by exact ar33 (by assumption)) ?_
 exact q
noncomputable abbrev Worth:=Int×Int×Int×Int
noncomputable def worthV (x:Worth):V:=.tup [.int x.1,.int x.2.1,.int x.2.2.1,.int x.2.2.2]
noncomputable def worthW (x:Worth) (long:Bool):List (List Nat):=if ((x.1==0&&x.2.1==0&&x.2.2.2==0)&&!long)=true then [numT x.2.2.1] else [tx "<",numT x.1,numT x.2.1,numT x.2.2.1,numT x.2.2.2,tx ">"]
noncomputable def numIn (i:Int):Bool:=numOkB (numT i) i&&decide (-32768≤i)&&decide (i≤32767)
noncomputable def worthOk (x:Worth):Bool:=numIn x.1&&numIn x.2.1&&numIn x.2.2.1&&numIn x.2.2.2
theorem Rd.st {σ₀ τ:St} {m:Nat} (h:Rd σ₀ r d wl W nm n) (x:Ext (upM σ₀ d (rdD wl nm m)) τ):Rd τ r d wl W nm m:=(h.move m).ext x
theorem w_read_worth (pc:PC c) (h:Rd σ r d wl W nm n) {x:Worth} {long:Bool} {rest:List (List Nat)} (ok:worthOk x=true) (ah:Ahead W n (worthW x long++rest)) (q:∀ σ',Ext (upM σ d (rdD wl nm (n+(worthW x long).length))) σ'→Q (worthV x) σ'):CallC c (k+4) (.ref 372) [.ref r] σ Q:=by
 revert pc h ok ah q
 revert c; revert k; revert σ; revert Q; revert r; revert d; revert wl; revert W; revert nm; revert n; revert x long rest
 walk_at "close 13"
 intro x long rest n nm W wl d r Q σ k c pc h ok ah q
 simp only [worthOk,numIn,Bool.and_eq_true,decide_eq_true_eq] at ok
 refine im3 ?_ (ok)
 refine im3 ?_
 refine im3 ?_
 refine im2 ?_
 refine im2 ?_
 intro o1 l1 u1
 refine im2 ?_
 intro o2 l2 u2
 refine im2 ?_
 intro o3 l3 u3
 refine im2 ?_
 intro o4 l4 u4
 walk_at "def 1"
 walk_at "g"
 rw [show (-(32767:Int) - 1)=-32768 from rfl]
 refine xc1_2 _ (h.meth pc (me_RuleReader_skip pc) (ke_RuleReader_skip pc) rfl) ?_
 walk_at "g"
 by_cases hs:((x.1==0&&x.2.1==0&&x.2.2.2==0)&&!long)=true
 ·have e0:worthW x long=[numT x.2.2.1]:=by unfold worthW; rw [if_pos hs]
  rw [e0] at ah q
  refine xi1 ?_ (ah.here)
  intro p hp
  have hne:numT x.2.2.1≠tx "<":=by
   intro e
   rw [e] at o3
   simp only [numOkB,Bool.and_eq_true] at o3
   have:=o3.1.2
   revert this; decide +kernel
  refine (w_skip pc h hp (fun e=>absurd e hne) fun _=>?_).toW
  walk_at "g"
  refine xc1_2 _ (h.meth pc (me_RuleReader_number pc) (ke_RuleReader_number pc) rfl) ?_
  walk_at "g"
  refine (w_number pc h hp o3 l3 u3 ?_).toW
  walk_at "g"
  simp only [Bool.and_eq_true,beq_iff_eq] at hs
  refine im2 ?_ (hs)
  refine im2 ?_
  refine im2 ?_
  intro s1 s2 s3 _
  have:=q _ (Ext.refl _)
  unfold worthV at this
  rw [s1,s2,s3] at this
  exact this
 ·have e0:worthW x long=[tx "<",numT x.1,numT x.2.1,numT x.2.2.1,numT x.2.2.2,tx ">"]:=by unfold worthW; rw [if_neg hs]
  rw [e0] at ah q
  refine xi1 ?_ (ah.here)
  intro p hp
  refine (w_skip pc h hp (fun _=>?_) fun e=>absurd rfl e).toW
  walk_at "g"
  refine SV.assignCompE (by decide +kernel) (fun _ _=>rfl) ?_ (by decide +kernel) rfl (by decide +kernel) ?_
  ·walk_at "cap"
  refine IT.range1 rfl (by decide +kernel) (gn_range pc) rfl ?_
  walk_at "g"
  refine xc1_4 4 rfl (by decide) (by rw [rangeV_len]; decide) (fun D hD=>?_)
  have hd:σ d=some (rdD wl nm n):=h.dict
  have hDd:D≠d:=neO hD (upd_self _ _ _)
  have hD0:σ D=none:=by rw [upd_ne _ _ hDd] at hD; exact hD
  have hD1:∀ m,upM σ d (rdD wl nm m) D=none:=fun m=>by rw [upd_ne _ _ hDd]; exact hD0
  refine xc1_4 (fun i acc τ=>i≤4∧Ext (upM σ d (rdD wl nm (n+1+i))) τ∧τ D=some (.list acc)∧acc=([V.int x.1,.int x.2.1,.int x.2.2.1,.int x.2.2.2]:List V).take i) ?_ ?_ ?_ ?_
  ·exact xc0_4 (by decide) ((Ext.refl _).bump (hD1 _)) (upd_self _ _ _) rfl
  ·intro i acc τ
   refine im4 ?_
   intro h1 h2 h3 hq9
   obtain rfl:=hq9
   exact xc0_3 trivial h3 (by simp; exact ar34)
  ·intro i acc τ y hy
   refine im4 ?_
   intro h1 h2 h3 h4
   refine im2 ?_ (rangeV_get hy)
   intro hi hq10
   obtain rfl:=hq10
   refine xc1_2 _ (CTg.name (by decide +kernel)) ?_
   walk_at "g"
   have hR:=h.st h2
   refine xc1_2 _ (hR.meth pc (me_RuleReader_number pc) (ke_RuleReader_number pc) rfl) ?_
   walk_at "g"
   have ah':=ah.next
   have step:∀ (w:List Nat) (j:Int),W[n+1+i]?=some (w,(W[n+1+i]?.map (·.2)).getD 0)→True:=fun _ _ _=>trivial
   have key:∃ w j p,W[n+1+i]?=some (w,p)∧numOkB w j=true∧-32768≤j∧j≤32767∧([V.int x.1,.int x.2.1,.int x.2.2.1,.int x.2.2.2]:List V)[i]?=some (.int j):=by
    match i,hi with
    | 0,_=>obtain ⟨p,hp⟩:=ah'.here; exact ⟨_,_,p,hp,o1,l1,u1,rfl⟩
    | 1,_=>obtain ⟨p,hp⟩:=ah'.next.here; exact ⟨_,_,p,hp,o2,l2,u2,rfl⟩
    | 2,_=>obtain ⟨p,hp⟩:=ah'.next.next.here; exact ⟨_,_,p,hp,o3,l3,u3,rfl⟩
    | 3,_=>obtain ⟨p,hp⟩:=ah'.next.next.next.here; exact ⟨_,_,p,hp,o4,l4,u4,rfl⟩
   refine xi3 ?_ (key)
   intro w j p
   refine im5 ?_
   intro hp k1 k2 k3 k4
   refine (w_number pc hR hp k1 k2 k3 ?_).toW
   refine xc0_5 (by rw [upd_ne _ _ hDd]; exact h3) (by exact ar35 hi) ?_ (upd_self _ _ _) ?_
   ·refine Ext.bump ?_ (hD1 _)
    rw [show n+1+(i+1)=n+1+i+1 by exact ar36]
    exact h2.over (Ext.refl _)
   ·rw [h4,List.take_add_one,k4]
    rfl
  ·intro acc τ
   refine im4 ?_
   intro h1 h2 h3 h4
   rw [rangeV_len] at h2 h4
   walk_at "g"
   have hR:=h.st h2
   refine xc1_2 _ (hR.meth pc (me_RuleReader_need pc) (ke_RuleReader_need pc) rfl) ?_
   walk_at "g"
   refine xi1 ?_ (ah.next.next.next.next.next.here)
   intro p hp
   refine (w_need pc hR hp ?_).toW
   refine ⟨rfl,?_⟩
   walk_at "g"
   refine CallW.tupList (.inl (by rw [upd_ne _ _ hDd]; exact h3)) (by rw [h4,show sizeLine=2 ^ 24 by decide +kernel]; simp) ?_
   rw [h4]
   exact q _ (h2.over (Ext.refl _))
end
theorem glyph_not {g:List Nat} (h:g∈c_glyphs):g≠tx "]"∧g≠tx "["∧g≠tx "'"∧isName g=true∧chOk g=true∧g.length≤5 :=
 (by decide +kernel:∀ x∈c_glyphs,x≠tx "]"∧x≠tx "["∧x≠tx "'"∧isName x=true∧chOk x=true∧x.length≤5) g h
theorem chOk_all {ls:List (List Nat)} (h:∀ g∈ls,g∈c_glyphs):ls.all chOk=true:=List.all_eq_true.mpr fun g hg=>(glyph_not (h g hg)).2.2.2.2.1
theorem sizeLine_is:sizeLine=2 ^ 24:=by decide +kernel
theorem strVs_append (a b:List (List Nat)):strVs (a++b)=strVs a++strVs b:=by simp [strVs]
section
variable {c:Cx} {k:Nat} {σ:St} {Q:V→St→Prop}
variable {r d wl:Addr} {W:List (List Nat×Nat)} {nm:V} {n:Nat}
theorem Rd.fresh {D:Addr} (h:Rd σ r d wl W nm n) (hD:σ D=none):D≠d∧D≠r∧D≠wl:=by
 refine xc0_3 ?_ ?_ ?_
 ·rintro rfl
  rw [h.dict] at hD
  cases hD
 ·rintro rfl
  rw [h.obj] at hD
  cases hD
 ·rintro rfl
  rw [h.words] at hD
  cases hD
theorem Ext.none {σ τ:St} {D:Addr} (x:Ext σ τ) (h:τ D=none):σ D=none:=by
 cases q:σ D with
 | none=>rfl
 | some o=>rw [x _ _ q] at h; cases h
theorem upd_none {σ:St} {D a:Addr} {o:MObj} (hD:σ D=none) (n:D≠a):upM σ a o D=none:=by rw [upd_ne _ _ n]; exact hD
theorem w_read_glyph_set (pc:PC c) (h:Rd σ r d wl W nm n) (kn:Knows c σ nm) {gs rest:List (List Nat)} (hg:∀ g∈gs,g∈c_glyphs) (nd:gs.Nodup) (ne:gs≠[]) (hz:gs.length < 1000) (ah:Ahead W n (gs++tx "]"::rest))
  (q:∀ σ',Ext (upM σ d (rdD wl nm (n+gs.length+1))) σ'→Q (.tup (strVs gs)) σ'):CallC c (k+3) (.ref 324) [.ref r] σ Q:=by
 revert pc h kn hg nd ne hz ah q
 revert c; revert k; revert σ; revert Q; revert r; revert d; revert wl; revert W; revert nm; revert n; revert gs rest
 walk_at "close 12"
 intro gs rest n nm W wl d r Q σ k c pc h kn hg nd ne hz ah q
 walk_at "def 1"
 walk_at "g"
 intro D hD
 refine im3 ?_ (h.fresh hD)
 intro hDd hDr hDw
 walk_at "g"
 refine SV.while (fun m ρ' σ'=>∃ done rs,gs=done++rs∧m=rs.length∧ρ' "reader"=some (.ref r)∧ρ' "found"=some (.ref D)∧Ext (upM σ d (rdD wl nm (n+done.length))) σ'∧σ' D=some (.list (strVs done))) gs.length
  ⟨[],gs,rfl,rfl,?_,?_,(Ext.self h.dict).trans (Ext.fresh hD),upd_self _ _ _⟩ ?_
 ·walk_at "loc"
 ·walk_at "loc"
 intro m ρ' σ'
 refine xi2 ?_
 intro done rs
 refine im6 ?_
 intro e hq11
 obtain rfl:=hq11
 intro l1 l2 ex eD
 have hR:=h.st ex
 have ah':Ahead W (n+done.length) (rs++tx "]"::rest):=by
  rw [e,List.append_assoc] at ah
  exact ah.skip
 walk_at "g"
 refine xc1_2 _ (hR.meth pc (me_RuleReader_skip pc) (ke_RuleReader_skip pc) rfl) ?_
 walk_at "g"
 cases rs with
 | nil =>
  refine xi1 ?_ (Ahead.here ah')
  intro p hp
  rw [List.append_nil] at e
  refine (w_skip pc hR hp (fun _=>?_) fun e=>absurd rfl e).toW
  walk_at "g"
  intro D2 hD2
  have eD':upM σ' d (rdD wl nm (n+done.length+1)) D=some (.list (strVs done)):=by rw [upd_ne _ _ hDd]; exact eD
  have hDD:D≠D2:=by exact (neO hD2 eD').symm
  refine Op2.eqNil (.inl (by rw [upd_ne _ _ hDD]; exact eD')) (.inl (upd_self _ _ _)) ?_
  rw [show (strVs done).isEmpty=false by rw [← e]; cases gs with | nil=>exact absurd rfl ne | cons _ _=>rfl]
  walk_at "g"
  refine CallW.tupList (.inl (by rw [upd_ne _ _ hDD]; exact eD')) (by rw [sizeLine_is,← e]; simp [strVs]; exact ar37 hz) ?_
  rw [← e] at ex ⊢
  refine q _ ((ex.over (Ext.refl _)).bump ?_)
  exact (ex.over (Ext.refl _)).none (by rw [e]; exact hD2)
 | cons g rs =>
  have hgm:g∈c_glyphs:=hg g (by rw [e]; simp)
  refine xi1 ?_ (Ahead.here ah')
  intro p hp
  refine (w_skip pc hR hp (fun e=>absurd e (glyph_not hgm).1) fun _=>?_).toW
  walk_at "g"
  refine xc1_2 _ (hR.meth pc (me_RuleReader_word pc) (ke_RuleReader_word pc) rfl) ?_
  walk_at "g"
  refine (w_word pc hR hp ?_).toW
  walk_at "g"
  refine Op2.inList (.inl eD) (ok_str (glyph_not hgm).2.2.2.2.1) (oks_strs (chOk_all fun x hx=>hg x (by rw [e]; simp [hx]))) (depth_str _) ?_
  have hni:g ∉ done:=by
   rw [e,List.nodup_append] at nd
   exact fun hx=>nd.2.2 g hx g (by simp) rfl
  rw [vin_str,show decide (g∈done)=false by simpa using hni]
  walk_at "g"
  refine xc1_2 _ (MethR.append (.inl eD)) ?_
  walk_at "g"
  refine xc1_2 _ (hR.meth pc (me_RuleReader_glyph pc) (ke_RuleReader_glyph pc) rfl) ?_
  walk_at "g"
  refine (w_glyph pc hR hp hgm (kn.st h ex) ?_).toW
  walk_at "g"
  refine CallW.append (by rw [upd_ne _ _ hDd]; exact eD) (by rw [sizeLine_is]; simp [strVs]; rw [e] at hz; simp at hz; exact ar38 hz) ?_
  refine ⟨rfl,?_⟩
  walk_at "g"
  refine xc1_2 _ (Nat.lt_succ_self _) (xc2_6 (done++[g]) rs (by rw [e]; simp) rfl l1 l2 ?_ ?_)
  ·refine Ext.bump ?_ (upd_none hD hDd)
   rw [List.length_append,List.length_singleton,← Nat.add_assoc]
   exact ex.over (Ext.refl _)
  ·rw [upd_self,strVs_append]
   rfl
end
structure ItemD where
 gs:List (List Nat)
 marked:Bool
 uses:List (List Nat)
noncomputable def setW (gs:List (List Nat)) (long:Bool):List (List Nat):=if (gs.length==1&&!long)=true then gs else tx "["::(gs++[tx "]"])
noncomputable def useW (us:List (List Nat)):List (List Nat):=us.flatMap fun u=>[tx "lookup",u]
noncomputable def itemW (it:ItemD) (long:Bool):List (List Nat):=setW it.gs long++if it.marked=true then tx "'"::useW it.uses else []
structure ItemOk (it:ItemD):Prop where
 gs:∀ g∈it.gs,g∈c_glyphs
 nd:it.gs.Nodup
 ne:it.gs≠[]
 gz:it.gs.length < 1000
 uz:it.uses.length < 1000
 us:∀ u∈it.uses,isName u=true
 un:it.marked=false→it.uses=[]
noncomputable def Stop (w:List Nat):Prop:=w≠tx "'"∧w≠tx "lookup"
noncomputable def itemV (gs:List (List Nat)) (marked:Bool) (L:Addr):V:=.tup [.tup (strVs gs),.bool marked,.ref L]
theorem useW_len (us:List (List Nat)):(useW us).length=2 * us.length:=by
 induction us with
 | nil=>rfl
 | cons u r ih =>
  show (tx "lookup"::u::useW r).length=_
  rw [List.length_cons,List.length_cons,ih,List.length_cons]
  exact ar39
theorem lookup_not_name:isName (tx "lookup")=false:=by decide +kernel
section
variable {c:Cx} {k:Nat} {σ:St} {Q:V→St→Prop}
variable {r d wl:Addr} {W:List (List Nat×Nat)} {nm:V} {n:Nat}
theorem Ahead.cast {W:List (List Nat×Nat)} {n m:Nat} {ws us:List (List Nat)} (h:Ahead W n ws) (e:n=m) (e':ws=us):Ahead W m us:=e ▸ e' ▸ h
theorem Rd.none {D:Addr} {m:Nat} (h:Rd σ r d wl W nm n) (hD:σ D=none):upM σ d (rdD wl nm m) D=none:=upd_none hD (h.fresh hD).1
theorem none_of_upd {D a:Addr} {o:MObj} (h:upM σ a o D=none):D≠a∧σ D=none:=by
 have n:D≠a:=neO h (upd_self _ _ _)
 exact ⟨n,by rw [upd_ne _ _ n] at h; exact h⟩
theorem itemW_len (it:ItemD) (long:Bool):(itemW it long).length=(setW it.gs long).length+(if it.marked=true then tx "'"::useW it.uses else []).length:=by unfold itemW; rw [List.length_append]
theorem w_read_item (pc:PC c) (h:Rd σ r d wl W nm n) (kn:Knows c σ nm) {it:ItemD} {long:Bool} {w0:List Nat} {rest:List (List Nat)} (ok:ItemOk it) (ah:Ahead W n (itemW it long++w0::rest)) (st:Stop w0)
  (q:∀ σ' L (toks:List (List Nat×Nat)),Ext (upM σ d (rdD wl nm (n+(itemW it long).length))) σ'→σ L=none→σ' L=some (.list (toks.map tokV))→toks.map (·.1)=it.uses→Q (itemV it.gs it.marked L) σ'):CallC c (k+4) (.ref 331) [.ref r] σ Q:=by
 revert pc h kn ok ah st q
 revert c; revert k; revert σ; revert Q; revert r; revert d; revert wl; revert W; revert nm; revert n; revert it long w0 rest
 walk_at "close 14"
 intro it long w0 rest n nm W wl d r Q σ k c pc h kn ok ah st q
 have lenE:=itemW_len it long
 have tailS:Ahead W (n+(setW it.gs long).length) ((if it.marked=true then tx "'"::useW it.uses else [])++w0::rest):=by
  have ah1:=ah
  unfold itemW at ah1
  rw [List.append_assoc] at ah1
  exact ah1.skip
 walk_at "def 1"
 walk_at "st"
 walk_at "st"
 refine EV.mono' (Q:=fun v σ₁=>v=.tup (strVs it.gs)∧Ext (upM σ d (rdD wl nm (n+(setW it.gs long).length))) σ₁) ?_ ?_
 ·walk_at "g"
  refine xc1_2 _ (h.meth pc (me_RuleReader_skip pc) (ke_RuleReader_skip pc) rfl) ?_
  walk_at "g"
  by_cases hs:(it.gs.length==1&&!long)=true
  ·have e0:setW it.gs long=it.gs:=by unfold setW; rw [if_pos hs]
   obtain ⟨g,hg⟩:∃ g,it.gs=[g]:=by
    simp only [Bool.and_eq_true,beq_iff_eq] at hs
    match it.gs,hs.1 with
    | [g],_=>exact ⟨g,rfl⟩
   have hgm:g∈c_glyphs:=ok.gs g (by rw [hg]; simp)
   have ah0:=ah
   unfold itemW at ah0
   rw [e0,hg] at ah0
   refine xi1 ?_ (Ahead.here ah0)
   intro p hp
   refine (w_skip pc h hp (fun e=>absurd e (glyph_not hgm).2.1) fun _=>?_).toW
   walk_at "g"
   refine xc1_2 _ (h.meth pc (me_RuleReader_glyph pc) (ke_RuleReader_glyph pc) rfl) ?_
   walk_at "g"
   refine (w_glyph pc h hp hgm kn ?_).toW
   walk_at "g"
   rw [e0,hg]
   exact ⟨rfl,Ext.refl _⟩
  ·have e0:setW it.gs long=tx "["::(it.gs++[tx "]"]):=by unfold setW; rw [if_neg hs]
   have ah0:=ah
   unfold itemW at ah0
   rw [e0] at ah0
   refine xi1 ?_ (Ahead.here ah0)
   intro p hp
   refine (w_skip pc h hp (fun _=>?_) fun e=>absurd rfl e).toW
   walk_at "g"
   have hR:=h.move (n+1)
   have kn':Knows c (upM σ d (rdD wl nm (n+1))) nm:=kn.st h (Ext.refl _)
   rw [List.cons_append,List.cons_append] at ah0
   have ah1:=ah0.next
   rw [List.append_assoc,List.append_assoc] at ah1
   refine (w_read_glyph_set pc hR kn' ok.gs ok.nd ok.ne ok.gz ah1 fun σ₁ ex=>?_).toW
   refine ⟨rfl,?_⟩
   rw [upd_upd] at ex
   rw [e0]
   refine Eq.mp ?_ ex
   congr 3
   simp
   exact ar40
 intro _ σ₁
 refine im2 ?_
 intro hq12
 obtain rfl:=hq12
 intro ex
 have hR:=h.st ex
 walk_at "g"
 refine xc1_2 _ (hR.meth pc (me_RuleReader_skip pc) (ke_RuleReader_skip pc) rfl) ?_
 walk_at "g"
 cases hm:it.marked with
 | false =>
  rw [hm] at tailS lenE q
  refine xi1 ?_ (Ahead.here tailS)
  intro p hp
  refine (w_skip pc hR hp (fun e=>absurd e st.1) fun _=>?_).toW
  walk_at "g"
  intro L hL
  refine im2 ?_ (none_of_upd (ex.none hL))
  intro _ hL0
  exact q _ L [] (Ext.bump (by rw [lenE]; exact ex) (h.none hL0)) hL0 (upd_self _ _ _) (by rw [ok.un hm]; rfl)
 | true =>
  rw [hm] at tailS lenE q
  simp only [if_true] at tailS lenE
  rw [List.cons_append] at tailS
  refine xi1 ?_ (Ahead.here tailS)
  intro p hp
  refine (w_skip pc hR hp (fun _=>?_) fun e=>absurd rfl e).toW
  walk_at "g"
  intro L hL
  refine im2 ?_ (none_of_upd hL)
  intro hLd hL1
  refine im2 ?_ (none_of_upd (ex.none hL1))
  intro _ hL0
  have ex2:=ex.over (Ext.refl (upM σ₁ d (rdD wl nm (n+(setW it.gs long).length+1))))
  have ah2:=tailS.next
  walk_at "g"
  refine SV.while (fun m ρ' σ'=>∃ done rs,∃ toks:List (List Nat×Nat),it.uses=done++rs∧m=rs.length∧ρ' "reader"=some (.ref r)∧ρ' "glyphs"=some (.tup (strVs it.gs))∧ρ' "lookups"=some (.ref L) ∧
   Ext (upM σ d (rdD wl nm (n+(setW it.gs long).length+1+2 * done.length))) σ'∧σ' L=some (.list (toks.map tokV))∧toks.map (·.1)=done∧Ahead W (n+(setW it.gs long).length+1+2 * done.length) (useW rs++w0::rest)) it.uses.length
   ⟨[],it.uses,[],rfl,rfl,?_,?_,?_,Ext.bump ex2 (h.none hL0),upd_self _ _ _,rfl,ah2⟩ ?_
  ·walk_at "loc"
  ·walk_at "loc"
  ·walk_at "loc"
  intro m ρ' σ'
  refine xi3 ?_
  intro done rs toks
  refine im8 ?_
  intro e hq13
  obtain rfl:=hq13
  intro l1 l2 l3 ex3 eL
  refine im2 ?_
  intro et ah3
  have hR3:=h.st ex3
  walk_at "g"
  refine xc1_2 _ (hR3.meth pc (me_RuleReader_skip pc) (ke_RuleReader_skip pc) rfl) ?_
  walk_at "g"
  cases rs with
  | nil =>
   refine xi1 ?_ (Ahead.here ah3)
   intro p hp
   refine (w_skip pc hR3 hp (fun e=>absurd e st.2) fun _=>?_).toW
   walk_at "g"
   rw [List.append_nil] at e
   refine q _ L toks ?_ hL0 eL (by rw [et,e])
   refine Eq.mp ?_ ex3
   have:(useW it.uses).length=2 * done.length:=by rw [e,useW_len]
   congr 3
   rw [lenE,List.length_cons,this]
   exact ar41
  | cons u rs =>
   have hu:=ok.us u (by rw [e]; simp)
   have e4:useW (u::rs)++w0::rest=tx "lookup"::u::(useW rs++w0::rest):=by simp [useW]
   rw [e4] at ah3
   refine xi1 ?_ (ah3.here)
   intro p hp
   refine (w_skip pc hR3 hp (fun _=>?_) fun e=>absurd rfl e).toW
   walk_at "g"
   have eL':∀ x,upM σ' d x L=some (.list (toks.map tokV)):=fun x=>by rw [upd_ne _ _ hLd]; exact eL
   refine xc1_2 _ (MethR.append (.inl (eL' _))) ?_
   walk_at "g"
   have hR4:=hR3.move (n+(setW it.gs long).length+1+2 * done.length+1)
   refine xc1_2 _ (hR4.a_words pc) ?_
   walk_at "g"
   refine xc1_2 _ (hR4.a_at pc) ?_
   refine xi1 ?_ (ah3.next.here)
   intro p2 hp2
   refine im4 ?_ (hR4.at hp2)
   intro a1 a2 a3 a4
   refine TailW.list (fun _ _=>rfl) (.inl hR4.words) (by exact ar20) (by exact ar26 a2) a1 ?_
   walk_at "g"
   have hlen:toks.length=done.length:=by rw [← et]; simp
   refine CallW.append (eL' _) (by delta sizeLine; have:=ok.uz; rw [e] at this; simp at this ⊢; exact ar42 a2 hlen) ?_
   refine ⟨rfl,?_⟩
   have hR5:Rd (upM (upM σ' d (rdD wl nm (n+(setW it.gs long).length+1+2 * done.length+1))) L (.list (toks.map tokV++[tokV (u,p2)]))) r d wl W nm (n+(setW it.gs long).length+1+2 * done.length+1):=by
    have hw:=hR4.words
    have:=hR4.obj
    refine ⟨?_,?_,?_,hR4.chars,hR4.len⟩
    ·rw [upd_ne]
     exact hR4.obj
     rintro rfl
     rw [eL' _] at this
     cases this
    ·rw [upd_ne _ _ (Ne.symm hLd)]
     exact hR4.dict
    ·rw [upd_ne]
     exact hR4.words
     rintro rfl
     have:=h.words
     rw [hL0] at this
     cases this
   walk_at "g"
   refine xc1_2 _ (hR5.meth pc (me_RuleReader_name pc) (ke_RuleReader_name pc) rfl) ?_
   walk_at "g"
   refine (w_name pc hR5 hp2 hu ?_).toW
   refine ⟨rfl,?_⟩
   walk_at "g"
   refine xc1_2 _ (Nat.lt_succ_self _) (xc3_1 (done++[u]) rs (toks++[(u,p2)]) (xc0_8 (by rw [e]; simp) rfl l1 l2 l3 ?_ ?_ (⟨by simp [et],?_⟩)))
   ·rw [List.length_append,List.length_singleton]
    refine Ext.over (x:=rdD wl nm (n+(setW it.gs long).length+1+2 * done.length+1)) (σ:=upM (upM σ' d (rdD wl nm (n+(setW it.gs long).length+1+2 * done.length+1))) L (.list (toks.map tokV++[tokV (u,p2)]))) ?_ ?_
    ·exact Ext.bump (ex3.over (Ext.refl _)) (h.none hL0)
    ·rw [show n+(setW it.gs long).length+1+2 * (done.length+1)=n+(setW it.gs long).length+1+2 * done.length+1+1 by exact ar43]
     exact Ext.refl _
   ·rw [upd_ne _ _ hLd,upd_self]
    simp
   ·exact ah3.next.next.cast (by simp; exact ar44) rfl
end
noncomputable def goodMarks:Bool→Bool→List Bool→Bool
 | _,_,[]=>true
 | p,o,m::r=>!((o||(p&&!m))&&m)&&goodMarks m (o||(p&&!m)) r
theorem gm_cons {p o m:Bool} {r:List Bool}:goodMarks p o (m::r)=(!((o||(p&&!m))&&m)&&goodMarks m (o||(p&&!m)) r):=rfl
noncomputable def itemsW (its:List ItemD) (long:Bool):List (List Nat):=its.flatMap (itemW · long)
theorem itemW_head {it:ItemD} (ok:ItemOk it) (long:Bool):∃ w ws,itemW it long=w::ws∧Stop w∧(w==tx "["||isName w)=true:=by
 revert ok
 revert it long
 walk_at "close 2"
 intro it long ok
 unfold itemW setW
 split
 ·cases e:it.gs with
  | nil=>exact absurd e ok.ne
  | cons g r =>
   have hg:=ok.gs g (by rw [e]; simp)
   refine xc2_3 g _ rfl ⟨(glyph_not hg).2.2.1,?_⟩ (by rw [(glyph_not hg).2.2.2.1]; simp)
   rintro rfl
   have:=(glyph_not hg).2.2.2.1
   rw [lookup_not_name] at this
   cases this
 ·exact xc2_3 (tx "[") _ rfl ⟨by decide +kernel,by decide +kernel⟩ (by rw [show (tx "["==tx "[")=true from beq_self_eq_true _,Bool.true_or])
noncomputable def ItemR (σ₀ σ:St) (v:V) (it:ItemD):Prop:=∃ L,∃ toks:List (List Nat×Nat),v=itemV it.gs it.marked L∧σ₀ L=none∧σ L=some (.list (toks.map tokV))∧toks.map (·.1)=it.uses
theorem All2.append {α β:Type} {R:α→β→Prop} {l:List α} {m:List β} (h:All2 R l m) {x:α} {y:β} (r:R x y):All2 R (l++[x]) (m++[y]):=by
 induction h with
 | nil=>exact .cons r .nil
 | cons a _ ih=>exact .cons a ih
theorem All2.len {α β:Type} {R:α→β→Prop} {l:List α} {m:List β} (h:All2 R l m):l.length=m.length:=by
 induction h with
 | nil=>rfl
 | cons _ _ ih=>rw [List.length_cons,List.length_cons,ih]
theorem TailW.listLast {c:Cx} {k:Nat} {σ:St} {Q:V→St→Prop} {v i:Expr} {l:Addr} {vs:List V} {x:V} (hs:NoSlice i) (e:σ l=some (.list (vs++[x]))) (hz:vs.length < 2 ^ 60) (q:Q x σ):TailW c k v i (.ref l) (.int (-1)) σ Q:=by
 refine TailW.listNeg hs (.inl e) (by decide) (by simp; exact ar45) (by decide) ?_ q
 have:((-1:Int)+((vs++[x]).length:Nat)).toNat=vs.length:=by simp; exact ar46
 rw [this]
 simp
theorem TailW.listLast2 {c:Cx} {k:Nat} {σ:St} {Q:V→St→Prop} {v i:Expr} {l:Addr} {vs:List V} {x y:V} (hs:NoSlice i) (e:σ l=some (.list (vs++[x,y]))) (hz:vs.length < 2 ^ 60) (q:Q x σ):TailW c k v i (.ref l) (.int (-2)) σ Q:=by
 refine TailW.listNeg hs (.inl e) (by decide) (by simp; exact ar47) (by decide) ?_ q
 have:((-2:Int)+((vs++[x,y]).length:Nat)).toNat=vs.length:=by simp; exact ar48
 rw [this]
 simp
section
variable {c:Cx} {k:Nat} {σ:St} {Q:V→St→Prop}
variable {r d wl:Addr} {W:List (List Nat×Nat)} {nm:V} {n:Nat}
theorem ItemR.st {σ₀ σ₁ τ:St} {m:Nat} {v:V} {it:ItemD} (h:Rd σ₀ r d wl W nm n) (i:ItemR σ₀ σ₁ v it) (x:Ext (upM σ₁ d (rdD wl nm m)) τ):ItemR σ₀ τ v it:=by
 refine xi2 ?_ (i)
 intro L toks
 refine im4 ?_
 intro e f g u
 exact xc2_4 L toks e f (x.off (h.fresh f).1 g) u
theorem w_read_items (pc:PC c) (h:Rd σ r d wl W nm n) (kn:Knows c σ nm) {i0:ItemD} {its:List ItemD} {long:Bool} {w0:List Nat} {rest:List (List Nat)} (ok:∀ it∈i0::its,ItemOk it) (gm:goodMarks i0.marked false (its.map (·.marked))=true) (hz:its.length < 1000)
  (ah:Ahead W n (itemsW (i0::its) long++w0::rest)) (st:Stop w0) (st2:(w0==tx "["||isName w0)=false)
  (q:∀ σ' I vs,Ext (upM σ d (rdD wl nm (n+(itemsW (i0::its) long).length))) σ'→σ I=none→σ' I=some (.list vs)→All2 (ItemR σ σ') vs (i0::its)→Q (.ref I) σ'):CallC c (k+5) (.ref 345) [.ref r] σ Q:=by
 revert pc h kn ok gm hz ah st st2 q
 revert c; revert k; revert σ; revert Q; revert r; revert d; revert wl; revert W; revert nm; revert n; revert i0 its long w0 rest
 walk_at "close 15"
 intro i0 its long w0 rest n nm W wl d r Q σ k c pc h kn ok gm hz ah st st2 q
 have hd:∀ l:List ItemD,(∀ it∈l,ItemOk it)→∃ w ws,itemsW l long++w0::rest=w::ws∧Stop w∧((l=[]∧w=w0)∨(l≠[]∧(w==tx "["||isName w)=true)):=fun l hl=>by
  cases l with
  | nil=>exact ⟨w0,rest,rfl,st,.inl ⟨rfl,rfl⟩⟩
  | cons it r =>
   refine xi2 ?_ (itemW_head (hl it (by simp)) long)
   intro w ws
   refine im3 ?_
   intro e s1 s2
   refine xc2_3 w (ws++(itemsW r long++w0::rest)) ?_ s1 (.inr ⟨by simp,s2⟩)
   unfold itemsW
   rw [List.flatMap_cons,e]
   simp
 have ok':∀ it∈its,ItemOk it:=fun it hi=>ok it (by simp [hi])
 walk_at "def 1"
 walk_at "g"
 refine xi2 ?_ (hd its ok')
 intro w1 ws1
 refine im3 ?_
 intro e1 s1 _
 have ah0:Ahead W n (itemW i0 long++w1::ws1):=by
  rw [← e1,← List.append_assoc]
  exact ah
 refine (w_read_item pc h kn (ok i0 (by simp)) ah0 s1 fun σ₁ L0 toks0 ex hL0 eL0 et0=>?_).toW
 walk_at "g"
 intro I hI
 refine im2 ?_ (none_of_upd (ex.none hI))
 intro hId hI0
 have hLI:L0≠I:=by exact (neO hI eL0).symm
 have ahN:Ahead W (n+(itemW i0 long).length) (itemsW its long++w0::rest):=by
  have:Ahead W n (itemW i0 long++(itemsW its long++w0::rest)):=by rw [← List.append_assoc]; exact ah
  exact this.skip
 walk_at "g"
 let J:Nat→Loc→St→Prop:=fun m ρ' σ'=>∃ done rs,∃ l:ItemD,∃ vs0 L1 o,i0::its=done++rs∧m=rs.length∧ρ' "reader"=some (.ref r)∧ρ' "items"=some (.ref I)∧ρ' "is_over"=some (.bool o) ∧
   Ext (upM σ d (rdD wl nm (n+(itemsW done long).length))) σ'∧σ' I=some (.list (vs0++[itemV l.gs l.marked L1]))∧All2 (ItemR σ σ') (vs0++[itemV l.gs l.marked L1]) done∧goodMarks l.marked o (rs.map (·.marked))=true∧Ahead W (n+(itemsW done long).length) (itemsW rs long++w0::rest)
 refine SV.while J its.length
  ⟨[i0],its,i0,[],L0,false,rfl,rfl,?_,?_,?_,?_,upd_self _ _ _,.cons ⟨L0,toks0,rfl,hL0,by rw [upd_ne _ _ hLI]; exact eL0,et0⟩ .nil,gm,?_⟩ ?_
 ·walk_at "loc"
 ·walk_at "loc"
 ·walk_at "loc"
 ·refine Ext.bump ?_ (h.none hI0)
  have:itemsW [i0] long=itemW i0 long:=by unfold itemsW; simp
  rw [this]
  exact ex
 ·have:itemsW [i0] long=itemW i0 long:=by unfold itemsW; simp
  rw [this]
  exact ahN
 intro m ρ' σ'
 refine xi6 ?_
 intro done rs l vs0 L1 o
 refine im8 ?_
 intro e hq14
 obtain rfl:=hq14
 intro l1 l2 l3 ex3 eI
 refine im3 ?_
 intro al gm3 ah3
 have hR:=h.st ex3
 have okr:∀ it∈rs,ItemOk it:=fun it hi=>ok it (by rw [e]; simp [hi])
 refine xi2 ?_ (hd rs okr)
 intro w ws
 refine im3 ?_
 intro e4 s4 hw
 have ah4:=ah3
 rw [e4] at ah4
 refine xi1 ?_ (ah4.here)
 intro p hp
 walk_at "g"
 refine (w_starts_item pc hR hp ?_).toW
 walk_at "g"
 cases rs with
 | nil =>
  rcases hw with ⟨_,rfl⟩ | ⟨z,_⟩
  ·rw [st2]
   walk_at "g"
   rw [List.append_nil] at e
   rw [← e] at ex3 al
   exact q σ' I _ ex3 hI0 eI al
  ·exact absurd rfl z
 | cons it rs =>
  rcases hw with ⟨z,_⟩ | ⟨_,sw⟩
  ·cases z
  rw [sw]
  walk_at "g"
  refine xc1_2 _ (hR.a_at pc) ?_
  walk_at "g"
  refine xc1_2 _ (MethR.append (.inl eI)) ?_
  walk_at "g"
  refine xi2 ?_ (hd rs (fun x hx=>okr x (by simp [hx])))
  intro w5 ws5
  refine im3 ?_
  intro e5 s5 _
  have ah5:Ahead W (n+(itemsW done long).length) (itemW it long++w5::ws5):=by
   rw [← e5,← List.append_assoc]
   exact ah3
  refine (w_read_item pc hR (kn.st h ex3) (okr it (by simp)) ah5 s5 fun σ₅ L5 toks5 ex5 hL5 eL5 et5=>?_).toW
  have eI5:σ₅ I=some (.list (vs0++[itemV l.gs l.marked L1])):=ex5.off hId eI
  have hlen:=al.len
  have hvz:vs0.length+1 < 2000:=by
   have h1:(vs0++[itemV l.gs l.marked L1]).length=done.length:=hlen
   have h2:=congrArg List.length e
   simp at h1 h2
   exact ar49 hz h1 h2
  walk_at "g"
  refine CallW.append eI5 (by delta sizeLine; simp; exact ar50 hvz) ?_
  refine ⟨rfl,?_⟩
  have eI6:upM σ₅ I (.list (vs0++[itemV l.gs l.marked L1]++[itemV it.gs it.marked L5])) I=some (.list (vs0++[itemV l.gs l.marked L1]++[itemV it.gs it.marked L5])):=upd_self _ _ _
  have eI7:upM σ₅ I (.list (vs0++[itemV l.gs l.marked L1]++[itemV it.gs it.marked L5])) I=some (.list (vs0++[itemV l.gs l.marked L1,itemV it.gs it.marked L5])):=by rw [upd_self]; simp
  have hLI5:L5≠I:=neO hL5 eI
  have hL50:σ L5=none:=(none_of_upd (ex3.none hL5)).2
  simp only [List.map_cons,gm_cons,Bool.and_eq_true,Bool.not_eq_true'] at gm3
  refine im2 ?_ (gm3)
  intro g1 g2
  walk_at "st"
  walk_at "st"
  refine EV.mono' (Q:=fun v τ=>v=.bool (o||(l.marked&&!it.marked))∧τ=upM σ₅ I (.list (vs0++[itemV l.gs l.marked L1]++[itemV it.gs it.marked L5]))) ?_ ?_
  ·walk_at "g"
   refine ite_bool (fun ho=>?_) (fun ho=>?_)
   ·rw [ho]
    exact ⟨rfl,rfl⟩
   walk_at "g"
   refine TailW.listLast2 (fun _ _=>rfl) eI7 (by exact ar51 hvz) ?_
   walk_at "g"
   refine TailW.tup (m:=1) (fun _ _=>rfl) (by decide) (by decide) rfl rfl ?_
   walk_at "g"
   rw [ho,Bool.false_or]
   refine ite_bool (fun hm=>?_) (fun hm=>?_)
   ·walk_at "g"
    refine TailW.listLast (fun _ _=>rfl) eI6 (by simp; exact ar52 hvz) ?_
    walk_at "g"
    refine TailW.tup (m:=1) (fun _ _=>rfl) (by decide) (by decide) rfl rfl ?_
    walk_at "g"
    rw [hm,Bool.true_and]
    exact ⟨rfl,rfl⟩
   ·rw [hm,Bool.false_and]
    exact ⟨rfl,rfl⟩
  intro _ _
  refine im2 ?_
  intro hq15
  obtain rfl:=hq15
  intro hq16
  obtain rfl:=hq16
  walk_at "g"
  have eW:(itemsW (done++[it]) long).length=(itemsW done long).length+(itemW it long).length:=by unfold itemsW; simp
  have fin:∀ ρ₆:Loc,ρ₆ "reader"=some (.ref r)→ρ₆ "items"=some (.ref I)→ρ₆ "is_over"=some (.bool (o||(l.marked&&!it.marked)))→∃ m,m < (it::rs).length∧J m ρ₆ (upM σ₅ I (.list (vs0++[itemV l.gs l.marked L1]++[itemV it.gs it.marked L5]))):=fun ρ₆ k1 k2 k3=>by
   have al5:All2 (ItemR σ (upM σ₅ I (.list (vs0++[itemV l.gs l.marked L1]++[itemV it.gs it.marked L5])))) (vs0++[itemV l.gs l.marked L1]) done:=by
    refine al.imp fun v t z=>?_
    refine xi2 ?_ (ItemR.st h z ex5)
    intro La ta
    refine im4 ?_
    intro z1 z2 z3 z4
    refine xc2_4 La ta z1 z2 ?_ z4
    rw [upd_ne]
    exact z3
    rintro rfl
    refine xi2 ?_ (z)
    intro Lb tb
    refine im4 ?_
    intro y1 y2 y3 y4
    have:La=Lb:=by rw [z1] at y1; unfold itemV at y1; simpa using y1
    subst this
    rw [eI] at y3
    rw [eI5] at z3
    have y5:vs0++[itemV l.gs l.marked L1]=ta.map tokV:=by injection (Option.some.inj z3)
    have y6:itemV l.gs l.marked L1∈ta.map tokV:=by rw [← y5]; simp
    refine xi1 ?_ (List.mem_map.mp y6)
    intro pp
    refine im2 ?_
    intro _ y7
    unfold tokV itemV at y7
    simp at y7
   refine xc1_2 _ (Nat.lt_succ_self _) (xc6_1 (done++[it]) rs it (vs0++[itemV l.gs l.marked L1]) L5 (o||(l.marked&&!it.marked)) (xc0_8 (by rw [e]; simp) rfl k1 k2 k3 ?_ (upd_self _ _ _) (xc0_3 ?_ g2 ?_)))
   ·refine Ext.bump ?_ (h.none hI0)
    rw [eW,← Nat.add_assoc]
    exact ex3.over ex5
   ·exact al5.append ⟨L5,toks5,rfl,hL50,by rw [upd_ne _ _ hLI5]; exact eL5,et5⟩
   ·rw [eW,← Nat.add_assoc]
    have:Ahead W (n+(itemsW done long).length) (itemW it long++(itemsW rs long++w0::rest)):=by
     rw [← List.append_assoc]
     exact ah3
    exact this.skip
  refine ite_bool (fun ho=>?_) (fun ho=>?_)
  ·walk_at "g"
   refine TailW.listLast (fun _ _=>rfl) eI6 (by simp; exact ar52 hvz) ?_
   walk_at "g"
   refine TailW.tup (m:=1) (fun _ _=>rfl) (by decide) (by decide) rfl rfl ?_
   walk_at "g"
   rw [ho,Bool.true_and] at g1
   refine ite_bool (fun hm=>by rw [g1] at hm; cases hm) (fun _=>?_)
   walk_at "g"
   refine fin _ ?_ ?_ ?_ <;> walk_at "loc"
  ·walk_at "g"
   refine fin _ ?_ ?_ ?_ <;> walk_at "loc"
end
theorem putV_nil {n:Str} {v:V}:putV [] n v=[(n,v)]:=rfl
theorem putV_cons {m n:Str} {w v:V} {r:List (Str×V)} (h:(m==n)=false):putV ((m,w)::r) n v=(m,w)::putV r n v:=by
 show (if m=n then _ else _)=_
 rw [if_neg (by simpa using h)]
section
variable {c:Cx} {k:Nat} {σ:St} {Q:V→St→Prop}
noncomputable abbrev made (σ:St) (C x d:Addr) (es:List (Str×V)):St:=upM (upM σ x (.inst C d)) d (.dict es)
theorem made_eq {σ:St} {C x d:Addr} {es es':List (Str×V)} (n:x≠d):upM (upM (upM σ d (.dict es)) x (.inst C d)) d (.dict es')=made σ C x d es':=by
 funext a
 unfold made upM
 by_cases h1:a=d <;> by_cases h2:a=x <;> simp [h1,h2]
theorem made_x {σ:St} {C x d:Addr} {es:List (Str×V)} (n:x≠d):made σ C x d es x=some (.inst C d):=by
 unfold made; rw [upd_ne _ _ n]; exact upd_self _ _ _
theorem made_put {σ:St} {C x d:Addr} {es es':List (Str×V)}:upM (made σ C x d es) d (.dict es')=made σ C x d es':=by
 unfold made; rw [upd_upd]
theorem w_RuleRow (pc:PC c) {a b:V} (q:∀ x d,σ x=none→σ d=none→x≠d→Q (.ref x) (made σ 166 x d [("kind",a),("parts",b)])):CallC c (k+2) (.ref 166) [a,b] σ Q:=by
 revert pc q
 revert c; revert k; revert σ; revert Q; revert a b
 walk_at "close 6"
 intro a b Q σ k c pc q
 refine CallC.make (mk_RuleRow pc) (in_RuleRow pc).1 (in_RuleRow pc).2 fun x d hx hd hxd=>?_
 walk_at "def 3"
 walk_at "g"
 refine xc4_1 x 166 d [] (xc0_7 rfl (upd_self _ _ _) ((upd_ne _ _ (Ne.symm hxd)).trans (upd_self _ _ _)) (pl_RuleRow pc) (fa_RuleRow_kind pc) (by simp) ?_)
 rw [putV_nil,made_eq hxd]
 walk_at "g"
 refine xc4_1 x 166 d _ (xc0_7 rfl (made_x hxd) (upd_self _ _ _) (pl_RuleRow pc) (fa_RuleRow_parts pc) (by simp) ?_)
 rw [putV_cons (by decide +kernel),putV_nil,made_put]
 walk_at "g"
 exact ⟨rfl,q x d hx hd hxd⟩
theorem w_RuleTree (pc:PC c) {a b:V} (q:∀ x d,σ x=none→σ d=none→x≠d→Q (.ref x) (made σ 84 x d [("lookups",a),("features",b)])):CallC c (k+2) (.ref 84) [a,b] σ Q:=by
 revert pc q
 revert c; revert k; revert σ; revert Q; revert a b
 walk_at "close 6"
 intro a b Q σ k c pc q
 refine CallC.make (mk_RuleTree pc) (in_RuleTree pc).1 (in_RuleTree pc).2 fun x d hx hd hxd=>?_
 walk_at "def 3"
 walk_at "g"
 refine xc4_1 x 84 d [] (xc0_7 rfl (upd_self _ _ _) ((upd_ne _ _ (Ne.symm hxd)).trans (upd_self _ _ _)) (pl_RuleTree pc) (fa_RuleTree_lookups pc) (by simp) ?_)
 rw [putV_nil,made_eq hxd]
 walk_at "g"
 refine xc4_1 x 84 d _ (xc0_7 rfl (made_x hxd) (upd_self _ _ _) (pl_RuleTree pc) (fa_RuleTree_features pc) (by simp) ?_)
 rw [putV_cons (by decide +kernel),putV_nil,made_put]
 walk_at "g"
 exact ⟨rfl,q x d hx hd hxd⟩
theorem w_LookupBlock (pc:PC c) {a b e:V} (q:∀ x d,σ x=none→σ d=none→x≠d→Q (.ref x) (made σ 124 x d [("name",a),("flag",b),("rows",e)])):CallC c (k+2) (.ref 124) [a,b,e] σ Q:=by
 revert pc q
 revert c; revert k; revert σ; revert Q; revert a b e
 walk_at "close 7"
 intro a b e Q σ k c pc q
 refine CallC.make (mk_LookupBlock pc) (in_LookupBlock pc).1 (in_LookupBlock pc).2 fun x d hx hd hxd=>?_
 walk_at "def 4"
 walk_at "g"
 refine xc4_1 x 124 d [] (xc0_7 rfl (upd_self _ _ _) ((upd_ne _ _ (Ne.symm hxd)).trans (upd_self _ _ _)) (pl_LookupBlock pc) (fa_LookupBlock_name pc) (by simp) ?_)
 rw [putV_nil,made_eq hxd]
 walk_at "g"
 refine xc4_1 x 124 d _ (xc0_7 rfl (made_x hxd) (upd_self _ _ _) (pl_LookupBlock pc) (fa_LookupBlock_flag pc) (by simp) ?_)
 rw [putV_cons (by decide +kernel),putV_nil,made_put]
 walk_at "g"
 refine xc4_1 x 124 d _ (xc0_7 rfl (made_x hxd) (upd_self _ _ _) (pl_LookupBlock pc) (fa_LookupBlock_rows pc) (by simp) ?_)
 rw [putV_cons (by decide +kernel),putV_cons (by decide +kernel),putV_nil,made_put]
 walk_at "g"
 exact ⟨rfl,q x d hx hd hxd⟩
theorem w_FeatureRow (pc:PC c) {a b e f:V} (q:∀ x d,σ x=none→σ d=none→x≠d→Q (.ref x) (made σ 194 x d [("tag",a),("script",b),("language",e),("lookups",f)])):CallC c (k+2) (.ref 194) [a,b,e,f] σ Q:=by
 revert pc q
 revert c; revert k; revert σ; revert Q; revert a b e f
 walk_at "close 8"
 intro a b e f Q σ k c pc q
 refine CallC.make (mk_FeatureRow pc) (in_FeatureRow pc).1 (in_FeatureRow pc).2 fun x d hx hd hxd=>?_
 walk_at "def 5"
 walk_at "g"
 refine xc4_1 x 194 d [] (xc0_7 rfl (upd_self _ _ _) ((upd_ne _ _ (Ne.symm hxd)).trans (upd_self _ _ _)) (pl_FeatureRow pc) (fa_FeatureRow_tag pc) (by simp) ?_)
 rw [putV_nil,made_eq hxd]
 walk_at "g"
 refine xc4_1 x 194 d _ (xc0_7 rfl (made_x hxd) (upd_self _ _ _) (pl_FeatureRow pc) (fa_FeatureRow_script pc) (by simp) ?_)
 rw [putV_cons (by decide +kernel),putV_nil,made_put]
 walk_at "g"
 refine xc4_1 x 194 d _ (xc0_7 rfl (made_x hxd) (upd_self _ _ _) (pl_FeatureRow pc) (fa_FeatureRow_language pc) (by simp) ?_)
 rw [putV_cons (by decide +kernel),putV_cons (by decide +kernel),putV_nil,made_put]
 walk_at "g"
 refine xc4_1 x 194 d _ (xc0_7 rfl (made_x hxd) (upd_self _ _ _) (pl_FeatureRow pc) (fa_FeatureRow_lookups pc) (by simp) ?_)
 rw [putV_cons (by decide +kernel),putV_cons (by decide +kernel),putV_cons (by decide +kernel),putV_nil,made_put]
 walk_at "g"
 exact ⟨rfl,q x d hx hd hxd⟩
theorem w_RuleReader (pc:PC c) {t:List Nat} {nm:V} {l:List (List Nat×Nat)} (ht:t.length < 2 ^ 24) (h:TokAt t (skipTo t 0) l) (hl:l.length < 2 ^ 24)
  (q:∀ x d m,σ x=none→σ d=none→σ m=none→x≠d→m≠x→m≠d→Q (.ref x) (upM (upM (upM σ x (.inst 313 d)) m (.list (l.map tokV))) d (rdD m nm 0))):CallC c (k+5) (.ref 313) [.str t,nm] σ Q:=by
 revert pc ht h hl q
 revert c; revert k; revert σ; revert Q; revert nm; revert t l
 walk_at "close 7"
 intro t l nm Q σ k c pc ht h hl q
 refine CallC.make (mk_RuleReader pc) (in_RuleReader pc).1 (in_RuleReader pc).2 fun x d hx hd hxd=>?_
 walk_at "def 3"
 walk_at "g"
 refine (w_words_of_text pc ht h hl fun m hm=>?_).toW
 refine im2 ?_ (none_of_upd hm)
 intro hmx hm1
 refine im2 ?_ (none_of_upd hm1)
 intro hmd hm2
 walk_at "g"
 have e1:∀ es,upM (upM (upM (upM σ d (.dict [])) x (.inst 313 d)) m (.list (l.map tokV))) d (.dict es)=upM (upM (upM σ x (.inst 313 d)) m (.list (l.map tokV))) d (.dict es):=fun es=>by
  funext a
  unfold upM
  by_cases h1:a=d <;> by_cases h2:a=m <;> by_cases h3:a=x <;> simp [h1,h2,h3]
 refine xc4_1 x 313 d [] (xc0_7 rfl ((upd_ne _ _ (Ne.symm hmx)).trans (upd_self _ _ _)) (by rw [upd_ne _ _ (Ne.symm hmd),upd_ne _ _ (Ne.symm hxd)]; exact upd_self _ _ _) (pl_RuleReader pc) (fa_RuleReader_words pc) (by simp) ?_)
 rw [putV_nil,e1]
 have ex:∀ es,upM (upM (upM σ x (.inst 313 d)) m (.list (l.map tokV))) d (.dict es) x=some (.inst 313 d):=fun es=>by rw [upd_ne _ _ hxd,upd_ne _ _ (Ne.symm hmx)]; exact upd_self _ _ _
 walk_at "g"
 refine xc4_1 x 313 d _ (xc0_7 rfl (ex _) (upd_self _ _ _) (pl_RuleReader pc) (fa_RuleReader_names pc) (by simp) ?_)
 rw [putV_cons (by decide +kernel),putV_nil,upd_upd]
 walk_at "g"
 refine xc4_1 x 313 d _ (xc0_7 rfl (ex _) (upd_self _ _ _) (pl_RuleReader pc) (fa_RuleReader_at pc) (by simp) ?_)
 rw [putV_cons (by decide +kernel),putV_cons (by decide +kernel),putV_nil,upd_upd]
 walk_at "g"
 exact ⟨rfl,q x d m hx hd hm2 hxd hmx hmd⟩
end
section
variable {c:Cx} {k:Nat} {sc:Scope} {ρ:Loc} {σ:St} {Q:V→St→Prop}
theorem CompQ.gen {elt target:Expr} {ifs:List Expr} {scope:Scope} {items:List V} {Ok:St→Prop} {σ₁:St} (p:V→Bool) (f:V→V) (hz:items.length < 2 ^ 24) (hOk:∀ τ,Ext σ₁ τ→Ok τ)
  (step:∀ x∈items,∀ τ,Ext σ₁ τ→∃ ρ',CTg (compScope sc scope) target x (compLoc scope ρ) ρ'∧CondV c k (compScope sc scope) ρ' τ (fun b τ'=>b=p x∧Ext τ τ'∧(b=true→EV c k elt (compScope sc scope) ρ' τ' fun v τ''=>v=f x∧Ext τ' τ'')) ifs)
  (q:∀ D τ,σ₁ D=none→Ext σ₁ τ→τ D=some (.list ((items.filter p).map f))→Q (.ref D) τ):CompQ c k elt target ifs scope sc ρ Q items Ok σ₁:=by
 revert hz hOk step q
 revert c; revert k; revert sc; revert ρ; revert Q; revert elt target ifs scope items Ok σ₁ p f
 walk_at "close 14"
 intro elt target ifs scope items Ok σ₁ p f Q ρ sc k c hz hOk step q
 refine ⟨by delta sizeLine; exact ar53 hz,fun D hD=>?_⟩
 refine xc1_4 (fun i acc τ=>i≤items.length∧Ext σ₁ τ∧τ D=some (.list acc)∧acc=((items.take i).filter p).map f) ⟨Nat.zero_le _,Ext.fresh hD,upd_self _ _ _,rfl⟩ ?_ ?_ ?_
 ·intro i acc τ
  refine im4 ?_
  intro h1 h2 h3 hq17
  obtain rfl:=hq17
  refine xc0_3 (hOk τ h2) h3 ?_
  rw [List.length_map]
  exact Nat.le_trans (List.length_filter_le _ _) (by rw [List.length_take]; exact ar54)
 ·intro i acc τ x hx
  refine im4 ?_
  intro h1 h2 h3 h4
  have hlt:=(List.getElem?_eq_some_iff.mp hx).1
  have hm:x∈items:=(List.getElem?_eq_some_iff.mp hx).2 ▸ List.getElem_mem hlt
  have hx2:=(List.getElem?_eq_some_iff.mp hx).2
  refine xi1 ?_ (step x hm τ h2)
  intro ρ'
  refine im2 ?_
  intro tg cd
  refine xc1_2 ρ' tg ?_
  have tk:items.take (i+1)=items.take i++[x]:=by rw [List.take_add_one,hx]; rfl
  have go:∀ b τ',(b=p x∧Ext τ τ'∧(b=true→EV c k elt (compScope sc scope) ρ' τ' fun v τ''=>v=f x∧Ext τ' τ'')) →
    if b=true then EV c k elt (compScope sc scope) ρ' τ' fun v τ''=>τ'' D=some (.list acc)∧(i+1≤items.length∧Ext σ₁ (upM τ'' D (.list (acc++[v])))∧upM τ'' D (.list (acc++[v])) D=some (.list (acc++[v]))∧acc++[v]=((items.take (i+1)).filter p).map f)
    else (i+1≤items.length∧Ext σ₁ τ'∧τ' D=some (.list acc)∧acc=((items.take (i+1)).filter p).map f):=by
   intro b τ'
   refine im3 ?_
   intro hb e1 hE
   cases b with
   | true =>
    rw [if_pos rfl]
    refine (hE rfl).mono fun v τ'' z=>?_
    refine im2 ?_ (z)
    intro hq18
    obtain rfl:=hq18
    intro e2
    refine xc0_5 (e2 _ _ (e1 _ _ h3)) hlt (Ext.bump ((h2.trans e1).trans e2) hD) (upd_self _ _ _) ?_
    rw [tk,List.filter_append,List.map_append,h4]
    simp [← hb]
   | false =>
    rw [if_neg (by decide)]
    refine xc0_4 hlt (h2.trans e1) (e1 _ _ h3) ?_
    rw [tk,List.filter_append,List.map_append,← h4]
    simp [← hb]
  match ifs,cd with
  | [],cd=>exact go true τ cd
  | [t],cd=>exact TV.mono cd go
 ·intro acc τ
  refine im4 ?_
  intro h1 h2 h3 h4
  rw [List.take_length] at h4
  exact q D τ hD h2 (by rw [h3,h4])
theorem CompQ.map {elt target:Expr} {scope:Scope} {items:List V} {Ok:St→Prop} {σ₁:St} (f:V→V) (hz:items.length < 2 ^ 24) (hOk:∀ τ,Ext σ₁ τ→Ok τ)
  (step:∀ x∈items,∀ τ,Ext σ₁ τ→∃ ρ',CTg (compScope sc scope) target x (compLoc scope ρ) ρ'∧EV c k elt (compScope sc scope) ρ' τ fun v τ'=>v=f x∧Ext τ τ')
  (q:∀ D τ,σ₁ D=none→Ext σ₁ τ→τ D=some (.list (items.map f))→Q (.ref D) τ):CompQ c k elt target [] scope sc ρ Q items Ok σ₁:=by
 refine CompQ.gen (fun _=>true) f hz hOk (fun x hx τ ex=>?_) (fun D τ hD ex e=>q D τ hD ex (by rw [e,List.filter_eq_self.mpr (fun _ _=>rfl)]))
 refine xi1 ?_ (step x hx τ ex)
 intro ρ'
 refine im2 ?_
 intro tg h
 exact xc1_4 ρ' tg rfl (Ext.refl _) (fun _=>h)
theorem okList {σ₁:St} {l:Addr} {items:List V} (e:σ₁ l=some (.list items)):∀ τ,Ext σ₁ τ→(τ l=some (.list items)∨τ l=some (.frozen items)):=fun τ ex=>.inl (ex _ _ e)
end
section
variable {c:Cx} {k:Nat} {σ:St} {Q:V→St→Prop}
variable {r d wl:Addr} {W:List (List Nat×Nat)} {nm:V} {n m:Nat}
noncomputable def ItemL (v:V) (it:ItemD):Prop:=∃ L,v=itemV it.gs it.marked L
theorem ItemR.l {σ₀ σ:St} {v:V} {it:ItemD} (h:ItemR σ₀ σ v it):ItemL v it:=let ⟨L,_,e,_⟩:=h; ⟨L,e⟩
noncomputable def markV:V→Bool
 | .tup [_,.bool b,_]=>b
 | _=>false
noncomputable def firstV:V→V
 | .tup (x::_)=>x
 | v=>v
theorem all2_mem {α β:Type} {R:α→β→Prop} {l:List α} {m:List β} (h:All2 R l m) {x:α} (hx:x∈l):∃ y∈m,R x y:=by
 induction h with
 | nil=>simp at hx
 | cons a _ ih =>
  rcases List.mem_cons.mp hx with rfl | hx
  ·exact xc1_2 _ List.mem_cons_self a
  ·refine xi1 ?_ (ih hx)
   intro y
   refine im2 ?_
   intro hy z
   exact xc1_2 y (List.mem_cons_of_mem _ hy) z
theorem w_is_marked (pc:PC c) {I:Addr} {vs:List V} {its:List ItemD} (e:σ I=some (.list vs)) (al:All2 ItemL vs its) (hz:its.length < 2000) (q:∀ σ',Ext σ σ'→Q (.bool (its.any (·.marked))) σ'):CallC c (k+1) (.ref 362) [.ref I] σ Q:=by
 revert pc e al hz q
 revert c; revert k; revert σ; revert Q; revert I vs its
 walk_at "close 7"
 intro I vs its Q σ k c pc e al hz q
 have hl:=al.len
 walk_at "def 1"
 walk_at "g"
 refine EV.compE (by decide +kernel) (fun _ _=>rfl) ?_ ?_
 ·walk_at "cap"
 refine IT.list ?_
 walk_at "g"
 refine xc2_3 I vs rfl (.inl e) ?_
 refine CompQ.gen markV id (by exact ar55 hz hl) (okList e) (fun x hx τ ex=>?_) fun D τ hD ex eD=>?_
 ·refine xi1 ?_ (all2_mem al hx)
  intro it
  refine im2 ?_
  intro _
  refine xi1 ?_
  intro L hq19
  obtain rfl:=hq19
  refine xc1_2 _ (CTg.name (by decide +kernel)) ?_
  walk_at "g"
  refine TailW.tup (m:=1) (fun _ _=>rfl) (by decide) (by decide) rfl rfl ?_
  walk_at "g"
  refine xc0_3 rfl (Ext.refl _) (fun _=>?_)
  walk_at "g"
  exact ⟨rfl,Ext.refl _⟩
 ·walk_at "g"
  intro m hm
  have hDm:D≠m:=by exact (neO hm eD).symm
  refine Op2.neNil (.inl ((upd_ne _ _ hDm).trans eD)) (.inl (upd_self _ _ _)) ?_
  have:(!((vs.filter markV).map id).isEmpty)=its.any (·.marked):=by
   clear hz hl e ex eD q
   induction al with
   | nil=>rfl
   | cons a al ih =>
    refine xi1 ?_ (a)
    intro L hq20
    obtain rfl:=hq20
    rw [List.filter_cons,List.any_cons]
    rename_i it as bs
    cases hm:it.marked with
    | true=>rw [show markV (itemV it.gs true L)=true from rfl,if_pos rfl]; simp [hm]
    | false =>
     rw [show markV (itemV it.gs false L)=false from rfl,if_neg (by decide),Bool.false_or]; exact ih
  rw [this]
  exact q _ (ex.trans (Ext.fresh hm))
theorem w_refuse_sets (pc:PC c) (h:Rd σ r d wl W nm (n+m)) (hb:∀ i,i < m→∃ w p,W[n+i]?=some (w,p)∧w≠tx "[") (hn:n+m < 2 ^ 24) (q:Q .none σ):CallC c (k+1) (.ref 384) [.ref r,.int n] σ Q:=by
 revert pc h hb hn q
 revert c; revert k; revert σ; revert Q; revert r; revert d; revert wl; revert W; revert nm; revert n; revert m
 walk_at "close 11"
 intro m n nm W wl d r Q σ k c pc h hb hn q
 walk_at "def 2"
 walk_at "st"
 refine SV.for (fun _ _=>rfl) ?_
 refine IT.range2 rfl (by decide +kernel) (gn_range pc) rfl rfl ?_
 walk_at "g"
 refine xc1_2 _ (h.a_at pc) ?_
 walk_at "g"
 refine xc2_3 n m rfl (by exact ar15 hn) ?_
 refine xc1_4 (fun i ρ' σ'=>ρ' "reader"=some (.ref r)∧σ'=σ) ⟨by walk_at "loc",rfl⟩ (fun _ _ _ _=>trivial) ?_ ?_
 ·intro i ρ' σ' x hx
  refine im2 ?_
  intro l1 hq21
  obtain rfl:=hq21
  refine im2 ?_ (rangeV_get hx)
  intro hi hq22
  obtain rfl:=hq22
  refine xi2 ?_ (hb i hi)
  intro w p
  refine im2 ?_
  intro hw hne
  have a1:(W.map tokV)[((n+i:Nat):Int).toNat]?=some (tokV (w,p)):=by rw [Int.toNat_natCast,List.getElem?_map,hw]; rfl
  walk_at "g"
  refine xc1_2 _ (h.a_words pc) ?_
  walk_at "g"
  refine TailW.list (j:=((n+i:Nat):Int)) (fun _ _=>rfl) (.inl h.words) (by exact ar20) (by exact ar56 hn hi) a1 ?_
  walk_at "g"
  refine TailW.tup (m:=0) (fun _ _=>rfl) (by decide) (by decide) rfl rfl ?_
  walk_at "g"
  rw [show ((w,p).1==(Str.ofString "[").cps.toList)=false from beq_eq_false_iff_ne.mpr hne]
  walk_at "g"
  exact ⟨by walk_at "loc",rfl⟩
 ·intro ρ' σ'
  refine im2 ?_
  intro _ hq23
  obtain rfl:=hq23
  walk_at "g"
  exact q
theorem w_read_names (pc:PC c) (h:Rd σ r d wl W nm n) (kn:Knows c σ nm) {g:List Nat} {gs rest:List (List Nat)} {w0:List Nat} (hg:∀ x∈g::gs,x∈c_glyphs) (hz:gs.length < 1000) (ah:Ahead W n (g::gs++w0::rest)) (st:isName w0=false)
  (q:∀ σ',Ext (upM σ d (rdD wl nm (n+gs.length+1))) σ'→Q (.tup (strVs (g::gs))) σ'):CallC c (k+3) (.ref 357) [.ref r] σ Q:=by
 revert pc h kn hg hz ah st q
 revert c; revert k; revert σ; revert Q; revert r; revert d; revert wl; revert W; revert nm; revert n; revert g gs rest w0
 walk_at "close 14"
 intro g gs rest w0 n nm W wl d r Q σ k c pc h kn hg hz ah st q
 walk_at "def 1"
 walk_at "g"
 refine xc1_2 _ (h.meth pc (me_RuleReader_glyph pc) (ke_RuleReader_glyph pc) rfl) ?_
 walk_at "g"
 refine xi1 ?_ (Ahead.here ah)
 intro p hp
 refine (w_glyph pc h hp (hg g (by simp)) kn ?_).toW
 walk_at "g"
 intro D hD
 refine im2 ?_ (none_of_upd hD)
 intro hDd hD0
 walk_at "g"
 refine SV.while (fun m ρ' σ'=>∃ done rs,gs=done++rs∧m=rs.length∧ρ' "reader"=some (.ref r)∧ρ' "found"=some (.ref D)∧Ext (upM σ d (rdD wl nm (n+1+done.length))) σ'∧σ' D=some (.list (strVs (g::done)))) gs.length
  ⟨[],gs,rfl,rfl,?_,?_,Ext.bump (Ext.refl _) (h.none hD0),upd_self _ _ _⟩ ?_
 ·walk_at "loc"
 ·walk_at "loc"
 intro m ρ' σ'
 refine xi2 ?_
 intro done rs
 refine im6 ?_
 intro e hq24
 obtain rfl:=hq24
 intro l1 l2 ex eD
 have hR:=h.st ex
 have ah':Ahead W (n+1+done.length) (rs++w0::rest):=by
  have h1:Ahead W (n+1) (done++(rs++w0::rest)):=by
   have:=Ahead.next ah
   rw [e] at this
   simpa using this
  exact h1.skip
 walk_at "g"
 refine xc1_2 _ (hR.meth pc (me_RuleReader_word pc) (ke_RuleReader_word pc) rfl) ?_
 walk_at "g"
 cases rs with
 | nil =>
  refine xi1 ?_ (Ahead.here ah')
  intro p hp
  refine im4 ?_ (hR.at hp)
  intro a1 a2 a3 a4
  refine (w_word pc hR hp ?_).toW
  walk_at "g"
  refine (w_is_name pc a3 (by exact ar15 a4) ?_).toW
  rw [st]
  walk_at "g"
  rw [List.append_nil] at e
  refine CallW.tupList (.inl eD) (by delta sizeLine; rw [← e]; simp [strVs]; exact ar57 hz) ?_
  rw [← e]
  refine q _ ?_
  rw [← e] at ex
  rw [show n+gs.length+1=n+1+gs.length by exact ar58]; exact ex
 | cons x rs =>
  have hx:x∈c_glyphs:=hg x (by rw [e]; simp)
  refine xi1 ?_ (Ahead.here ah')
  intro p hp
  refine im4 ?_ (hR.at hp)
  intro a1 a2 a3 a4
  refine (w_word pc hR hp ?_).toW
  walk_at "g"
  refine (w_is_name pc a3 (by exact ar15 a4) ?_).toW
  rw [(glyph_not hx).2.2.2.1]
  walk_at "g"
  refine xc1_2 _ (MethR.append (.inl eD)) ?_
  walk_at "g"
  refine xc1_2 _ (hR.meth pc (me_RuleReader_glyph pc) (ke_RuleReader_glyph pc) rfl) ?_
  walk_at "g"
  refine (w_glyph pc hR hp hx (kn.st h ex) ?_).toW
  walk_at "g"
  refine CallW.append ((upd_ne _ _ hDd).trans eD) (by delta sizeLine; simp [strVs]; rw [e] at hz; simp at hz; exact ar59 hz) ?_
  refine ⟨rfl,?_⟩
  walk_at "g"
  refine xc1_2 _ (Nat.lt_succ_self _) (xc2_6 (done++[x]) rs (by rw [e]; simp) rfl l1 l2 ?_ ?_)
  ·refine Ext.bump ?_ (h.none hD0)
   rw [List.length_append,List.length_singleton,← Nat.add_assoc]
   exact ex.over (Ext.refl _)
  ·rw [upd_self]
   simp [strVs]
end
inductive RowD where
 | single (a b:List Nat)
 | multiple (a:List Nat) (bs:List (List Nat))
 | alternate (a:List Nat) (bs:List (List Nat))
 | ligature (as:List (List Nat)) (b:List Nat)
 | adjust (a:List Nat) (w:Worth)
 | pair (a b:List Nat) (w:Worth)
 | chain (word:List Nat) (back:List (List (List Nat))) (inside:List (List (List Nat)×List (List Nat))) (ahead:List (List (List Nat)))
noncomputable def acts (i:Nat):List (List (List Nat)×List (List Nat))→List (Nat×List Nat)
 | []=>[]
 | p::r=>p.2.map (fun u=>(i,u))++acts (i+1) r
theorem acts_one {i:Nat} {p:List (List Nat)×List (List Nat)}:acts i [p]=p.2.map (fun u=>(i,u)):=List.append_nil _
noncomputable def actV (p:Nat×List Nat):V:=.tup [.int p.1,.str p.2]
noncomputable def setsV (l:List (List (List Nat))):V:=.tup (l.map fun g=>V.tup (strVs g))
noncomputable def kindT:RowD→List Nat
 | .single ..=>tx "single"
 | .multiple ..=>tx "multiple"
 | .alternate ..=>tx "alternate"
 | .ligature ..=>tx "ligature"
 | .adjust ..=>tx "adjust"
 | .pair ..=>tx "pair"
 | .chain ..=>tx "chain"
noncomputable def partsV:RowD→List V
 | .single a b=>[.str a,.str b]
 | .multiple a bs=>[.str a,.tup (strVs bs)]
 | .alternate a bs=>[.str a,.tup (strVs bs)]
 | .ligature as b=>[.tup (strVs as),.str b]
 | .adjust a w=>[.str a,worthV w]
 | .pair a b w=>[.str a,.str b,worthV w]
 | .chain word back inside ahead=>[.str word,setsV back,setsV (inside.map (·.1)),setsV ahead,.tup ((acts 0 inside).map actV)]
noncomputable abbrev rowDict (row:RowD):MObj:=.dict [("kind",.str (kindT row)),("parts",.tup (partsV row))]
noncomputable def RowR (σ:St) (R:Addr) (row:RowD):Prop:=∃ d,σ R=some (.inst 166 d)∧σ d=some (rowDict row)
theorem RowR.ext {σ τ:St} {R:Addr} {row:RowD} (h:RowR σ R row) (x:Ext σ τ):RowR τ R row:=let ⟨d,a,b⟩:=h; ⟨d,x _ _ a,x _ _ b⟩
theorem RowR.off {σ τ:St} {R a:Addr} {o o':MObj} {row:RowD} (h:RowR σ R row) (e:σ a=some o) (n1:∀ d,o≠.inst 166 d) (n2:o≠rowDict row) (x:Ext (upM σ a o') τ):RowR τ R row:=by
 refine xi1 ?_ (h)
 intro d
 refine im2 ?_
 intro h1 h2
 refine xc1_2 d (x.off ?_ h1) (x.off ?_ h2)
 ·rintro rfl
  rw [e] at h1
  cases h1
  exact n1 _ rfl
 ·rintro rfl
  rw [e] at h2
  cases h2
  exact n2 rfl
section
variable {c:Cx} {k:Nat} {σ:St} {Q:V→St→Prop}
variable {r d wl:Addr} {W:List (List Nat×Nat)} {nm:V} {n m:Nat}
theorem RowR.st {τ:St} {R:Addr} {row:RowD} (hr:RowR σ R row) (h:Rd σ r d wl W nm n) (x:Ext (upM σ d (rdD wl nm m)) τ):RowR τ R row :=
 hr.off h.dict (fun _ e=>by cases e) (fun e=>by cases e) x
theorem made_row {x dd:Addr} {row:RowD} (h:x≠dd):RowR (made σ 166 x dd [("kind",.str (kindT row)),("parts",.tup (partsV row))]) x row:=⟨dd,made_x h,upd_self _ _ _⟩
theorem made_ext {C x dd:Addr} {es:List (Str×V)} (hx:σ x=none) (hd:σ dd=none) (n:x≠dd):Ext σ (made σ C x dd es):=(Ext.fresh hx).trans (Ext.fresh ((upd_ne _ _ (Ne.symm n)).trans hd))
noncomputable def plainIt (a:List Nat):ItemD:=⟨[a],false,[]⟩
noncomputable def head2:V→V
 | .tup (.tup (x::_)::_)=>x
 | v=>v
theorem plain_heads {vs:List V} {as:List (List Nat)} (al:All2 ItemL vs (as.map plainIt)):vs.map head2=strVs as:=by
 induction as generalizing vs with
 | nil=>cases al; rfl
 | cons a r ih =>
  cases al with
  | cons h t =>
   refine xi1 ?_ (h)
   intro L hq25
   obtain rfl:=hq25
   rw [List.map_cons,ih t]
   rfl
theorem plain_at {vs:List V} {as:List (List Nat)} (al:All2 ItemL vs (as.map plainIt)) {x:V} (hx:x∈vs):∃ a L,x=itemV [a] false L:=by
 refine xi1 ?_ (all2_mem al hx)
 intro it
 refine im2 ?_
 intro hi
 refine xi1 ?_
 intro L hq26
 obtain rfl:=hq26
 refine xi1 ?_ (List.mem_map.mp hi)
 intro a
 refine im2 ?_
 intro _ hq27
 obtain rfl:=hq27
 exact xc2_1 a L rfl
theorem w_read_position_row (pc:PC c) (h:Rd σ r d wl W nm n) {I:Addr} {vs:List V} {as:List (List Nat)} (e:σ I=some (.list vs)) (al:All2 ItemL vs (as.map plainIt)) {row:RowD} {w:Worth} {long:Bool} {rest:List (List Nat)}
  (hrow:(∃ a,as=[a]∧row=.adjust a w)∨∃ a b,as=[a,b]∧row=.pair a b w) (ok:worthOk w=true) (ah:Ahead W n (worthW w long++rest))
  (q:∀ σ' R,Ext (upM σ d (rdD wl nm (n+(worthW w long).length))) σ'→RowR σ' R row→Q (.ref R) σ'):CallC c (k+5) (.ref 377) [.ref r,.ref I] σ Q:=by
 revert pc h e al hrow ok ah q
 revert c; revert k; revert σ; revert Q; revert r; revert d; revert wl; revert W; revert nm; revert n; revert I vs as row w long rest
 walk_at "close 17"
 intro I vs as row w long rest n nm W wl d r Q σ k c pc h e al hrow ok ah q
 have hl:vs.length=as.length:=by have:=al.len; simpa using this
 have hz:as.length=1∨as.length=2:=by rcases hrow with ⟨a,rfl,_⟩ | ⟨a,b,rfl,_⟩ <;> simp
 walk_at "def 2"
 walk_at "g"
 refine EV.compE (by decide +kernel) (fun _ _=>rfl) ?_ ?_
 ·walk_at "cap"
 refine IT.list ?_
 walk_at "g"
 refine xc2_3 I vs rfl (.inl e) ?_
 refine CompQ.map head2 (by exact ar60 hl hz) (okList e) (fun x hx τ ex=>?_) fun D τ hD ex eD=>?_
 ·refine xi2 ?_ (plain_at al hx)
  intro a L hq28
  obtain rfl:=hq28
  refine xc1_2 _ (CTg.name (by decide +kernel)) ?_
  walk_at "g"
  refine TailW.tup (m:=0) (fun _ _=>rfl) (by decide) (by decide) rfl rfl ?_
  walk_at "g"
  refine TailW.tup (m:=0) (fun _ _=>rfl) (by decide) (by simp) rfl rfl ?_
  exact ⟨rfl,Ext.refl _⟩
 rw [plain_heads al] at eD
 walk_at "g"
 refine CallW.tupList (.inl eD) (by delta sizeLine; simp [strVs]; exact ar61 hz) ?_
 walk_at "g"
 refine CallW.lenTup (by simp [strVs]; exact ar62 hz) ?_
 walk_at "g"
 refine ite_dec (fun hh=>by simp [strVs] at hh; exact (ar63 hz hh).elim) (fun _=>?_)
 walk_at "g"
 refine CallW.lenTup (by simp [strVs]; exact ar62 hz) ?_
 walk_at "g"
 have hR:=h.ext ex
 have fin:∀ {kk:Nat} {Q':V→St→Prop},(∀ σ',Ext (upM σ d (rdD wl nm (n+(worthW w long).length))) σ'→Q' (worthV w) σ')→CallC c (kk+4) (.ref 372) [.ref r] τ Q':=fun q' =>
  w_read_worth pc hR ok ah fun σ' ex'=>q' σ' ((ex.upd d _).trans ex')
 rcases hrow with ⟨a,rfl,rfl⟩ | ⟨a,b,rfl,rfl⟩
 ·rw [show ((((strVs [a]).length:Nat):Int)==1)=true by simp [strVs]]
  walk_at "g"
  refine (fin fun σ' ex'=>?_).toW
  walk_at "g"
  refine Op2.addTup (by simp [strVs]) (by simp) (by delta sizeLine; simp [strVs]) ?_
  refine (w_RuleRow pc fun x dd hx hd hn=>?_).toW
  exact q _ x (ex'.trans (made_ext hx hd hn)) (made_row (row:=.adjust a w) hn)
 ·rw [show ((((strVs [a,b]).length:Nat):Int)==1)=false by simp [strVs]]
  walk_at "g"
  refine (fin fun σ' ex'=>?_).toW
  walk_at "g"
  refine Op2.addTup (by simp [strVs]) (by simp) (by delta sizeLine; simp [strVs]) ?_
  refine (w_RuleRow pc fun x dd hx hd hn=>?_).toW
  exact q _ x (ex'.trans (made_ext hx hd hn)) (made_row (row:=.pair a b w) hn)
end
section
variable {c:Cx} {k:Nat} {σ:St} {Q:V→St→Prop}
variable {r d wl:Addr} {W:List (List Nat×Nat)} {nm:V} {n m:Nat}
inductive SubT:RowD→List (List Nat)→List (List Nat)→Prop where
 | alternate {a bs}:(∀ x∈bs,x∈c_glyphs)→bs.Nodup→bs≠[]→bs.length < 1000→SubT (.alternate a bs) [a] (tx "from"::tx "["::(bs++[tx "]"]))
 | single {a b}:b∈c_glyphs→SubT (.single a b) [a] [tx "by",b]
 | none {a}:SubT (.multiple a []) [a] [tx "by",tx "NULL"]
 | multiple {a b b' bs}:(∀ x∈b::b'::bs,x∈c_glyphs)→bs.length < 900→SubT (.multiple a (b::b'::bs)) [a] (tx "by"::b::b'::bs)
 | ligature {a a' as b}:b∈c_glyphs→as.length < 900→SubT (.ligature (a::a'::as) b) (a::a'::as) [tx "by",b]
theorem lens (as:List (List Nat)):((strVs as).length:Int)=as.length:=by simp [strVs]
set_option maxHeartbeats 1000000 in
theorem w_read_substitution_row (pc:PC c) (h:Rd σ r d wl W nm n) (kn:Knows c σ nm) {I:Addr} {vs:List V} {as ws rest:List (List Nat)} {w0:List Nat} (e:σ I=some (.list vs)) (al:All2 ItemL vs (as.map plainIt)) {row:RowD}
  (sb:SubT row as ws) (ah:Ahead W n (ws++w0::rest)) (st:isName w0=false)
  (q:∀ σ' R,Ext (upM σ d (rdD wl nm (n+ws.length))) σ'→RowR σ' R row→Q (.ref R) σ'):CallC c (k+5) (.ref 367) [.ref r,.ref I] σ Q:=by
 revert pc h kn e al sb ah st q
 revert c; revert k; revert σ; revert Q; revert r; revert d; revert wl; revert W; revert nm; revert n; revert I vs as ws rest w0 row
 walk_at "close 17"
 intro I vs as ws rest w0 row n nm W wl d r Q σ k c pc h kn e al sb ah st q
 have hl:vs.length=as.length:=by have:=al.len; simpa using this
 have hz:as.length < 1000:=by cases sb <;> simp <;> exact ar64 (by assumption)
 walk_at "def 2"
 walk_at "g"
 refine EV.compE (by decide +kernel) (fun _ _=>rfl) ?_ ?_
 ·walk_at "cap"
 refine IT.list ?_
 walk_at "g"
 refine xc2_3 I vs rfl (.inl e) ?_
 refine CompQ.map head2 (by exact ar65 hl hz) (okList e) (fun x hx τ ex=>?_) fun D τ hD ex eD=>?_
 ·refine xi2 ?_ (plain_at al hx)
  intro a L hq29
  obtain rfl:=hq29
  refine xc1_2 _ (CTg.name (by decide +kernel)) ?_
  walk_at "g"
  refine TailW.tup (m:=0) (fun _ _=>rfl) (by decide) (by decide) rfl rfl ?_
  walk_at "g"
  refine TailW.tup (m:=0) (fun _ _=>rfl) (by decide) (by simp) rfl rfl ?_
  exact ⟨rfl,Ext.refl _⟩
 rw [plain_heads al] at eD
 walk_at "g"
 refine CallW.tupList (.inl eD) (by delta sizeLine; simp [strVs]; exact ar37 hz) ?_
 walk_at "g"
 refine CallW.lenTup (by simp [strVs]; exact ar66 hz) ?_
 walk_at "g"
 have hR:=h.ext ex
 have kn1:=kn.ext ex
 have over:∀ {τ':St} {j:Nat},Ext (upM τ d (rdD wl nm j)) τ'→Ext (upM σ d (rdD wl nm j)) τ':=fun x=>(ex.upd d _).trans x
 cases sb with
 | alternate hb nd ne bz =>
  rename_i a bs
  rw [lens,show (((([a]:List (List Nat)).length:Nat):Int)==1)=true from rfl]
  walk_at "g"
  refine xc1_2 _ (hR.meth pc (me_RuleReader_skip pc) (ke_RuleReader_skip pc) rfl) ?_
  walk_at "g"
  have ah0:Ahead W n (tx "from"::tx "["::(bs++tx "]"::w0::rest)):=by
   have:(tx "from"::tx "["::(bs++[tx "]"]))++w0::rest=tx "from"::tx "["::(bs++tx "]"::w0::rest):=by simp
   rw [← this]
   exact ah
  refine xi1 ?_ (ah0.here)
  intro p hp
  refine (w_skip pc hR hp (fun _=>?_) fun e=>absurd rfl e).toW
  have hR1:=hR.move (n+1)
  have kn2:Knows c (upM τ d (rdD wl nm (n+1))) nm:=kn1.st hR (Ext.refl _)
  walk_at "g"
  refine xc1_2 _ (hR1.meth pc (me_RuleReader_need pc) (ke_RuleReader_need pc) rfl) ?_
  walk_at "g"
  refine xi1 ?_ (ah0.next.here)
  intro p hp
  refine (w_need pc hR1 hp ?_).toW
  refine ⟨rfl,?_⟩
  rw [upd_upd]
  have hR2:=hR.move (n+1+1)
  have kn3:Knows c (upM τ d (rdD wl nm (n+1+1))) nm:=kn1.st hR (Ext.refl _)
  walk_at "g"
  refine TailW.tup (m:=0) (fun _ _=>rfl) (by decide) (by decide) rfl rfl ?_
  walk_at "g"
  refine (w_read_glyph_set pc hR2 kn3 hb nd ne bz ah0.next.next fun σ' ex'=>?_).toW
  rw [upd_upd] at ex'
  refine (w_RuleRow pc fun x dd hx hd hn=>?_).toW
  refine q _ x ((over ?_).trans (made_ext hx hd hn)) (made_row (row:=.alternate a bs) hn)
  refine Eq.mp ?_ ex'
  congr 3
  simp
  exact ar67
 | single hb =>
  rename_i a b
  rw [lens,show (((([a]:List (List Nat)).length:Nat):Int)==1)=true from rfl]
  walk_at "g"
  refine xc1_2 _ (hR.meth pc (me_RuleReader_skip pc) (ke_RuleReader_skip pc) rfl) ?_
  walk_at "g"
  have ah0:Ahead W n (tx "by"::b::w0::rest):=ah
  refine xi1 ?_ (ah0.here)
  intro p hp
  refine (w_skip pc hR hp (fun e=>absurd e (by decide +kernel)) fun _=>?_).toW
  walk_at "g"
  refine xc1_2 _ (hR.meth pc (me_RuleReader_need pc) (ke_RuleReader_need pc) rfl) ?_
  walk_at "g"
  refine (w_need pc hR hp ?_).toW
  refine ⟨rfl,?_⟩
  have hR1:=hR.move (n+1)
  have kn2:Knows c (upM τ d (rdD wl nm (n+1))) nm:=kn1.st hR (Ext.refl _)
  walk_at "g"
  refine CallW.lenTup (by simp [strVs]) ?_
  walk_at "g"
  rw [lens]
  refine ite_dec (fun hh=>by simp at hh) (fun _=>?_)
  walk_at "g"
  refine xc1_2 _ (hR1.meth pc (me_RuleReader_skip pc) (ke_RuleReader_skip pc) rfl) ?_
  walk_at "g"
  refine xi1 ?_ (ah0.next.here)
  intro p2 hp2
  refine (w_skip pc hR1 hp2 (fun e=>?_) fun _=>?_).toW
  ·exfalso
   have:∀ x∈c_glyphs,x≠tx "NULL":=by decide +kernel
   exact this b hb e
  walk_at "g"
  refine (w_read_names pc hR1 kn2 (g:=b) (gs:=[]) (by simpa using hb) (by simp) ah0.next st fun σ' ex'=>?_).toW
  rw [upd_upd] at ex'
  walk_at "g"
  refine CallW.lenTup (by simp [strVs]) ?_
  walk_at "g"
  rw [lens,show (((([b]:List (List Nat)).length:Nat):Int)==1)=true from rfl]
  walk_at "g"
  refine TailW.tup (m:=0) (fun _ _=>rfl) (by decide) (by decide) rfl rfl ?_
  walk_at "g"
  refine TailW.tup (m:=0) (fun _ _=>rfl) (by decide) (by decide) rfl rfl ?_
  refine (w_RuleRow pc fun x dd hx hd hn=>?_).toW
  refine q _ x ((over ?_).trans (made_ext hx hd hn)) (made_row (row:=.single a b) hn)
  exact ex'
 | none =>
  rename_i a
  rw [lens,show (((([a]:List (List Nat)).length:Nat):Int)==1)=true from rfl]
  walk_at "g"
  refine xc1_2 _ (hR.meth pc (me_RuleReader_skip pc) (ke_RuleReader_skip pc) rfl) ?_
  walk_at "g"
  have ah0:Ahead W n (tx "by"::tx "NULL"::w0::rest):=ah
  refine xi1 ?_ (ah0.here)
  intro p hp
  refine (w_skip pc hR hp (fun e=>absurd e (by decide +kernel)) fun _=>?_).toW
  walk_at "g"
  refine xc1_2 _ (hR.meth pc (me_RuleReader_need pc) (ke_RuleReader_need pc) rfl) ?_
  walk_at "g"
  refine (w_need pc hR hp ?_).toW
  refine ⟨rfl,?_⟩
  have hR1:=hR.move (n+1)
  walk_at "g"
  refine CallW.lenTup (by simp [strVs]) ?_
  walk_at "g"
  rw [lens]
  refine ite_dec (fun hh=>by simp at hh) (fun _=>?_)
  walk_at "g"
  refine xc1_2 _ (hR1.meth pc (me_RuleReader_skip pc) (ke_RuleReader_skip pc) rfl) ?_
  walk_at "g"
  refine xi1 ?_ (ah0.next.here)
  intro p2 hp2
  refine (w_skip pc hR1 hp2 (fun _=>?_) fun e=>absurd rfl e).toW
  rw [upd_upd]
  walk_at "g"
  refine TailW.tup (m:=0) (fun _ _=>rfl) (by decide) (by decide) rfl rfl ?_
  walk_at "g"
  refine (w_RuleRow pc fun x dd hx hd hn=>?_).toW
  exact q _ x ((over (Ext.refl _)).trans (made_ext hx hd hn)) (made_row (row:=.multiple a []) hn)
 | multiple hb bz =>
  rename_i a b b' bs
  rw [lens,show (((([a]:List (List Nat)).length:Nat):Int)==1)=true from rfl]
  walk_at "g"
  refine xc1_2 _ (hR.meth pc (me_RuleReader_skip pc) (ke_RuleReader_skip pc) rfl) ?_
  walk_at "g"
  have ah0:Ahead W n (tx "by"::(b::b'::bs++w0::rest)):=ah
  refine xi1 ?_ (ah0.here)
  intro p hp
  refine (w_skip pc hR hp (fun e=>absurd e (by decide +kernel)) fun _=>?_).toW
  walk_at "g"
  refine xc1_2 _ (hR.meth pc (me_RuleReader_need pc) (ke_RuleReader_need pc) rfl) ?_
  walk_at "g"
  refine (w_need pc hR hp ?_).toW
  refine ⟨rfl,?_⟩
  have hR1:=hR.move (n+1)
  have kn2:Knows c (upM τ d (rdD wl nm (n+1))) nm:=kn1.st hR (Ext.refl _)
  walk_at "g"
  refine CallW.lenTup (by simp [strVs]) ?_
  walk_at "g"
  rw [lens]
  refine ite_dec (fun hh=>by simp at hh) (fun _=>?_)
  walk_at "g"
  refine xc1_2 _ (hR1.meth pc (me_RuleReader_skip pc) (ke_RuleReader_skip pc) rfl) ?_
  walk_at "g"
  refine xi1 ?_ (Ahead.here (ah0.next))
  intro p2 hp2
  refine (w_skip pc hR1 hp2 (fun e=>?_) fun _=>?_).toW
  ·exfalso
   have:∀ x∈c_glyphs,x≠tx "NULL":=by decide +kernel
   exact this b (hb b (by simp)) e
  walk_at "g"
  refine (w_read_names pc hR1 kn2 (g:=b) (gs:=b'::bs) hb (by simp; exact ar68 bz) ah0.next st fun σ' ex'=>?_).toW
  rw [upd_upd] at ex'
  walk_at "g"
  refine CallW.lenTup (by simp [strVs]; exact ar69 bz) ?_
  walk_at "g"
  rw [lens,show ((((b::b'::bs:List (List Nat)).length:Nat):Int)==1)=false by simp; exact ar70]
  walk_at "g"
  refine TailW.tup (m:=0) (fun _ _=>rfl) (by decide) (by decide) rfl rfl ?_
  walk_at "g"
  refine (w_RuleRow pc fun x dd hx hd hn=>?_).toW
  refine q _ x ((over ?_).trans (made_ext hx hd hn)) (made_row (row:=.multiple a (b::b'::bs)) hn)
  refine Eq.mp ?_ ex'
  congr 3
  simp
  exact ar40
 | ligature hb bz =>
  rename_i a a' as b
  rw [lens,show ((((a::a'::as:List (List Nat)).length:Nat):Int)==1)=false by simp; exact ar70]
  walk_at "g"
  have ah0:Ahead W n (tx "by"::b::w0::rest):=ah
  refine xi1 ?_ (ah0.here)
  intro p hp
  refine xc1_2 _ (hR.meth pc (me_RuleReader_need pc) (ke_RuleReader_need pc) rfl) ?_
  walk_at "g"
  refine (w_need pc hR hp ?_).toW
  refine ⟨rfl,?_⟩
  have hR1:=hR.move (n+1)
  have kn2:Knows c (upM τ d (rdD wl nm (n+1))) nm:=kn1.st hR (Ext.refl _)
  walk_at "g"
  refine CallW.lenTup (by simp [strVs]; exact ar69 bz) ?_
  walk_at "g"
  rw [lens]
  refine ite_dec (fun _=>?_) (fun hh=>by simp at hh; exact (ar71 hh).elim)
  walk_at "g"
  refine xc1_2 _ (hR1.meth pc (me_RuleReader_glyph pc) (ke_RuleReader_glyph pc) rfl) ?_
  walk_at "g"
  refine xi1 ?_ (ah0.next.here)
  intro p2 hp2
  refine (w_glyph pc hR1 hp2 hb kn2 ?_).toW
  rw [upd_upd]
  refine (w_RuleRow pc fun x dd hx hd hn=>?_).toW
  exact q _ x ((over (Ext.refl _)).trans (made_ext hx hd hn)) (made_row (row:=.ligature (a::a'::as) b) hn)
end
theorem clip_nat {n i:Nat} (h:i≤n):clipAt n (i:Int)=i:=by
 unfold clipAt
 rw [if_neg (by exact ar2)]
 exact ar72 h
theorem cut_front {α:Type} (a b:List α):cutL (a++b) none (some ((a.length:Nat):Int))=a:=by
 unfold cutL clipN
 simp only [Option.elim]
 rw [clip_nat (by simp)]
 simp
theorem cut_mid {α:Type} (a b e:List α):cutL (a++b++e) (some ((a.length:Nat):Int)) (some ((a.length+b.length:Nat):Int))=b:=by
 unfold cutL clipN
 simp only [Option.elim]
 rw [clip_nat (by simp only [List.length_append]; exact ar73),clip_nat (by simp only [List.length_append]; exact ar74)]
 simp
theorem cut_back {α:Type} (a b:List α):cutL (a++b) (some ((a.length:Nat):Int)) none=b:=by
 unfold cutL clipN
 simp only [Option.elim]
 rw [clip_nat (by simp)]
 simp
theorem rangeV_add (a:Int) (m n:Nat):rangeV a (m+n)=rangeV a m++rangeV (a+m) n:=by
 unfold rangeV
 rw [List.range_add,List.map_append,List.map_map]
 congr 1
 apply List.map_congr_left
 intro i _
 simp [Int.add_assoc]
theorem filter_all {p:V→Bool} {a:Int} {n:Nat} (h:∀ i:Nat,i < n→p (.int (a+i))=true):(rangeV a n).filter p=rangeV a n:=by
 rw [List.filter_eq_self]
 intro x hx
 unfold rangeV at hx
 refine xi1 ?_ (List.mem_map.mp hx)
 intro i
 refine im2 ?_
 intro hi hq30
 obtain rfl:=hq30
 exact h i (List.mem_range.mp hi)
theorem filter_no {p:V→Bool} {a:Int} {n:Nat} (h:∀ i:Nat,i < n→p (.int (a+i))=false):(rangeV a n).filter p=[]:=by
 rw [List.filter_eq_nil_iff]
 intro x hx
 unfold rangeV at hx
 refine xi1 ?_ (List.mem_map.mp hx)
 intro i
 refine im2 ?_
 intro hi hq31
 obtain rfl:=hq31
 rw [h i (List.mem_range.mp hi)]
 decide
noncomputable abbrev Toks:=List (List Nat×Nat)
noncomputable def actsT:Nat→List Toks→List V
 | _,[]=>[]
 | i,t::r=>t.map (fun p=>actV (i,p.1))++actsT (i+1) r
theorem actsT_eq:∀ (T:List Toks) (ins:List (List (List Nat)×List (List Nat))) (i:Nat),T.map (·.map (·.1))=ins.map (·.2)→actsT i T=(acts i ins).map actV
 := by
 intro T
 induction T with
 | nil=>intro ins _ h; cases ins with
  | nil=>rfl
  | cons=>cases h
 | cons t T ih=>intro ins i h; cases ins with
  | nil=>cases h
  | cons p ins =>
  obtain ⟨g,us⟩:=p
  rw [List.map_cons,List.map_cons] at h
  refine im2 ?_ (List.cons.inj h)
  intro h1 h2
  show t.map (fun p=>actV (i,p.1))++actsT (i+1) T=(us.map (fun u=>(i,u))++acts (i+1) ins).map actV
  rw [List.map_append,ih ins (i+1) h2,← show t.map (·.1)=us from h1]
  simp [Function.comp_def]
theorem actsT_append:∀ (T U:List Toks) (i:Nat),actsT i (T++U)=actsT i T++actsT (i+T.length) U
 | [],U,i=>rfl
 | t::T,U,i=>by
  show t.map _++actsT (i+1) (T++U)=_
  rw [actsT_append T U (i+1)]
  show _=(t.map _++actsT (i+1) T)++_
  rw [List.append_assoc,List.length_cons,show i+1+T.length=i+(T.length+1) by exact ar75]
noncomputable def mkU (g:List (List Nat)):ItemD:=⟨g,false,[]⟩
noncomputable def mkM (p:List (List Nat)×List (List Nat)):ItemD:=⟨p.1,true,p.2⟩
noncomputable def chainIts (back:List (List (List Nat))) (ins:List (List (List Nat)×List (List Nat))) (ahead:List (List (List Nat))):List ItemD:=back.map mkU++ins.map mkM++ahead.map mkU
theorem All2.split {α β:Type} {R:α→β→Prop}:∀ {m n:List β} {l:List α},All2 R l (m++n)→∃ a b,l=a++b∧All2 R a m∧All2 R b n:=by
 intro m
 induction m with
 | nil =>
  intro n l h
  exact ⟨[],l,rfl,.nil,h⟩
 | cons x m ih =>
  intro n l h
  cases h with
  | cons a t =>
   refine xi2 ?_ (ih t)
   intro p q
   refine im3 ?_
   intro hq32
   obtain rfl:=hq32
   intro h1 h2
   exact xc2_3 (_::p) q rfl (.cons a h1) h2
theorem All2.get {α β:Type} {R:α→β→Prop} {l:List α} {m:List β} (h:All2 R l m):∀ {i:Nat} {x:α},l[i]?=some x→∃ y,m[i]?=some y∧R x y:=by
 induction h with
 | nil=>intro i x e; simp at e
 | cons a _ ih =>
  intro i x e
  cases i with
  | zero=>simp at e; subst e; exact ⟨_,rfl,a⟩
  | succ i=>simpa using ih (by simpa using e)
noncomputable def InsR (σ₀ σ:St) (v:V) (t:Toks):Prop:=∃ g L,v=itemV g true L∧σ₀ L=none∧σ L=some (.list (t.map tokV))
theorem ins_toks {σ₀ σ:St}:∀ {ins:List (List (List Nat)×List (List Nat))} {vs:List V},All2 (ItemR σ₀ σ) vs (ins.map mkM)→∃ T:List Toks,All2 (InsR σ₀ σ) vs T∧T.map (·.map (·.1))=ins.map (·.2):=by
 intro ins
 induction ins with
 | nil =>
  intro vs h
  cases h; exact ⟨[],.nil,rfl⟩
 | cons p ins ih =>
  intro vs h
  cases h with
  | cons a t =>
   refine xi2 ?_ (a)
   intro L toks
   refine im4 ?_
   intro e1 e2 e3 e4
   refine xi1 ?_ (ih t)
   intro T
   refine im2 ?_
   intro h1 h2
   exact xc1_2 (toks::T) (.cons ⟨_,L,e1,e2,e3⟩ h1) (by rw [List.map_cons,List.map_cons,h2]; congr 1)
theorem ins_first {σ₀ σ:St}:∀ {ins:List (List (List Nat)×List (List Nat))} {vs:List V},All2 (ItemR σ₀ σ) vs (ins.map mkM)→vs.map firstV=(ins.map (·.1)).map fun g=>V.tup (strVs g):=by
 intro ins
 induction ins with
 | nil =>
  intro vs h
  cases h; rfl
 | cons p ins ih =>
  intro vs h
  cases h with
  | cons a t =>
   refine xi2 ?_ (a)
   intro L toks
   refine im2 ?_
   intro hq33
   obtain rfl:=hq33
   intro _
   rw [List.map_cons,List.map_cons,List.map_cons,ih t]
   rfl
section
variable {c:Cx} {k:Nat} {σ:St} {Q:V→St→Prop}
theorem CTg.pairE {sc:Scope} {x y:Str} {p q:Pos} {n:Nat} {tp:Pos} {a b:V} {ρ:Loc} (hx:(sc.names.lookup x==some .local)=true) (hy:(sc.names.lookup y==some .local)=true):CTg sc (.Tuple [.Name x p,.Name y q] n tp) (.tup [a,b]) ρ (setL (setL ρ x a) y b):=CTg.pair (by simpa using hx) (by simpa using hy)
theorem CTg.nameE {sc:Scope} {x:Str} {p:Pos} {v:V} {ρ:Loc} (hx:(sc.names.lookup x==some .local)=true):CTg sc (.Name x p) v ρ (setL ρ x v):=CTg.name (by simpa using hx)
noncomputable def markAt (vs:List V):V→Bool
 | .int i=>match vs[i.toNat]? with | some v=>markV v | none=>false
 | _=>false
theorem w_chain_row (pc:PC c) {σ₀:St} {I U:Addr} {vs:List V} {old:Toks} {word:List Nat} {back ahead:List (List (List Nat))} {ins:List (List (List Nat)×List (List Nat))} (eI:σ I=some (.list vs)) (al:All2 (ItemR σ₀ σ) vs (chainIts back ins ahead)) (eU:σ U=some (.list (old.map tokV)))
  (hU:σ₀ U≠none) (hUI:U≠I) (ne:ins≠[]) (hz:back.length+ins.length+ahead.length < 1000) (uz:old.length+(ins.map (·.2.length)).sum < 1000000)
  (q:∀ σ' R new,Ext (upM σ U (.list ((old++new).map tokV))) σ'→new.map (·.1)=(ins.map (·.2)).flatten→RowR σ' R (.chain word back ins ahead)→Q (.ref R) σ'):CallC c (k+3) (.ref 350) [.str word,.ref I,.ref U] σ Q:=by
 revert pc eI al eU hU hUI ne hz uz q
 revert c; revert k; revert σ; revert Q; revert σ₀ I U vs old word back ahead ins
 walk_at "close 13"
 intro σ₀ I U vs old word back ahead ins Q σ k c pc eI al eU hU hUI ne hz uz q
 refine xi2 ?_ (All2.split al)
 intro v12 v3
 refine im3 ?_
 intro hq34
 obtain rfl:=hq34
 intro al12 al3
 refine xi2 ?_ (All2.split al12)
 intro v1 v2
 refine im3 ?_
 intro hq35
 obtain rfl:=hq35
 intro al1 al2
 refine xi1 ?_ (ins_toks al2)
 intro T
 refine im2 ?_
 intro tR tE
 have l1:v1.length=back.length:=by have:=al1.len; simpa using this
 have l2:v2.length=ins.length:=by have:=al2.len; simpa using this
 have l3:v3.length=ahead.length:=by have:=al3.len; simpa using this
 have lT:T.length=ins.length:=by have:=congrArg List.length tE; simpa using this
 have hins:0 < ins.length:=by cases ins with | nil=>exact absurd rfl ne | cons _ _=>simp
 have hlen:(v1++v2++v3).length=back.length+ins.length+ahead.length:=by simp [l1,l2,l3]; exact ar76
 have itm:∀ {v},v∈v1++v2++v3→∃ (it:ItemD) (L:Addr),v=itemV it.gs it.marked L:=fun {v} hv=>by
  refine xi1 ?_ (all2_mem al hv)
  intro it
  refine im2 ?_
  intro _
  refine xi2 ?_
  intro L toks
  refine im2 ?_
  intro e _
  exact xc2_1 it L e
 walk_at "def 3"
 walk_at "st"
 refine SV.assignCompE (by decide +kernel) (fun _ _=>rfl) ?_ (by decide +kernel) rfl (by decide +kernel) ?_
 ·walk_at "cap"
 refine IT.range1 rfl (by decide +kernel) (gn_range pc) rfl ?_
 walk_at "g"
 refine CallW.lenList (.inl eI) (by rw [hlen]; exact ar77 hz) ?_
 refine xc1_3 ((v1++v2++v3).length) rfl (by rw [hlen]; exact ar78 hz) ?_
 refine CompQ.gen (markAt (v1++v2++v3)) id (by rw [rangeV_len,hlen]; exact ar79 hz) (fun _ _=>trivial) (fun x hx τ ex=>?_) fun M τ hM ex eM=>?_
 ·obtain ⟨i,hi,rfl⟩:∃ i,i < (v1++v2++v3).length∧x=.int i:=by
   unfold rangeV at hx
   refine xi1 ?_ (List.mem_map.mp hx)
   intro i
   refine im2 ?_
   intro hi hq36
   obtain rfl:=hq36
   exact xc1_2 i (List.mem_range.mp hi) (by simp)
  have hget:(v1++v2++v3)[i]?=some ((v1++v2++v3)[i]):=List.getElem?_eq_getElem hi
  refine xi2 ?_ (itm (List.getElem_mem hi))
  intro it L hv
  refine xc1_2 _ (CTg.nameE (by decide +kernel)) ?_
  walk_at "g"
  refine TailW.list (j:=(i:Int)) (fun _ _=>rfl) (.inl (ex _ _ eI)) (by exact ar20) (by exact ar80 hz hlen hi) (by rw [Int.toNat_natCast]; exact hget) ?_
  rw [hv]
  walk_at "g"
  refine TailW.tup (m:=1) (fun _ _=>rfl) (by decide) (by decide) rfl rfl ?_
  walk_at "g"
  refine xc0_3 ?_ (Ext.refl _) (fun _=>?_)
  ·unfold markAt
   dsimp only
   rw [Int.toNat_natCast,hget,hv]
   rfl
  ·walk_at "g"
   exact ⟨rfl,Ext.refl _⟩
 have hMI:M≠I:=neO hM eI
 have hMU:M≠U:=neO hM eU
 have eM':τ M=some (.list (rangeV back.length ins.length)):=by
  rw [eM,List.map_id,hlen,Nat.add_assoc,rangeV_add,rangeV_add,List.filter_append,List.filter_append]
  have mk:∀ (j:Nat) (b:Bool),(∀ v,(v1++v2++v3)[j]?=some v→markV v=b)→j < (v1++v2++v3).length→markAt (v1++v2++v3) (.int (j:Int))=b:=fun j b hb hj=>by
   unfold markAt
   dsimp only
   rw [Int.toNat_natCast,List.getElem?_eq_getElem hj]
   exact hb _ (List.getElem?_eq_getElem hj)
  rw [filter_no,filter_all,filter_no]
  ·simp
  ·intro i hi
   have:((0:Int)+back.length+ins.length+i)=((back.length+ins.length+i:Nat):Int):=by exact ar81
   rw [show (0+(back.length:Int)+(ins.length:Int)+(i:Int))=((back.length+ins.length+i:Nat):Int) by exact ar81]
   refine mk _ _ (fun v hv=>?_) (by rw [hlen]; exact ar82 hi)
   rw [List.getElem?_append_right (by simp only [List.length_append,l1,l2]; exact ar73)] at hv
   refine xi1 ?_ (al3.get hv)
   intro it
   refine im2 ?_
   intro h1
   refine xi2 ?_
   intro L toks
   refine im2 ?_
   intro hq37
   obtain rfl:=hq37
   intro _
   rw [List.getElem?_map] at h1
   cases e:ahead[back.length+ins.length+i - (v1++v2).length]? with
   | none=>rw [e] at h1; cases h1
   | some g=>rw [e] at h1; cases h1; rfl
  ·intro i hi
   rw [show ((0:Int)+(back.length:Int)+(i:Int))=((back.length+i:Nat):Int) by exact ar83]
   refine mk _ _ (fun v hv=>?_) (by rw [hlen]; exact ar84 hi)
   rw [List.getElem?_append_left (by simp only [List.length_append,l1,l2]; exact ar82 hi),List.getElem?_append_right (by exact ar85 l1)] at hv
   refine xi1 ?_ (al2.get hv)
   intro it
   refine im2 ?_
   intro h1
   refine xi2 ?_
   intro L toks
   refine im2 ?_
   intro hq38
   obtain rfl:=hq38
   intro _
   rw [List.getElem?_map] at h1
   cases e:ins[back.length+i - v1.length]? with
   | none=>rw [e] at h1; cases h1
   | some g=>rw [e] at h1; cases h1; rfl
  ·intro i hi
   rw [show ((0:Int)+(i:Int))=((i:Nat):Int) by exact ar86]
   refine mk _ _ (fun v hv=>?_) (by rw [hlen]; exact ar87 hi)
   rw [List.append_assoc,List.getElem?_append_left (by exact ar88 l1 hi)] at hv
   refine xi1 ?_ (al1.get hv)
   intro it
   refine im2 ?_
   intro h1
   refine xi2 ?_
   intro L toks
   refine im2 ?_
   intro hq39
   obtain rfl:=hq39
   intro _
   rw [List.getElem?_map] at h1
   cases e:back[i]? with
   | none=>rw [e] at h1; cases h1
   | some g=>rw [e] at h1; cases h1; rfl
 walk_at "g"
 intro A hA
 have hA0:σ A=none:=ex.none hA
 have hAI:A≠I:=neO hA0 eI
 have hAU:A≠U:=neO hA0 eU
 have hAM:A≠M:=neO hA eM'
 walk_at "g"
 have nA:∀ x,upM σ U x A=none:=fun x=>by rw [upd_ne _ _ hAU]; exact hA0
 have hfl:∀ i,((T.take i).flatten).length≤(ins.map (·.2.length)).sum:=fun i=>by
  have h1:T.flatten.length=(ins.map (·.2.length)).sum:=by
   rw [List.length_flatten]
   have:T.map List.length=ins.map (·.2.length):=by
    have:=congrArg (List.map List.length) tE
    rw [List.map_map,List.map_map] at this
    simpa [Function.comp_def] using this
   rw [this]
  have h2:T.flatten=(T.take i).flatten++(T.drop i).flatten:=by rw [← List.flatten_append,List.take_append_drop]
  have h3:=congrArg List.length h2
  rw [List.length_append] at h3
  exact ar89 h1 h3
 have hact:∀ (i0:Nat) (T:List Toks),(actsT i0 T).length=T.flatten.length:=by
  intro i0 T
  induction T generalizing i0 with
  | nil=>rfl
  | cons t T ih =>
   show (t.map _++actsT (i0+1) T).length=_
   rw [List.length_append,ih,List.length_map,List.flatten_cons,List.length_append]
 refine SV.for (fun _ _=>rfl) ?_
 refine IT.list ?_
 walk_at "g"
 refine xc2_3 M (rangeV back.length ins.length) rfl (.inl ((upd_ne _ _ (Ne.symm hAM)).trans eM')) ?_
 refine ⟨fun i ρ' σ'=>ρ' "items"=some (.ref I)∧ρ' "word"=some (.str word)∧ρ' "uses"=some (.ref U)∧ρ' "actions"=some (.ref A)∧ρ' "marked"=some (.ref M)∧σ' A=some (.list (actsT 0 (T.take i))) ∧
   Ext (upM σ U (.list ((old++(T.take i).flatten).map tokV))) σ'∧σ' M=some (.list (rangeV back.length ins.length)),⟨by walk_at "loc",by walk_at "loc",by walk_at "loc",by walk_at "loc",by walk_at "loc",upd_self _ _ _,?_,by rw [upd_ne _ _ (Ne.symm hAM)]; exact eM'⟩,fun i ρ' σ' z=>.inl z.2.2.2.2.2.2.2,?_,?_⟩
 ·refine Ext.bump ?_ (nA _)
  refine Ext.trans (Ext.self ?_) ex
  simpa using eU
 ·intro i ρ' σ' x hx
  refine im8 ?_
  intro g1 g2 g3 g4 g5 gA gX gM
  refine im2 ?_ (rangeV_get hx)
  intro hi hq40
  obtain rfl:=hq40
  obtain ⟨t,ht⟩:∃ t,T[i]?=some t:=⟨T[i]'(by exact ar88 lT hi),List.getElem?_eq_getElem _⟩
  have hv2:v2[i]?=some (v2[i]'(by exact ar88 l2 hi)):=List.getElem?_eq_getElem _
  refine xi1 ?_ (tR.get hv2)
  intro t'
  refine im2 ?_
  intro ht'
  refine xi2 ?_
  intro g L
  refine im3 ?_
  intro hv hL0 hL
  rw [ht] at ht'
  cases ht'
  have hLU:L≠U:=by rintro rfl; exact hU hL0
  have hLA:L≠A:=by exact (neO hA0 hL).symm
  have tk:T.take (i+1)=T.take i++[t]:=by rw [List.take_add_one,ht]; rfl
  have tl:(T.take i).length=i:=by rw [List.length_take]; exact ar90 lT hi
  walk_at "g"
  refine SV.for (fun _ _=>rfl) ?_
  refine IT.list ?_
  walk_at "g"
  refine TailW.list (fun _ _=>rfl) (.inl (gX.off (Ne.symm hUI) eI)) (by exact ar91) (by exact ar92 hz hi) (x:=v2[i]'(by exact ar88 l2 hi)) (by
   rw [show ((back.length:Int)+(i:Int)).toNat=back.length+i by exact ar93,List.getElem?_append_left (by simp only [List.length_append,l1,l2]; exact ar82 hi),List.getElem?_append_right (by exact ar85 l1),show back.length+i - v1.length=i by exact ar94 l1]; exact hv2) ?_
  rw [hv]
  walk_at "g"
  refine TailW.tup (m:=2) (fun _ _=>rfl) (by decide) (by decide) rfl rfl ?_
  refine xc2_3 L (t.map tokV) rfl (.inl (gX.off hLU hL)) ?_
  refine ⟨fun j ρ₂ σ₂=>ρ₂ "items"=some (.ref I)∧ρ₂ "word"=some (.str word)∧ρ₂ "uses"=some (.ref U)∧ρ₂ "actions"=some (.ref A)∧ρ₂ "marked"=some (.ref M)∧ρ₂ "spot"=some (.int ((back.length:Int)+(i:Int)))∧σ₂ A=some (.list (actsT 0 (T.take i)++(t.take j).map fun p=>actV (i,p.1))) ∧
   Ext (upM σ U (.list ((old++(T.take i).flatten++t.take j).map tokV))) σ₂∧σ₂ M=some (.list (rangeV back.length ins.length)),⟨by walk_at "loc",by walk_at "loc",by walk_at "loc",by walk_at "loc",by walk_at "loc",by walk_at "loc",by simpa using gA,by simpa using gX,gM⟩,fun j ρ₂ σ₂ z=>.inl (z.2.2.2.2.2.2.2.1.off hLU hL),?_,?_⟩
  ·intro j ρ₂ σ₂ y hy
   refine im8 ?_
   intro k1 k2 k3 k4 k5 k6 kA
   refine im2 ?_
   intro kX kM
   rw [List.getElem?_map] at hy
   cases hp:t[j]? with
   | none=>rw [hp] at hy; cases hy
   | some p =>
   rw [hp] at hy
   cases hy
   obtain ⟨nm,pos⟩:=p
   have hj:=(List.getElem?_eq_some_iff.mp hp).1
   have tk2:t.take (j+1)=t.take j++[(nm,pos)]:=by rw [List.take_add_one,hp]; rfl
   have hsz:=hfl (i+1)
   rw [tk,List.flatten_append,List.length_append] at hsz
   simp only [List.flatten_cons,List.flatten_nil,List.append_nil] at hsz
   have hjt:(t.take j).length≤t.length:=by rw [List.length_take]; exact ar95
   show TgV c _ _ _ _ _ (V.tup [V.str nm,V.int pos]) _
   walk_at "g"
   refine xc1_2 _ (MethR.append (.inl kA)) ?_
   walk_at "g"
   refine TailW.list (j:=0) (fun _ _=>rfl) (.inl kM) (by decide) (by decide) (x:=.int ((back.length:Int)+((0:Nat):Int))) (by
    show (rangeV back.length ins.length)[0]?=_
    unfold rangeV
    rw [List.getElem?_map,List.getElem?_range hins]
    rfl) ?_
   walk_at "g"
   refine CallW.append kA (by delta sizeLine; rw [List.length_append,hact,List.length_map]; exact ar96 uz hsz hjt) ?_
   refine ⟨rfl,?_⟩
   have kU:σ₂ U=some (.list ((old++(T.take i).flatten++t.take j).map tokV)):=kX.at
   walk_at "g"
   refine xc1_2 _ (MethR.append (.inl ((upd_ne _ _ (Ne.symm hAU)).trans kU))) ?_
   walk_at "g"
   refine CallW.append ((upd_ne _ _ (Ne.symm hAU)).trans kU) (by delta sizeLine; rw [List.length_map,List.length_append,List.length_append]; exact ar97 uz hsz hjt) ?_
   refine ⟨rfl,?_⟩
   walk_at "g"
   refine xc0_8 (by walk_at "loc") (by walk_at "loc") (by walk_at "loc") (by walk_at "loc") (by walk_at "loc") (by walk_at "loc") ?_ (⟨?_,?_⟩)
   ·rw [upd_ne _ _ hAU,upd_self,tk2,List.map_append,← List.append_assoc]
    congr 3
    unfold actV
    simp only [List.map_cons,List.map_nil]
    congr 4
    exact ar98
   ·rw [tk2,← List.append_assoc,List.map_append]
    exact Ext.over (x:=.list ((old++(T.take i).flatten++t.take j).map tokV)) (Ext.bump kX (nA _)) (Ext.refl _)
   ·rw [upd_ne _ _ hMU,upd_ne _ _ (Ne.symm hAM)]
    exact kM
  ·intro ρ₂ σ₂
   refine im8 ?_
   intro k1 k2 k3 k4 k5 k6 kA
   refine im2 ?_
   intro kX kM
   rw [List.length_map,List.take_length] at kA kX
   walk_at "g"
   refine xc0_8 k1 k2 k3 k4 k5 ?_ ?_ kM
   ·rw [kA,tk,actsT_append,tl,Nat.zero_add]
    simp [actsT]
   ·rw [tk,List.flatten_append]
    simpa [List.append_assoc] using kX
 intro ρ' σ'
 refine im8 ?_
 intro g1 g2 g3 g4 g5 gA gX gM
 rw [rangeV_len,← lT,List.take_length] at gA gX
 have first:∀ {gs:List (List (List Nat))} {vv:List V} {mk:List (List Nat)→ItemD},(∀ g,(mk g).gs=g)→All2 (ItemR σ₀ σ) vv (gs.map mk)→vv.map firstV=gs.map fun g=>V.tup (strVs g):=by
  intro gs vv mk hmk h
  induction gs generalizing vv with
  | nil=>cases h; rfl
  | cons g r ih =>
   cases h with
   | cons a t =>
    refine xi2 ?_ (a)
    intro L toks
    refine im2 ?_
    intro hq41
    obtain rfl:=hq41
    intro _
    rw [List.map_cons,List.map_cons,ih t]
    congr 1
    unfold itemV firstV
    rw [hmk]
 have f2:=ins_first al2
 have f1:=first (mk:=mkU) (fun _=>rfl) al1
 have f3:=first (mk:=mkU) (fun _=>rfl) al3
 walk_at "st"
 refine SV.assignCompE (by decide +kernel) (fun _ _=>rfl) ?_ (by decide +kernel) rfl (by decide +kernel) ?_
 ·walk_at "cap"
 refine IT.list ?_
 walk_at "g"
 have gI:σ' I=some (.list (v1++v2++v3)):=gX.off (Ne.symm hUI) eI
 refine xc2_3 I _ rfl (.inl gI) ?_
 refine CompQ.map firstV (by rw [hlen]; exact ar79 hz) (okList gI) (fun x hx τ' ex'=>?_) fun G τ' hG ex' eG=>?_
 ·refine xi2 ?_ (itm hx)
  intro it L hq42
  obtain rfl:=hq42
  refine xc1_2 _ (CTg.nameE (by decide +kernel)) ?_
  walk_at "g"
  refine TailW.tup (m:=0) (fun _ _=>rfl) (by decide) (by decide) rfl rfl ?_
  exact ⟨rfl,Ext.refl _⟩
 rw [List.map_append,List.map_append,f1,f2,f3] at eG
 generalize hB:(back.map fun g=>V.tup (strVs g))=B at eG
 generalize hN:((ins.map (·.1)).map fun g=>V.tup (strVs g))=N at eG
 generalize hH:(ahead.map fun g=>V.tup (strVs g))=H at eG
 have lB:B.length=back.length:=by rw [← hB]; simp
 have lN:N.length=ins.length:=by rw [← hN]; simp
 have lH:H.length=ahead.length:=by rw [← hH]; simp
 have tM:=ex' _ _ gM
 have tA:=ex' _ _ gA
 have m0:(rangeV (back.length:Int) ins.length)[(0:Int).toNat]?=some (.int ((back.length:Nat):Int)):=by
  show (rangeV back.length ins.length)[0]?=_
  unfold rangeV
  rw [List.getElem?_map,List.getElem?_range hins]
  simp only [Option.map_some]
  rfl
 have mL:∃ R0:List V,rangeV (back.length:Int) ins.length=R0++[V.int ((back.length+(ins.length - 1):Nat):Int)]∧R0.length < 1000:=by
  refine xc1_2 (rangeV back.length (ins.length - 1)) ?_ (by rw [rangeV_len]; exact ar99 hz)
  have:rangeV (back.length:Int) ins.length=rangeV back.length ((ins.length - 1)+1):=by congr 1; exact ar100 hins
  rw [this,rangeV_add]
  congr 1
 refine xi1 ?_ (mL)
 intro R0
 refine im2 ?_
 intro mL mL2
 have zB:(B++N++H).length≤sizeLine:=by delta sizeLine; simp only [List.length_append]; exact ar101 hz lB lN lH
 walk_at "g"
 refine TailW.list (j:=0) (fun _ _=>rfl) (.inl tM) (by decide) (by decide) m0 ?_
 walk_at "g"
 refine CutW.list (.inl eG) zB ?_
 rw [List.append_assoc,show ((back.length:Nat):Int)=((B.length:Nat):Int) by rw [lB],cut_front]
 intro C1 hC1
 have e1:Ext τ' (upM τ' C1 (.list B)):=Ext.fresh hC1
 walk_at "g"
 refine CallW.tupList (.inl (upd_self _ _ _)) (by delta sizeLine; exact ar102 hz lB) ?_
 walk_at "g"
 refine TailW.list (j:=0) (fun _ _=>rfl) (.inl (e1 _ _ tM)) (by decide) (by decide) m0 ?_
 walk_at "g"
 have lastM:∀ {v i:Expr} {τ₂:St} {Q':V→St→Prop},τ₂ M=some (.list (rangeV back.length ins.length))→NoSlice i→Q' (V.int ((back.length+(ins.length - 1):Nat):Int)) τ₂→TailW c (k+2) v i (.ref M) (.int (-1)) τ₂ Q':=fun h1 h2 h3 =>
  TailW.listLast (vs:=R0) h2 (by rw [h1,mL]) (by exact ar78 mL2) h3
 refine lastM (e1 _ _ tM) (fun _ _=>rfl) ?_
 walk_at "g"
 refine CutW.list (.inl (e1 _ _ eG)) zB ?_
 rw [show (((back.length+(ins.length - 1):Nat):Int)+1)=((B.length+N.length:Nat):Int) by rw [lB,lN]; exact ar103 hins,show ((back.length:Nat):Int)=((B.length:Nat):Int) by rw [lB],cut_mid]
 intro C2 hC2
 have e2:=e1.trans (Ext.fresh (o:=.list N) hC2)
 walk_at "g"
 refine CallW.tupList (.inl (upd_self _ _ _)) (by delta sizeLine; exact ar104 hz lN) ?_
 walk_at "g"
 refine lastM (e2 _ _ tM) (fun _ _=>rfl) ?_
 walk_at "g"
 refine CutW.list (.inl (e2 _ _ eG)) zB ?_
 rw [show (((back.length+(ins.length - 1):Nat):Int)+1)=(((B++N).length:Nat):Int) by rw [List.length_append,lB,lN]; exact ar103 hins,cut_back]
 intro C3 hC3
 have e3:=e2.trans (Ext.fresh (o:=.list H) hC3)
 walk_at "g"
 refine CallW.tupList (.inl (upd_self _ _ _)) (by delta sizeLine; exact ar105 hz lH) ?_
 walk_at "g"
 refine CallW.tupList (.inl (e3 _ _ tA)) (by delta sizeLine; rw [hact]; have:=hfl T.length; rw [List.take_length] at this; exact ar106 uz this) ?_
 rw [actsT_eq T ins 0 tE]
 subst hB hN hH
 refine (w_RuleRow pc fun x dd hx hd hn=>?_).toW
 refine q _ x T.flatten ?_ ?_ (made_row (row:=.chain word back ins ahead) hn)
 ·exact ((gX.trans ex').trans e3).trans (made_ext hx hd hn)
 ·rw [List.map_flatten,tE]
end
noncomputable def rowIts:RowD→List ItemD
 | .single a _=>[plainIt a]
 | .multiple a _=>[plainIt a]
 | .alternate a _=>[plainIt a]
 | .ligature as _=>as.map plainIt
 | .adjust a _=>[plainIt a]
 | .pair a b _=>[plainIt a,plainIt b]
 | .chain _ back ins ahead=>chainIts back ins ahead
noncomputable def rowLong:RowD→Bool→Bool
 | .chain _ _ _ _,l=>l
 | .single _ _,_=>false
 | .multiple _ _,_=>false
 | .alternate _ _,_=>false
 | .ligature _ _,_=>false
 | .adjust _ _,_=>false
 | .pair _ _ _,_=>false
noncomputable def rowTail:RowD→Bool→List (List Nat)
 | .single _ b,_=>[tx "by",b]
 | .multiple _ [],_=>[tx "by",tx "NULL"]
 | .multiple _ (b::bs),_=>tx "by"::b::bs
 | .alternate _ bs,_=>tx "from"::tx "["::(bs++[tx "]"])
 | .ligature _ b,_=>[tx "by",b]
 | .adjust _ w,l=>worthW w l
 | .pair _ _ w,l=>worthW w l
 | .chain ..,_=>[]
noncomputable def rowHead:RowD→List Nat
 | .chain w _ _ _=>w
 | .adjust _ _=>tx "pos"
 | .pair _ _ _=>tx "pos"
 | .single _ _=>tx "sub"
 | .multiple _ _=>tx "sub"
 | .alternate _ _=>tx "sub"
 | .ligature _ _=>tx "sub"
noncomputable def rowW (row:RowD) (long:Bool):List (List Nat):=rowHead row::(itemsW (rowIts row) (rowLong row long)++(rowTail row long++[tx ";"]))
noncomputable def rowUses:RowD→List (List Nat)
 | .chain _ _ ins _=>(ins.map (·.2)).flatten
 | .single _ _=>[]
 | .multiple _ _=>[]
 | .alternate _ _=>[]
 | .ligature _ _=>[]
 | .adjust _ _=>[]
 | .pair _ _ _=>[]
noncomputable def SetOk (gs:List (List Nat)):Prop:=(∀ g∈gs,g∈c_glyphs)∧gs.Nodup∧gs≠[]∧gs.length < 1000
noncomputable def RowOk:RowD→Prop
 | .single a b=>a∈c_glyphs∧b∈c_glyphs
 | .multiple a bs=>a∈c_glyphs∧(bs=[]∨2≤bs.length∧bs.length < 900)∧∀ b∈bs,b∈c_glyphs
 | .alternate a bs=>a∈c_glyphs∧SetOk bs
 | .ligature as b=>2≤as.length∧as.length < 900∧(∀ a∈as,a∈c_glyphs)∧b∈c_glyphs
 | .adjust a w=>a∈c_glyphs∧worthOk w=true
 | .pair a b w=>a∈c_glyphs∧b∈c_glyphs∧worthOk w=true
 | .chain w back ins ahead=>(w=tx "sub"∨w=tx "pos")∧(∀ g∈back,SetOk g)∧(∀ p∈ins,SetOk p.1∧p.2.length < 1000∧∀ u∈p.2,isName u=true)∧(∀ g∈ahead,SetOk g)∧ins≠[]∧back.length+ins.length+ahead.length < 900∧(ins.map (·.2.length)).sum < 100000
theorem plain_ok {a:List Nat} (h:a∈c_glyphs):ItemOk (plainIt a):=⟨by simpa [plainIt] using h,by simp [plainIt],by simp [plainIt],by simp [plainIt],by simp [plainIt],by simp [plainIt],fun _=>rfl⟩
theorem rowIts_ok:∀ {row:RowD},RowOk row→∀ it∈rowIts row,ItemOk it
 | .single a b,h,it,hi=>by rw [List.mem_singleton.mp hi]; exact plain_ok h.1
 | .multiple a b,h,it,hi=>by rw [List.mem_singleton.mp hi]; exact plain_ok h.1
 | .alternate a b,h,it,hi=>by rw [List.mem_singleton.mp hi]; exact plain_ok h.1
 | .adjust a b,h,it,hi=>by rw [List.mem_singleton.mp hi]; exact plain_ok h.1
 | .ligature as b,h,it,hi=>by
  refine xi1 ?_ (List.mem_map.mp hi)
  intro a
  refine im2 ?_
  intro ha hq43
  obtain rfl:=hq43
  exact plain_ok (h.2.2.1 a ha)
 | .pair a b w,h,it,hi=>by
  rcases List.mem_cons.mp hi with rfl | hi
  ·exact plain_ok h.1
  ·rw [List.mem_singleton.mp hi]
   exact plain_ok h.2.1
 | .chain w back ins ahead,h,it,hi=>by
  refine im5 ?_ (h)
  intro _ h1 h2 h3 _
  have u:∀ {g},SetOk g→ItemOk (mkU g):=fun {g} s=>⟨s.1,s.2.1,s.2.2.1,s.2.2.2,by simp [mkU],by simp [mkU],fun _=>rfl⟩
  rcases List.mem_append.mp hi with hi | hi
  ·rcases List.mem_append.mp hi with hi | hi
   ·refine xi1 ?_ (List.mem_map.mp hi)
    intro g
    refine im2 ?_
    intro hg hq44
    obtain rfl:=hq44
    exact u (h1 g hg)
   ·refine xi1 ?_ (List.mem_map.mp hi)
    intro p
    refine im2 ?_
    intro hp hq45
    obtain rfl:=hq45
    refine im3 ?_ (h2 p hp)
    intro s z1 z2
    exact ⟨s.1,s.2.1,s.2.2.1,s.2.2.2,z1,z2,fun e=>by cases e⟩
  ·refine xi1 ?_ (List.mem_map.mp hi)
   intro g
   refine im2 ?_
   intro hg hq46
   obtain rfl:=hq46
   exact u (h3 g hg)
theorem gm_false:∀ (ms:List Bool) (p o:Bool),(∀ m∈ms,m=false)→goodMarks p o ms=true
 | [],_,_,_=>rfl
 | m::r,p,o,h=>by
  have hm:=h m (by simp)
  subst hm
  rw [gm_cons]
  rw [gm_false r _ _ (fun x hx=>h x (by simp [hx]))]
  simp
theorem gm_true:∀ (m:Nat) (fs:List Bool),(∀ x∈fs,x=false)→goodMarks true false (List.replicate m true++fs)=true
 | 0,fs,h=>gm_false fs _ _ h
 | m+1,fs,h=>by
  rw [List.replicate_succ,List.cons_append]
  rw [gm_cons]
  simpa using gm_true m fs h
theorem gm_back:∀ (b m:Nat) (fs:List Bool),(∀ x∈fs,x=false)→goodMarks false false (List.replicate b false++(List.replicate m true++fs))=true
 | 0,0,fs,h=>gm_false fs _ _ h
 | 0,m+1,fs,h=>by
  rw [List.replicate_succ]
  show goodMarks false false (true::(List.replicate m true++fs))=true
  rw [gm_cons]
  simpa using gm_true m fs h
 | b+1,m,fs,h=>by
  rw [List.replicate_succ,List.cons_append]
  rw [gm_cons]
  simpa using gm_back b m fs h
theorem chain_marks (back:List (List (List Nat))) (ins:List (List (List Nat)×List (List Nat))) (ahead:List (List (List Nat))):(chainIts back ins ahead).map (·.marked)=List.replicate back.length false++(List.replicate ins.length true++List.replicate ahead.length false):=by
 unfold chainIts
 rw [List.map_append,List.map_append,List.map_map,List.map_map,List.map_map,List.append_assoc]
 congr 1
 ·exact List.eq_replicate_iff.mpr ⟨by simp,fun b hb=>by obtain ⟨_,_,rfl⟩:=List.mem_map.mp hb; rfl⟩
 ·congr 1
  ·exact List.eq_replicate_iff.mpr ⟨by simp,fun b hb=>by obtain ⟨_,_,rfl⟩:=List.mem_map.mp hb; rfl⟩
  ·exact List.eq_replicate_iff.mpr ⟨by simp,fun b hb=>by obtain ⟨_,_,rfl⟩:=List.mem_map.mp hb; rfl⟩
theorem good_tail {p:Bool} {ms:List Bool} (h:goodMarks false false (p::ms)=true):goodMarks p false ms=true:=by
 rw [gm_cons] at h
 simpa using h
theorem rowIts_marks:∀ {row:RowD},RowOk row→goodMarks false false ((rowIts row).map (·.marked))=true
 | .single a b,_=>rfl
 | .multiple a b,_=>rfl
 | .alternate a b,_=>rfl
 | .adjust a b,_=>rfl
 | .pair a b w,_=>rfl
 | .ligature as b,_=>gm_false _ _ _ fun m hm=>by
  refine xi1 ?_ (List.mem_map.mp hm)
  intro _
  refine im2 ?_
  intro h hq47
  obtain rfl:=hq47
  refine xi1 ?_ (List.mem_map.mp h)
  intro _
  refine im2 ?_
  intro _ hq48
  obtain rfl:=hq48
  rfl
 | .chain w back ins ahead,h=>by
  show goodMarks false false ((chainIts back ins ahead).map (·.marked))=true
  rw [chain_marks]
  exact gm_back _ _ _ fun x hx=>(List.eq_of_mem_replicate hx)
theorem rowIts_len {row:RowD} (h:RowOk row):rowIts row≠[]∧(rowIts row).length < 1000:=by
 cases row with
 | ligature as b =>
  refine im3 ?_ (h)
  intro h1 h2 _
  refine ⟨fun e=>?_,by show (as.map plainIt).length < _; rw [List.length_map]; exact ar107 h2⟩
  have:=congrArg List.length e
  simp [rowIts] at this
  rw [this] at h1
  simp at h1
 | chain w back ins ahead =>
  refine im7 ?_ (h)
  intro _ _ _ _ h5 h6 _
  refine ⟨fun e=>?_,by show (chainIts back ins ahead).length < _; simp [chainIts]; exact ar108 h6⟩
  have:=congrArg List.length e
  simp [rowIts,chainIts] at this
  exact h5 this.2.1
 | _=>exact ⟨by simp [rowIts],by simp [rowIts]⟩
theorem num_head {i:Int} (h:numIn i=true):Stop (numT i)∧(numT i==tx "["||isName (numT i))=false:=by
 simp only [numIn,numOkB,Bool.and_eq_true] at h
 refine im2 ?_ (h)
 refine im2 ?_
 refine im2 ?_
 refine im2 ?_
 refine im2 ?_
 intro h1 h2 h3 h4 _ _
 have hb:∀ w:List Nat,(match w with | x::_=>!decide (x∈c_LETTERS) | []=>false)=true→(w.getLast?.elim false fun x=>decide (x∈c_FIGURES))=true→Stop w∧(w==tx "["||isName w)=false:=by
  intro w e1 e2
  have n1:w≠tx "[":=by rintro rfl; revert e2; decide +kernel
  refine ⟨⟨by rintro rfl; revert e2; decide +kernel,by rintro rfl; revert e2; decide +kernel⟩,?_⟩
  rw [beq_eq_false_iff_ne.mpr n1,Bool.false_or]
  cases w with
  | nil=>rfl
  | cons x r =>
   rw [isName_cons]
   have:decide (x∈c_LETTERS)=false:=by simpa using e1
   rw [this,Bool.false_and]
 refine hb _ h4 ?_
 cases e:(numT i).getLast? with
 | none=>rw [e] at h3; cases h3
 | some x=>rw [e] at h3; exact h3
theorem worth_head {w:Worth} (h:worthOk w=true) (long:Bool):∃ x ws,worthW w long=x::ws∧Stop x∧(x==tx "["||isName x)=false:=by
 simp only [worthOk,Bool.and_eq_true] at h
 unfold worthW
 split
 ·exact xc2_2 _ _ rfl (num_head h.1.2)
 ·exact xc2_3 _ _ rfl ⟨by decide +kernel,by decide +kernel⟩ (by decide +kernel)
theorem tail_head {row:RowD} (h:RowOk row) (long:Bool):∃ x ws,rowTail row long++[tx ";"]=x::ws∧Stop x∧(x==tx "["||isName x)=false:=by
 revert h
 revert row long
 walk_at "close 2"
 intro row long h
 have by_ok:Stop (tx "by")∧(tx "by"==tx "["||isName (tx "by"))=false:=⟨⟨by decide +kernel,by decide +kernel⟩,by decide +kernel⟩
 cases row with
 | single a b=>exact ⟨_,_,rfl,by_ok⟩
 | multiple a bs=>cases bs <;> exact ⟨_,_,rfl,by_ok⟩
 | ligature as b=>exact ⟨_,_,rfl,by_ok⟩
 | alternate a bs=>exact ⟨_,_,rfl,⟨by decide +kernel,by decide +kernel⟩,by decide +kernel⟩
 | chain w b i a=>exact ⟨_,_,rfl,⟨by decide +kernel,by decide +kernel⟩,by decide +kernel⟩
 | adjust a w =>
  refine xi2 ?_ (worth_head h.2 long)
  intro x ws
  refine im2 ?_
  intro e z
  exact xc2_2 x (ws++[tx ";"]) (by show worthW w long++_=_; rw [e]; rfl) z
 | pair a b w =>
  refine xi2 ?_ (worth_head h.2.2 long)
  intro x ws
  refine im2 ?_
  intro e z
  exact xc2_2 x (ws++[tx ";"]) (by show worthW w long++_=_; rw [e]; rfl) z
theorem Ext.put {τ σ':St} {a:Addr} {o:MObj} (h:Ext τ σ') (e:σ' a=some o):Ext (upM τ a o) σ':=fun b o' z=>by
 unfold upM at z; split at z
 ·rename_i q; rw [q,e]; exact z
 ·exact h _ _ z
section
variable {c:Cx} {k:Nat} {σ:St} {Q:V→St→Prop}
variable {r d wl:Addr} {W:List (List Nat×Nat)} {nm:V} {n m:Nat}
theorem Rd.put {U:Addr} {o:MObj} {us:List V} (h:Rd σ r d wl W nm n) (e:σ U=some (.list us)) (hw:U≠wl):Rd (upM σ U o) r d wl W nm n:=by
 refine ⟨?_,?_,?_,h.chars,h.len⟩
 ·rw [upd_ne]
  exact h.obj
  rintro rfl
  have:=h.obj
  rw [e] at this
  cases this
 ·rw [upd_ne]
  exact h.dict
  rintro rfl
  have:=h.dict
  rw [e] at this
  cases this
 ·rw [upd_ne _ _ (Ne.symm hw)]
  exact h.words
theorem Rd.neL {U:Addr} {us:List V} (h:Rd σ r d wl W nm n) (e:σ U=some (.list us)):U≠d∧U≠r:=by
 refine ⟨?_,?_⟩
 ·rintro rfl
  rw [h.dict] at e
  cases e
 ·rintro rfl
  rw [h.obj] at e
  cases e
theorem upd_comm {a b:Addr} {x y:MObj} (h:a≠b):upM (upM σ a x) b y=upM (upM σ b y) a x:=by
 funext z; unfold upM
 by_cases h1:z=a
 ·subst h1
  rw [if_neg h,if_pos rfl,if_pos rfl]
 ·by_cases h2:z=b
  ·subst h2
   rw [if_pos rfl,if_neg h1,if_pos rfl]
  ·rw [if_neg h2,if_neg h1,if_neg h1,if_neg h2]
theorem pos_ne_sub:¬ tx "pos"=tx "sub":=by decide +kernel
theorem plain_words (as:List (List Nat)):itemsW (as.map plainIt) false=as:=by
 induction as with
 | nil=>rfl
 | cons a r ih =>
  show itemW (plainIt a) false++itemsW (r.map plainIt) false=_
  rw [ih]
  rfl
theorem sub_of {row:RowD} (h:RowOk row) (hs:rowHead row=tx "sub") (hc:∀ w b i a,row≠.chain w b i a):∃ as,rowIts row=as.map plainIt∧∀ long,SubT row as (rowTail row long):=by
 cases row with
 | single a b=>exact ⟨[a],rfl,fun _=>.single h.2⟩
 | multiple a bs =>
  cases bs with
  | nil=>exact ⟨[a],rfl,fun _=>.none⟩
  | cons b bs =>
   cases bs with
   | nil =>
    rcases h.2.1 with z | ⟨z,_⟩
    ·cases z
    ·simp at z
   | cons b' bs =>
    rcases h.2.1 with z | ⟨_,z⟩
    ·cases z
    ·exact xc1_2 [a] rfl (fun _=>.multiple h.2.2 (by simp at z; exact ar109 z))
 | alternate a bs=>exact ⟨[a],rfl,fun _=>.alternate h.2.1 h.2.2.1 h.2.2.2.1 h.2.2.2.2⟩
 | ligature as b =>
  refine im4 ?_ (h)
  intro h1 h2 h3 h4
  match as,h1 with
  | a::a'::as,_=>exact ⟨a::a'::as,rfl,fun _=>.ligature h4 (by simp at h2; exact ar109 h2)⟩
 | adjust a w=>exact absurd hs pos_ne_sub
 | pair a b w=>exact absurd hs pos_ne_sub
 | chain w b i a=>exact absurd rfl (hc w b i a)
theorem pos_of {row:RowD} (hs:rowHead row≠tx "sub") (hc:∀ w b i a,row≠.chain w b i a) (h:RowOk row):∃ as w,rowIts row=as.map plainIt∧((∃ a,as=[a]∧row=.adjust a w)∨∃ a b,as=[a,b]∧row=.pair a b w)∧worthOk w=true∧∀ long,rowTail row long=worthW w long:=by
 cases row with
 | adjust a w=>exact ⟨[a],w,rfl,.inl ⟨a,rfl,rfl⟩,h.2,fun _=>rfl⟩
 | pair a b w=>exact ⟨[a,b],w,rfl,.inr ⟨a,b,rfl,rfl⟩,h.2.2,fun _=>rfl⟩
 | chain w b i a=>exact absurd rfl (hc w b i a)
 | _=>exact absurd rfl hs
theorem semi_not:isName (tx ";")=false:=by decide +kernel
theorem rowLong_no {row:RowD} {long:Bool} (hnc:∀ w b i a,row≠.chain w b i a):rowLong row long=false:=by cases row <;> first | rfl | exact absurd rfl (hnc _ _ _ _)
theorem rowUses_no {row:RowD} (hnc:∀ w b i a,row≠.chain w b i a):rowUses row=[]:=by cases row <;> first | rfl | exact absurd rfl (hnc _ _ _ _)
theorem mem_one {a:List Nat} {P:List Nat→Prop} (h:P a):∀ x∈[a],P x:=fun x hx=>List.mem_singleton.mp hx ▸ h
theorem row_plain {row:RowD} (ok:RowOk row) (hnc:∀ w b i a,row≠.chain w b i a):∃ as:List (List Nat),rowIts row=as.map plainIt∧∀ a∈as,a∈c_glyphs:=by
 cases row with
 | chain w b i a=>exact absurd rfl (hnc w b i a)
 | single a b=>exact ⟨[a],rfl,mem_one ok.1⟩
 | multiple a b=>exact ⟨[a],rfl,mem_one ok.1⟩
 | alternate a b=>exact ⟨[a],rfl,mem_one ok.1⟩
 | adjust a w=>exact ⟨[a],rfl,mem_one ok.1⟩
 | ligature as b=>exact ⟨as,rfl,ok.2.2.1⟩
 | pair a b w=>exact ⟨[a,b],rfl,fun x hx=>(List.mem_cons.mp hx).elim (fun e=>e ▸ ok.1) (mem_one ok.2.1 x)⟩
theorem w_read_row (pc:PC c) (h:Rd σ r d wl W nm n) (kn:Knows c σ nm) {U:Addr} {old:Toks} {row:RowD} {long:Bool} {rest:List (List Nat)} (ok:RowOk row) (eU:σ U=some (.list (old.map tokV))) (hUw:U≠wl) (uz:old.length < 100000)
  (ah:Ahead W n (rowW row long++rest))
  (q:∀ σ' R new,Ext (upM (upM σ U (.list ((old++new).map tokV))) d (rdD wl nm (n+(rowW row long).length))) σ'→new.map (·.1)=rowUses row→RowR σ' R row→Q (.ref R) σ'):CallC c (k+6) (.ref 391) [.ref r,.ref U] σ Q:=by
 revert pc h kn ok eU hUw uz ah q
 revert c; revert k; revert σ; revert Q; revert r; revert d; revert wl; revert W; revert nm; revert n; revert U old row long rest
 walk_at "close 15"
 intro U old row long rest n nm W wl d r Q σ k c pc h kn ok eU hUw uz ah q
 refine im2 ?_ (h.neL eU)
 intro hUd hUr
 obtain ⟨i0,its,eits⟩:∃ i0 its,rowIts row=i0::its:=by
  cases e:rowIts row with
  | nil=>exact absurd e (rowIts_len ok).1
  | cons a b=>exact ⟨a,b,rfl⟩
 refine xi2 ?_ (tail_head ok long)
 intro x0 xs
 refine im3 ?_
 intro ex0 st0 st1
 have eW:rowW row long++rest=rowHead row::(itemsW (i0::its) (rowLong row long)++x0::(xs++rest)):=by
  unfold rowW
  rw [eits,ex0]
  simp
 have eL:(rowW row long).length=1+(itemsW (i0::its) (rowLong row long)).length+(rowTail row long).length+1:=by
  unfold rowW
  rw [eits]
  simp
  exact ar110
 have ah0:=ah
 rw [eW] at ah0
 refine xi1 ?_ (ah0.here)
 intro p hp
 have gm:goodMarks i0.marked false (its.map (·.marked))=true:=by
  have:=rowIts_marks ok
  rw [eits] at this
  exact good_tail this
 have oki:∀ it∈i0::its,ItemOk it:=by rw [← eits]; exact rowIts_ok ok
 have hz:=(rowIts_len ok).2
 rw [eits,List.length_cons] at hz
 walk_at "def 2"
 walk_at "g"
 refine xc1_2 _ (h.meth pc (me_RuleReader_take pc) (ke_RuleReader_take pc) rfl) ?_
 walk_at "g"
 refine (w_take pc h hp ?_).toW
 have hR1:=h.move (n+1)
 have kn1:Knows c (upM σ d (rdD wl nm (n+1))) nm:=kn.st h (Ext.refl _)
 walk_at "g"
 refine xc1_2 _ (hR1.a_at pc) ?_
 walk_at "g"
 refine (w_read_items pc hR1 kn1 oki gm (by exact ar111 hz) ah0.next st0 st1 fun σ₁ I vs ex hI eI al=>?_).toW
 rw [upd_upd] at ex
 have hI0:=(none_of_upd hI).2
 have hUI:U≠I:=by exact (neO hI0 eU).symm
 have hR2:=h.st ex
 have eU1:σ₁ U=some (.list (old.map tokV)):=ex.off hUd eU
 have alL:All2 ItemL vs (i0::its):=al.imp fun _ _ z=>z.l
 have ahT:Ahead W (n+1+(itemsW (i0::its) (rowLong row long)).length) (rowTail row long++tx ";"::rest):=by
  have h1:=ah0.next.skip
  have:x0::(xs++rest)=rowTail row long++tx ";"::rest:=by
   have:=congrArg (·++rest) ex0
   simp at this
   rw [this]
  rw [this] at h1
  exact h1
 walk_at "g"
 refine (w_is_marked pc eI alL (by simp; exact ar112 hz) fun σ₂ ex2=>?_).toW
 have hR3:=hR2.ext ex2
 have kn3:=(kn.st h ex).ext ex2
 walk_at "g"
 have eU2:σ₂ U=some (.list (old.map tokV)):=ex2 _ _ eU1
 have eI2:=ex2 _ _ eI
 have exA:Ext (upM σ d (rdD wl nm (n+1+(itemsW (i0::its) (rowLong row long)).length))) σ₂:=ex.trans ex2
 by_cases hc:∃ w b i a,row=.chain w b i a
 ·refine xi4 ?_ (hc)
  intro word back ins ahead hq49
  obtain rfl:=hq49
  have e1:(i0::its).any (·.marked)=true:=by
   rw [← eits]
   show (chainIts back ins ahead).any (·.marked)=true
   rw [List.any_eq_true]
   obtain ⟨p,hp⟩:∃ p,p∈ins:=by
    cases ins with
    | nil=>exact absurd rfl ok.2.2.2.2.1
    | cons p _=>exact ⟨p,by simp⟩
   exact xc1_2 (mkM p) (by simp [chainIts]; exact .inr (.inl ⟨p.1,p.2,hp,rfl⟩)) rfl
  rw [e1]
  walk_at "g"
  have al2:All2 (ItemR (upM σ d (rdD wl nm (n+1))) σ₂) vs (chainIts back ins ahead):=by
   have:chainIts back ins ahead=i0::its:=eits
   rw [this]
   exact al.imp fun v it z=>let ⟨L,t,z1,z2,z3,z4⟩:=z; ⟨L,t,z1,z2,ex2 _ _ z3,z4⟩
  refine (w_chain_row pc eI2 al2 eU2 (by rw [upd_ne _ _ hUd,eU]; intro z; cases z) hUI ok.2.2.2.2.1 (by have:=ok.2.2.2.2.2.1; exact ar107 this) (by have:=ok.2.2.2.2.2.2; exact ar113 uz this) fun σ' R new ex' en hr=>?_).toW
  have hR4:=(hR3.put (o:=.list ((old++new).map tokV)) eU2 hUw).ext ex'
  walk_at "g"
  refine xc1_2 _ (hR4.meth pc (me_RuleReader_need pc) (ke_RuleReader_need pc) rfl) ?_
  walk_at "g"
  refine xi1 ?_ (Ahead.here ahT)
  intro p hp
  refine (w_need pc hR4 hp ?_).toW
  refine ⟨rfl,?_⟩
  walk_at "g"
  refine q _ R new ?_ en (hr.st hR4 (Ext.refl _))
  have:Ext (upM (upM σ U (.list ((old++new).map tokV))) d (rdD wl nm (n+1+(itemsW (i0::its) (rowLong (.chain word back ins ahead) long)).length))) σ':=by
   rw [upd_comm hUd]
   exact (exA.upd U _).trans ex'
  have fin:=this.over (Ext.refl (upM σ' d (rdD wl nm (n+1+(itemsW (i0::its) (rowLong (.chain word back ins ahead) long)).length+1))))
  rw [show n+(rowW (.chain word back ins ahead) long).length=n+1+(itemsW (i0::its) (rowLong (.chain word back ins ahead) long)).length+1 by
   rw [eL,show (rowTail (.chain word back ins ahead) long).length=0 from rfl]
   exact ar114]
  exact fin
 ·have hnc:∀ w b i a,row≠.chain w b i a:=fun w b i a e=>hc ⟨w,b,i,a,e⟩
  have hlong:rowLong row long=false:=rowLong_no hnc
  have huse:rowUses row=[]:=rowUses_no hnc
  refine xi1 ?_ (row_plain ok hnc)
  intro as
  refine im2 ?_
  intro has hag
  have eas:i0::its=as.map plainIt:=by rw [← eits,has]
  have eall:itemsW (i0::its) (rowLong row long)=as:=by rw [hlong,eas,plain_words]
  rw [eall] at exA ahT eL
  rw [eall] at hR3
  have e1:(i0::its).any (·.marked)=false:=by
   rw [eas,List.any_eq_false]
   intro x hx
   refine xi1 ?_ (List.mem_map.mp hx)
   intro a
   refine im2 ?_
   intro _ hq50
   obtain rfl:=hq50
   exact Bool.false_ne_true
  rw [e1]
  walk_at "g"
  have ah1:=ah0.next
  rw [eall] at ah1
  refine (w_refuse_sets pc (n:=n+1) (m:=as.length) hR3 (fun i hi=>?_) ?_ ?_).toW
  ·have h1:(W.map (·.1))[n+1+i]?=some (as[i]'hi):=by
    have:=ah1
    unfold Ahead at this
    have h2:((W.map (·.1)).drop (n+1))[i]?=some (as[i]'hi):=by rw [this,List.getElem?_append_left hi,List.getElem?_eq_getElem hi]
    rwa [List.getElem?_drop] at h2
   rw [List.getElem?_map] at h1
   cases e:W[n+1+i]? with
   | none=>rw [e] at h1; cases h1
   | some x =>
    rw [e] at h1
    simp at h1
    exact xc2_2 x.1 x.2 rfl (by rw [h1]; exact (glyph_not (hag _ (List.getElem_mem hi))).2.1)
  ·refine xi2 ?_ (tail_head ok long)
   intro x xs
   refine im2 ?_
   intro e _
   have:=ahT
   obtain ⟨p,hp⟩:∃ p:List Nat×Nat,W[n+1+as.length]?=some p:=by
    cases e2:rowTail row long++tx ";"::rest with
    | nil=>simp at e2
    | cons a b=>rw [e2] at this; obtain ⟨p,hp⟩:=this.here; exact ⟨_,hp⟩
   have:=(List.getElem?_eq_some_iff.mp hp).1
   have:=h.len
   exact ar25 (by assumption) this
  refine ⟨rfl,?_⟩
  have fin:∀ σ' R,Ext (upM σ₂ d (rdD wl nm (n+1+as.length+(rowTail row long).length))) σ'→RowR σ' R row→Rd σ' r d wl W nm (n+1+as.length+(rowTail row long).length)∧Ahead W (n+1+as.length+(rowTail row long).length) (tx ";"::rest)∧Q (.ref R) (upM σ' d (rdD wl nm (n+1+as.length+(rowTail row long).length+1))):=fun σ' R ex' hr=>by
   have hR4:=hR3.st ex'
   refine xc0_3 hR4 ahT.skip (q _ R [] ?_ (by rw [huse]; rfl) (hr.st hR4 (Ext.refl _)))
   have e2:Ext (upM σ d (rdD wl nm (n+1+as.length+(rowTail row long).length))) σ':=exA.over ex'
   have e3:σ' U=some (.list (old.map tokV)):=ex'.off hUd eU2
   have e5:Ext (upM (upM σ U (.list ((old++[]).map tokV))) d (rdD wl nm (n+1+as.length+(rowTail row long).length))) σ':=by
    rw [upd_comm hUd,List.append_nil]
    exact e2.put e3
   rw [show n+(rowW row long).length=n+1+as.length+(rowTail row long).length+1 by rw [eL]; exact ar115]
   exact e5.over (Ext.refl _)
  walk_at "st"
  walk_at "st"
  refine EV.mono' (Q:=fun v σ'=>∃ R,v=.ref R∧Ext (upM σ₂ d (rdD wl nm (n+1+as.length+(rowTail row long).length))) σ'∧RowR σ' R row) ?_ ?_
  ·walk_at "g"
   by_cases hs:rowHead row=tx "sub"
   ·rw [show (rowHead row==(Str.ofString "sub").cps.toList)=true by rw [hs]; exact beq_self_eq_true _]
    walk_at "g"
    refine xi1 ?_ (sub_of ok hs hnc)
    intro as'
    refine im2 ?_
    intro h1 h2
    refine (w_read_substitution_row pc hR3 kn3 eI2 (by rw [← h1,eits]; exact alL) (h2 long) ahT semi_not fun σ' R x1 x2=>⟨R,rfl,x1,x2⟩).toW
   ·rw [show (rowHead row==(Str.ofString "sub").cps.toList)=false from beq_eq_false_iff_ne.mpr hs]
    walk_at "g"
    refine xi2 ?_ (pos_of hs hnc ok)
    intro as' w
    refine im4 ?_
    intro h1 h2 h3 h4
    rw [h4] at ahT ⊢
    refine (w_read_position_row pc hR3 eI2 (by rw [← h1,eits]; exact alL) h2 h3 ahT fun σ' R x1 x2=>⟨R,rfl,x1,x2⟩).toW
  intro _ σ'
  refine xi1 ?_
  intro R
  refine im3 ?_
  intro hq51
  obtain rfl:=hq51
  intro x1 x2
  refine im3 ?_ (fin σ' R x1 x2)
  intro hR4 ah4 qq
  walk_at "g"
  refine xc1_2 _ (hR4.meth pc (me_RuleReader_need pc) (ke_RuleReader_need pc) rfl) ?_
  walk_at "g"
  refine xi1 ?_ (ah4.here)
  intro p hp
  refine (w_need pc hR4 hp ?_).toW
  refine ⟨rfl,?_⟩
  walk_at "g"
  exact qq
end
noncomputable def leftV (row:RowD):V:=match row with
 | .chain ..=>.none
 | .pair ..=>.tup ((partsV row).take 2)
 | _=>.tup ((partsV row).take 1)
noncomputable def isChain:RowD→Bool
 | .chain ..=>true
 | .single ..=>false
 | .multiple ..=>false
 | .alternate ..=>false
 | .ligature ..=>false
 | .adjust ..=>false
 | .pair ..=>false
theorem kind_chain (row:RowD):(kindT row==tx "chain")=isChain row:=by cases row <;> kernel_rfl
theorem kind_pair (row:RowD):(kindT row==tx "pair")=(match row with | .pair ..=>true | _=>false):=by cases row <;> kernel_rfl
theorem kind_ch (row:RowD):chOk (kindT row)=true∧(kindT row).length < 100:=by cases row <;> exact ⟨by kernel_rfl,Nat.le_of_ble_eq_true (by kernel_rfl)⟩
noncomputable def rowV (row:RowD):V:=.tup [.str (kindT row),.tup (partsV row)]
theorem cut_take {α:Type} (l:List α) (j:Nat) (h:j≤l.length):cutL l none (some ((j:Nat):Int))=l.take j:=by
 unfold cutL clipN
 simp only [Option.elim]
 rw [clip_nat h]
 simp
theorem CompQ.list {c:Cx} {k:Nat} {sc:Scope} {ρ:Loc} {Q:V→St→Prop} {elt target:Expr} {scope:Scope} {items:List V} {Ok:St→Prop} {σ₁:St} (ys:List V) (hy:ys.length=items.length) (hz:items.length < 2 ^ 24) (hOk:∀ τ,Ext σ₁ τ→Ok τ)
  (step:∀ (i:Nat) (x y:V),items[i]?=some x→ys[i]?=some y→∀ τ,Ext σ₁ τ→∃ ρ',CTg (compScope sc scope) target x (compLoc scope ρ) ρ'∧EV c k elt (compScope sc scope) ρ' τ fun v τ'=>v=y∧Ext τ τ')
  (q:∀ D τ,σ₁ D=none→Ext σ₁ τ→τ D=some (.list ys)→Q (.ref D) τ):CompQ c k elt target [] scope sc ρ Q items Ok σ₁:=by
 revert hy hz hOk step q
 revert c; revert k; revert sc; revert ρ; revert Q; revert elt target scope items Ok σ₁ ys
 walk_at "close 12"
 intro elt target scope items Ok σ₁ ys Q ρ sc k c hy hz hOk step q
 refine ⟨by delta sizeLine; exact ar53 hz,fun D hD=>?_⟩
 refine xc1_4 (fun i acc τ=>i≤items.length∧Ext σ₁ τ∧τ D=some (.list acc)∧acc=ys.take i) ⟨Nat.zero_le _,Ext.fresh hD,upd_self _ _ _,rfl⟩ ?_ ?_ ?_
 ·intro i acc τ
  refine im4 ?_
  intro h1 h2 h3 hq52
  obtain rfl:=hq52
  exact xc0_3 (hOk τ h2) h3 (by rw [List.length_take]; exact ar54)
 ·intro i acc τ x hx
  refine im4 ?_
  intro h1 h2 h3 h4
  have hlt:=(List.getElem?_eq_some_iff.mp hx).1
  have hy':ys[i]?=some (ys[i]'(by exact ar88 hy hlt)):=List.getElem?_eq_getElem _
  refine xi1 ?_ (step i x _ hx hy' τ h2)
  intro ρ'
  refine im2 ?_
  intro tg hE
  refine xc1_2 ρ' tg ?_
  refine CondV.nil (iteT ?_)
  refine hE.mono fun v τ'' z=>?_
  refine im2 ?_ (z)
  intro hq53
  obtain rfl:=hq53
  intro e2
  refine xc0_5 (e2 _ _ h3) hlt (Ext.bump (h2.trans e2) hD) (upd_self _ _ _) ?_
  rw [List.take_add_one,hy',h4]
  rfl
 ·intro acc τ
  refine im4 ?_
  intro h1 h2 h3 h4
  rw [← hy,List.take_length] at h4
  exact q D τ hD h2 (by rw [h3,h4])
section
variable {c:Cx} {k:Nat} {σ:St} {Q:V→St→Prop}
variable {r d wl:Addr} {W:List (List Nat×Nat)} {nm:V} {n m:Nat}
variable {R:Addr} {row:RowD}
theorem RowR.kind (pc:PC c) (h:RowR σ R row):AttrR c σ (.ref R) "kind" (.str (kindT row)):=let ⟨d,a,b⟩:=h; AttrR.of pc a b (pl_RuleRow pc) (fa_RuleRow_kind pc) rfl rfl
theorem RowR.parts (pc:PC c) (h:RowR σ R row):AttrR c σ (.ref R) "parts" (.tup (partsV row)):=let ⟨d,a,b⟩:=h; AttrR.of pc a b (pl_RuleRow pc) (fa_RuleRow_parts pc) rfl rfl
theorem RowR.meth (h:RowR σ R row) {name:Str} {f:Addr} (hm:methIn c.K 166 name f=true) (hk:keepIn c.K (.ref f)=true) (ho:getV [("kind",V.none),("parts",V.none)] name=none):MethR c k name (.ref R) σ (.ref f):=by
 refine xi1 ?_ (h)
 intro d
 refine im2 ?_
 intro a b
 refine MethR.own a b hm hk ?_
 unfold getV at ho ⊢
 simp only [List.lookup_cons,List.lookup_nil] at ho ⊢
 (repeat' split at ho) <;> first | cases ho | skip
 simp_all
theorem w_row_told (pc:PC c) (h:RowR σ R row) (q:Q (rowV row) σ):CallC c (k+1) (.ref 149) [.ref R] σ Q:=by
 walk_at "def 1"
 walk_at "g"
 refine xc1_2 _ (h.kind pc) ?_
 walk_at "g"
 refine xc1_2 _ (h.parts pc) ?_
 walk_at "g"
 exact q
theorem w_row_word (pc:PC c) (h:RowR σ R row) (q:Q (.str (rowHead row)) σ):CallC c (k+1) (.ref 156) [.ref R] σ Q:=by
 revert pc h q
 revert c; revert k; revert σ; revert Q; revert R; revert row
 walk_at "close 6"
 intro row R Q σ k c pc h q
 walk_at "def 1"
 walk_at "g"
 refine xc1_2 _ (h.kind pc) ?_
 walk_at "g"
 rw [show (kindT row==(Str.ofString "chain").cps.toList)=isChain row from kind_chain row]
 cases hc:isChain row with
 | true =>
  walk_at "g"
  refine xc1_2 _ (h.parts pc) ?_
  cases row with
  | chain w b i a =>
   walk_at "g"
   refine TailW.tup (m:=0) (fun _ _=>rfl) (by decide) (by decide) rfl rfl ?_
   exact q
  | _=>cases hc
 | false =>
  walk_at "g"
  refine xc1_2 _ (h.kind pc) ?_
  walk_at "g"
  refine Op2.inTup (ok_str (kind_ch row).1) (oks_strs (ls:=[tx "adjust",tx "pair"]) (by decide +kernel)) (depth_str _) ?_
  rw [show vin (.str (kindT row)) [V.str (Str.ofString "adjust").cps.toList,V.str (Str.ofString "pair").cps.toList]=decide (kindT row∈[tx "adjust",tx "pair"]) from vin_str _ [tx "adjust",tx "pair"]]
  have hm:decide (kindT row∈[tx "adjust",tx "pair"])=(match row with | .pair ..=>true | .adjust ..=>true | _=>false):=by cases row <;> kernel_rfl
  rw [hm]
  cases row with
  | chain w b i a=>cases hc
  | adjust a w=>walk_at "g"; exact q
  | pair a b w=>walk_at "g"; exact q
  | single a b=>walk_at "g"; exact q
  | multiple a b=>walk_at "g"; exact q
  | alternate a b=>walk_at "g"; exact q
  | ligature a b=>walk_at "g"; exact q
theorem w_row_left (pc:PC c) (h:RowR σ R row) (q:Q (leftV row) σ):CallC c (k+1) (.ref 163) [.ref R] σ Q:=by
 revert pc h q
 revert c; revert k; revert σ; revert Q; revert R; revert row
 walk_at "close 6"
 intro row R Q σ k c pc h q
 walk_at "def 1"
 walk_at "g"
 refine xc1_2 _ (h.kind pc) ?_
 walk_at "g"
 rw [show (kindT row==(Str.ofString "chain").cps.toList)=isChain row from kind_chain row]
 cases hc:isChain row with
 | true =>
  walk_at "g"
  cases row with
  | chain w b i a=>exact q
  | _=>cases hc
 | false =>
  walk_at "g"
  refine xc1_2 _ (h.kind pc) ?_
  walk_at "g"
  rw [show (kindT row==(Str.ofString "pair").cps.toList)=_ from kind_pair row]
  have two:(partsV row).length < 2 ^ 24:=by cases row <;> simp [partsV]
  cases row with
  | chain w b i a=>cases hc
  | pair a b w =>
   walk_at "g"
   refine xc1_2 _ (h.parts pc) ?_
   walk_at "g"
   refine CutW.tup (by delta sizeLine; exact ar53 two) ?_
   rw [show (some (2:Int))=some ((2:Nat):Int) from rfl,cut_take _ 2 (by simp [partsV])]
   exact q
  | adjust a w =>
   walk_at "g"
   refine xc1_2 _ (h.parts pc) ?_
   walk_at "g"
   refine CutW.tup (by delta sizeLine; exact ar53 two) ?_
   rw [show (some (1:Int))=some ((1:Nat):Int) from rfl,cut_take _ 1 (by simp [partsV])]
   exact q
  | single a b =>
   walk_at "g"
   refine xc1_2 _ (h.parts pc) ?_
   walk_at "g"
   refine CutW.tup (by delta sizeLine; exact ar53 two) ?_
   rw [show (some (1:Int))=some ((1:Nat):Int) from rfl,cut_take _ 1 (by simp [partsV])]
   exact q
  | multiple a b =>
   walk_at "g"
   refine xc1_2 _ (h.parts pc) ?_
   walk_at "g"
   refine CutW.tup (by delta sizeLine; exact ar53 two) ?_
   rw [show (some (1:Int))=some ((1:Nat):Int) from rfl,cut_take _ 1 (by simp [partsV])]
   exact q
  | alternate a b =>
   walk_at "g"
   refine xc1_2 _ (h.parts pc) ?_
   walk_at "g"
   refine CutW.tup (by delta sizeLine; exact ar53 two) ?_
   rw [show (some (1:Int))=some ((1:Nat):Int) from rfl,cut_take _ 1 (by simp [partsV])]
   exact q
  | ligature a b =>
   walk_at "g"
   refine xc1_2 _ (h.parts pc) ?_
   walk_at "g"
   refine CutW.tup (by delta sizeLine; exact ar53 two) ?_
   rw [show (some (1:Int))=some ((1:Nat):Int) from rfl,cut_take _ 1 (by simp [partsV])]
   exact q
noncomputable def RowVs (σ:St) (vs:List V) (rs:List RowD):Prop:=All2 (fun v row=>∃ R,v=.ref R∧RowR σ R row) vs rs
theorem RowVs.ext {τ:St} {vs:List V} {rs:List RowD} (h:RowVs σ vs rs) (x:Ext σ τ):RowVs τ vs rs:=h.imp fun _ _ ⟨R,e,z⟩=>⟨R,e,z.ext x⟩
noncomputable def RowFits (prev:List RowD) (row:RowD):Prop:=(∀ r0,prev[0]?=some r0→kindT row=kindT r0∧rowHead row=rowHead r0)∧(isChain row=false→(leftV row).ok=true∧(leftV row).py.depth≤64∧V.oks (prev.map leftV)=true∧vin (leftV row) (prev.map leftV)=false)
theorem upd_at {a:Addr} {x:MObj} (h:σ a=some x):upM σ a x=σ:=by
 funext b; unfold upM; split
 ·rename_i z; rw [z,h]
 ·rfl
theorem w_check_row (pc:PC c) (h:Rd σ r d wl W nm n) {RL:Addr} {vs:List V} {rs:List RowD} (eR:σ RL=some (.list vs)) (al:RowVs σ vs rs) (hr:RowR σ R row) (hz:rs.length < 1000) (fit:RowFits rs row)
  (q:∀ σ',Ext σ σ'→Q .none σ'):CallC c (k+3) (.ref 396) [.ref r,.ref RL,.ref R,.int m] σ Q:=by
 revert pc h eR al hr hz fit q
 revert c; revert k; revert σ; revert Q; revert R; revert r; revert d; revert wl; revert W; revert nm; revert n; revert m row RL vs rs
 walk_at "close 16"
 intro m row RL vs rs n nm W wl d r R Q σ k c pc h eR al hr hz fit q
 refine im2 ?_ (h.neL eR)
 intro hRd hRr
 have hl:=al.len
 walk_at "def 4"
 walk_at "g"
 refine xc1_2 _ (h.a_at pc) ?_
 walk_at "g"
 refine xc4_1 r 313 d _ (xc0_7 rfl h.obj h.dict (pl_RuleReader pc) (fa_RuleReader_at pc) (by simp) ?_)
 rw [put_at]
 have hR1:=h.move m
 have r1:∀ {R row},RowR σ R row→RowR (upM σ d (rdD wl nm m)) R row:=fun z=>z.st h (Ext.refl _)
 have eR1:upM σ d (rdD wl nm m) RL=some (.list vs):=(upd_ne _ _ hRd).trans eR
 have al1:RowVs (upM σ d (rdD wl nm m)) vs rs:=al.imp fun _ _ ⟨R,e,z⟩=>⟨R,e,r1 z⟩
 walk_at "st"
 walk_at "st"
 refine TV.mono (Q:=fun b τ=>b=false∧Ext (upM σ d (rdD wl nm m)) τ) ?_ ?_
 ·walk_at "g"
  intro E hE
  have hRE:RL≠E:=by exact (neO hE eR1).symm
  refine Op2.neNil (.inl ((upd_ne _ _ hRE).trans eR1)) (.inl (upd_self _ _ _)) ?_
  have xE:Ext (upM σ d (rdD wl nm m)) (upM (upM σ d (rdD wl nm m)) E (.list [])):=Ext.fresh hE
  cases al with
  | nil=>walk_at "g"; exact ⟨rfl,xE⟩
  | cons a0 at0 =>
   rename_i v0 r0 vs' rs'
   refine xi1 ?_ (a0)
   intro R0
   refine im2 ?_
   intro hq54
   obtain rfl:=hq54
   intro hr0
   refine im2 ?_ (fit.1 r0 rfl)
   intro f1 f2
   have hr0T:=(r1 hr0).ext xE
   have hrT:=(r1 hr).ext xE
   have eRT:=xE _ _ eR1
   rw [show (!(V.ref R0::vs').isEmpty)=true from rfl]
   walk_at "g"
   refine xc1_2 _ (hrT.kind pc) ?_
   walk_at "g"
   refine TailW.list (j:=0) (fun _ _=>rfl) (.inl eRT) (by decide) (by decide) rfl ?_
   walk_at "g"
   refine xc1_2 _ (hr0T.kind pc) ?_
   walk_at "g"
   rw [f1,show (kindT r0 != kindT r0)=false by simp]
   walk_at "g"
   refine xc1_2 _ (hrT.meth (me_RuleRow_word pc) (ke_RuleRow_word pc) rfl) ?_
   walk_at "g"
   refine (w_row_word pc hrT ?_).toW
   walk_at "g"
   refine TailW.list (j:=0) (fun _ _=>rfl) (.inl eRT) (by decide) (by decide) rfl ?_
   refine xc1_2 _ (hr0T.meth (me_RuleRow_word pc) (ke_RuleRow_word pc) rfl) ?_
   walk_at "g"
   refine (w_row_word pc hr0T ?_).toW
   walk_at "g"
   rw [f2,show (rowHead r0 != rowHead r0)=false by simp]
   exact ⟨rfl,xE⟩
 intro _ τ
 refine im2 ?_
 intro hq55
 obtain rfl:=hq55
 intro xT
 have hrT:=(r1 hr).ext xT
 have alT:=al1.ext xT
 have eRT:=xT _ _ eR1
 walk_at "st"
 walk_at "st"
 walk_at "st"
 walk_at "st"
 refine TV.mono (Q:=fun b τ'=>b=false∧Ext τ τ') ?_ ?_
 ·walk_at "g"
  refine xc1_2 _ (hrT.kind pc) ?_
  walk_at "g"
  rw [show (kindT row != (Str.ofString "chain").cps.toList)=!isChain row from congrArg (!·) (kind_chain row)]
  cases hc:isChain row with
  | true=>walk_at "g"; exact ⟨rfl,Ext.refl _⟩
  | false =>
   refine im4 ?_ (fit.2 hc)
   intro g1 g2 g3 g4
   walk_at "g"
   refine xc1_2 _ (hrT.meth (me_RuleRow_left pc) (ke_RuleRow_left pc) rfl) ?_
   walk_at "g"
   refine (w_row_left pc hrT ?_).toW
   walk_at "g"
   refine EV.compE (by decide +kernel) (fun _ _=>rfl) ?_ ?_
   ·walk_at "cap"
   refine IT.list ?_
   walk_at "g"
   refine xc2_3 RL vs rfl (.inl eRT) ?_
   refine CompQ.list (rs.map leftV) (by rw [List.length_map,hl]) (by exact ar116 hz hl) (okList eRT) (fun i x y hx hy τ₂ ex₂=>?_) fun D τ₂ hD ex₂ eD=>?_
   ·refine xi1 ?_ (alT.get hx)
    intro row'
    refine im2 ?_
    intro hr'
    refine xi1 ?_
    intro R'
    refine im2 ?_
    intro hq56
    obtain rfl:=hq56
    intro hR'
    rw [List.getElem?_map,hr'] at hy
    cases hy
    have hR'':=hR'.ext ex₂
    refine xc1_2 _ (CTg.nameE (by decide +kernel)) ?_
    walk_at "g"
    refine xc1_2 _ (hR''.meth (me_RuleRow_left pc) (ke_RuleRow_left pc) rfl) ?_
    walk_at "g"
    exact (w_row_left pc hR'' ⟨rfl,Ext.refl _⟩).toW
   refine Op2.inList (.inl eD) g1 g3 g2 ?_
   rw [g4]
   exact xc1_2 _ rfl ⟨rfl,ex₂⟩
 intro _ τ'
 refine im2 ?_
 intro hq57
 obtain rfl:=hq57
 intro xT2
 have hR2:=(hR1.ext xT).ext xT2
 walk_at "g"
 refine xc4_1 r 313 d _ (xc0_7 rfl hR2.obj hR2.dict (pl_RuleReader pc) (fa_RuleReader_at pc) (by simp) ?_)
 rw [put_at]
 walk_at "g"
 refine q _ ?_
 have:=(xT.trans xT2).over (Ext.refl (upM τ' d (rdD wl nm n)))
 rw [upd_at h.dict] at this
 exact this
end
structure LookD where
 name:List Nat
 flag:Nat
 rows:List RowD
noncomputable def rowsW (rs:List RowD) (long:Bool):List (List Nat):=rs.flatMap (rowW · long)
noncomputable def flagW (l:LookD) (long:Bool):List (List Nat):=if (decide (l.flag > 0)||long)=true then [tx "flag",numT l.flag] else []
noncomputable def lookW (l:LookD) (long:Bool):List (List Nat):=tx "lookup"::l.name::(flagW l long++tx "{"::(rowsW l.rows long++[tx "}"]))
structure LookOk (l:LookD):Prop where
 name:isName l.name=true
 flagN:numOkB (numT l.flag) l.flag=true
 flagM:l.flag≤65535
 ne:l.rows≠[]
 len:l.rows.length < 100
 rows:∀ row∈l.rows,RowOk row
 fits:∀ (i:Nat) row,l.rows[i]?=some row→RowFits (l.rows.take i) row
 uz:((l.rows.map rowUses).flatten).length < 50000
noncomputable def lookUses (l:LookD):List (List Nat):=(l.rows.map rowUses).flatten
noncomputable def LookR (σ₀ σ:St) (B:Addr) (l:LookD):Prop:=∃ d RL vs,σ₀ RL=none∧σ B=some (.inst 124 d)∧σ d=some (.dict [("name",.str l.name),("flag",.int l.flag),("rows",.ref RL)])∧σ RL=some (.list vs)∧RowVs σ vs l.rows
theorem LookR.ext {σ₀ σ τ:St} {B:Addr} {l:LookD} (h:LookR σ₀ σ B l) (x:Ext σ τ):LookR σ₀ τ B l:=xi3 (fun d RL vs=>im5 fun z a b e f=>⟨d,RL,vs,z,x _ _ a,x _ _ b,x _ _ e,f.ext x⟩) h
theorem Ext.over2 {σ σ' σ₁:St} {U d:Addr} {x1 x2 y1 y2:MObj} (h:Ext (upM (upM σ U x1) d y1) σ') (h':Ext (upM (upM σ' U x2) d y2) σ₁):Ext (upM (upM σ U x2) d y2) σ₁:=fun b o e=>by
 by_cases h1:b=d
 ·subst h1
  rw [upd_self] at e
  cases e
  exact h' _ _ (upd_self _ _ _)
 ·rw [upd_ne _ _ h1] at e
  by_cases h2:b=U
  ·subst h2
   rw [upd_self] at e
   cases e
   exact h' _ _ ((upd_ne _ _ h1).trans (upd_self _ _ _))
  ·rw [upd_ne _ _ h2] at e
   exact h' _ _ (by rw [upd_ne _ _ h1,upd_ne _ _ h2]; exact h _ _ (by rw [upd_ne _ _ h1,upd_ne _ _ h2]; exact e))
section
variable {c:Cx} {k:Nat} {σ:St} {Q:V→St→Prop}
variable {r d wl:Addr} {W:List (List Nat×Nat)} {nm:V} {n m:Nat}
theorem RowR.offList {τ:St} {R a:Addr} {o':MObj} {us:List V} {row:RowD} (h:RowR σ R row) (e:σ a=some (.list us)) (x:Ext (upM σ a o') τ):RowR τ R row:=h.off e (fun _ z=>by cases z) (fun z=>by cases z) x
theorem RowVs.off {τ:St} {a:Addr} {o o':MObj} {vs:List V} {rs:List RowD} (h:RowVs σ vs rs) (e:σ a=some o) (n1:∀ C d,o≠.inst C d) (n2:∀ x y,o≠.dict [("kind",x),("parts",y)]) (x:Ext (upM σ a o') τ):RowVs τ vs rs :=
 h.imp fun _ _ ⟨R,e1,z⟩=>⟨R,e1,z.off e (fun _=>n1 _ _) (n2 _ _) x⟩
theorem LookR.off {σ₀ τ:St} {B a:Addr} {l:LookD} {o o':MObj} (h:LookR σ₀ σ B l) (h0:σ₀ a≠none) (e:σ a=some o) (n1:∀ C d,o≠.inst C d) (n2:∀ x y,o≠.dict [("kind",x),("parts",y)]) (n3:∀ x y z,o≠.dict [("name",x),("flag",y),("rows",z)]) (x:Ext (upM σ a o') τ):LookR σ₀ τ B l:=by
 revert h h0 e n1 n2 n3 x
 revert σ; revert σ₀ τ B a l o o'
 walk_at "close 8"
 intro σ₀ τ B a l o o' σ h h0 e n1 n2 n3 x
 refine xi3 ?_ (h)
 intro d RL vs
 refine im5 ?_
 intro z h1 h2 h3 h4
 refine xc3_1 d RL vs (xc0_5 z (x.off ?_ h1) (x.off ?_ h2) (x.off ?_ h3) (h4.off e n1 n2 x))
 ·rintro rfl
  rw [e] at h1
  cases h1
  exact n1 _ _ rfl
 ·rintro rfl
  rw [e] at h2
  cases h2
  exact n3 _ _ _ rfl
 ·rintro rfl
  exact h0 z
theorem LookR.offL {σ₀ τ:St} {B a:Addr} {l:LookD} {o':MObj} {us:List V} (h:LookR σ₀ σ B l) (h0:σ₀ a≠none) (e:σ a=some (.list us)) (x:Ext (upM σ a o') τ):LookR σ₀ τ B l :=
 h.off h0 e (fun _ _ z=>by cases z) (fun _ _ z=>by cases z) (fun _ _ _ z=>by cases z) x
theorem LookR.offR {σ₀ τ:St} {B:Addr} {l:LookD} {m':Nat} (hl:LookR σ₀ σ B l) (h0:σ₀ d≠none) (h:Rd σ r d wl W nm n) (x:Ext (upM σ d (rdD wl nm m')) τ):LookR σ₀ τ B l :=
 hl.off h0 h.dict (fun _ _ z=>by cases z) (fun _ _ z=>by cases z) (fun _ _ _ z=>by simp at z; exact absurd z.1.1 (by decide +kernel)) x
theorem RowR.st2 {τ:St} {R U:Addr} {o:MObj} {us:List V} {row:RowD} (hr:RowR σ R row) (h:Rd σ r d wl W nm n) (e:σ U=some (.list us)) (hw:U≠wl) (x:Ext (upM (upM σ U o) d (rdD wl nm m)) τ):RowR τ R row :=
 (hr.offList e (Ext.refl _)).st (h.put e hw) x
theorem Rd.st2 {τ:St} {U:Addr} {o:MObj} {us:List V} (h:Rd σ r d wl W nm n) (e:σ U=some (.list us)) (hw:U≠wl) (x:Ext (upM (upM σ U o) d (rdD wl nm m)) τ):Rd τ r d wl W nm m:=(h.put e hw).st x
theorem Knows.st2 {τ:St} {U:Addr} {o:MObj} {us:List V} (kn:Knows c σ nm) (h:Rd σ r d wl W nm n) (e:σ U=some (.list us)) (hw:U≠wl) (x:Ext (upM (upM σ U o) d (rdD wl nm m)) τ):Knows c τ nm:=(kn.put e).st (h.put e hw) x
theorem Ext.off2 {τ:St} {U b:Addr} {x y o:MObj} (h:Ext (upM (upM σ U x) d y) τ) (n1:b≠U) (n2:b≠d) (e:σ b=some o):τ b=some o:=h _ _ (by rw [upd_ne _ _ n2,upd_ne _ _ n1]; exact e)
theorem rowHead_in {row:RowD} (h:RowOk row):rowHead row=tx "sub"∨rowHead row=tx "pos":=by
 cases row with
 | chain w b i a=>exact h.1
 | adjust a w=>exact .inr rfl
 | pair a b w=>exact .inr rfl
 | _=>exact .inl rfl
theorem rowsW_snoc (a:List RowD) (row:RowD) (long:Bool):rowsW (a++[row]) long=rowsW a long++rowW row long:=by unfold rowsW; simp
theorem w_read_lookup (pc:PC c) (h:Rd σ r d wl W nm n) (kn:Knows c σ nm) {U:Addr} {old:Toks} {l:LookD} {long:Bool} {rest:List (List Nat)} (ok:LookOk l) (eU:σ U=some (.list (old.map tokV))) (hUw:U≠wl) (uz:old.length < 50000)
  (ah:Ahead W n (l.name::(flagW l long++tx "{"::(rowsW l.rows long++tx "}"::rest))))
  (q:∀ σ' B new,Ext (upM (upM σ U (.list ((old++new).map tokV))) d (rdD wl nm (n+((lookW l long).length - 1)))) σ'→new.map (·.1)=lookUses l→LookR σ σ' B l→Q (.ref B) σ'):CallC c (k+7) (.ref 403) [.ref r,.ref U] σ Q:=by
 revert pc h kn ok eU hUw uz ah q
 revert c; revert k; revert σ; revert Q; revert r; revert d; revert wl; revert W; revert nm; revert n; revert U old l long rest
 walk_at "close 15"
 intro U old l long rest n nm W wl d r Q σ k c pc h kn ok eU hUw uz ah q
 refine im2 ?_ (h.neL eU)
 intro hUd hUr
 refine xi1 ?_ (ah.here)
 intro p hp
 walk_at "def 2"
 walk_at "g"
 refine xc1_2 _ (h.meth pc (me_RuleReader_name pc) (ke_RuleReader_name pc) rfl) ?_
 walk_at "g"
 refine (w_name pc h hp ok.name ?_).toW
 have hR1:=h.move (n+1)
 walk_at "st"
 walk_at "st"
 walk_at "st"
 refine EV.mono' (Q:=fun v τ=>v=.int l.flag∧τ=upM σ d (rdD wl nm (n+1+(flagW l long).length))) ?_ ?_
 ·walk_at "g"
  refine xc1_2 _ (hR1.meth pc (me_RuleReader_skip pc) (ke_RuleReader_skip pc) rfl) ?_
  walk_at "g"
  have ah1:=ah.next
  by_cases hf:(decide (l.flag > 0)||long)=true
  ·have e1:flagW l long=[tx "flag",numT l.flag]:=by unfold flagW; rw [if_pos hf]
   rw [e1] at ah1 ⊢
   refine xi1 ?_ (Ahead.here ah1)
   intro p1 hp1
   refine (w_skip pc hR1 hp1 (fun _=>?_) fun e=>absurd rfl e).toW
   rw [upd_upd]
   have hR2:=h.move (n+1+1)
   walk_at "g"
   refine xc1_2 _ (hR2.meth pc (me_RuleReader_number pc) (ke_RuleReader_number pc) rfl) ?_
   walk_at "g"
   refine xi1 ?_ (Ahead.here ah1.next)
   intro p2 hp2
   refine (w_number pc hR2 hp2 ok.flagN (by exact ar20) (by have:=ok.flagM; exact ar117 this) ?_).toW
   rw [upd_upd]
   exact ⟨rfl,rfl⟩
  ·have e1:flagW l long=[]:=by unfold flagW; rw [if_neg hf]
   rw [e1] at ah1 ⊢
   refine xi1 ?_ (Ahead.here ah1)
   intro p1 hp1
   refine (w_skip pc hR1 hp1 (fun e=>absurd e (by decide +kernel)) fun _=>?_).toW
   walk_at "g"
   have hz:l.flag=0:=by simp at hf; walk_at "o"
   rw [hz]
   exact ⟨rfl,rfl⟩
 intro _ _
 refine im2 ?_
 intro hq58
 obtain rfl:=hq58
 intro hq59
 obtain rfl:=hq59
 have hR2:=h.move (n+1+(flagW l long).length)
 have ah2:Ahead W (n+1+(flagW l long).length) (tx "{"::(rowsW l.rows long++tx "}"::rest)):=ah.next.skip
 walk_at "g"
 refine xc1_2 _ (hR2.meth pc (me_RuleReader_need pc) (ke_RuleReader_need pc) rfl) ?_
 walk_at "g"
 refine xi1 ?_ (ah2.here)
 intro p2 hp2
 refine (w_need pc hR2 hp2 ?_).toW
 rw [upd_upd]
 refine ⟨rfl,?_⟩
 generalize hp0:n+1+(flagW l long).length+1=p0
 have ah3:Ahead W p0 (rowsW l.rows long++tx "}"::rest):=hp0 ▸ ah2.next
 walk_at "g"
 intro RL hRL
 refine im2 ?_ (none_of_upd hRL)
 intro hRLd hRL0
 have hRLU:RL≠U:=neO hRL0 eU
 have hRLw:RL≠wl:=neO hRL0 h.words
 have hRLr:RL≠r:=neO hRL0 h.obj
 have nRL:∀ x y,upM (upM σ U x) d y RL=none:=fun x y=>by rw [upd_ne _ _ hRLd,upd_ne _ _ hRLU]; exact hRL0
 walk_at "g"
 let J:Nat→Loc→St→Prop:=fun m ρ' σ'=>∃ done rs,∃ new:Toks,∃ vs,l.rows=done++rs∧m=rs.length∧ρ' "reader"=some (.ref r)∧ρ' "uses"=some (.ref U)∧ρ' "name"=some (.str l.name)∧ρ' "flag"=some (.int l.flag)∧ρ' "rows"=some (.ref RL) ∧
  Ext (upM (upM σ U (.list ((old++new).map tokV))) d (rdD wl nm (p0+(rowsW done long).length))) σ'∧new.map (·.1)=(done.map rowUses).flatten∧σ' RL=some (.list vs)∧RowVs σ' vs done∧Ahead W (p0+(rowsW done long).length) (rowsW rs long++tx "}"::rest)
 refine SV.while J l.rows.length ⟨[],l.rows,[],[],rfl,rfl,?_,?_,?_,?_,?_,?_,rfl,upd_self _ _ _,.nil,ah3⟩ ?_
 ·walk_at "loc"
 ·walk_at "loc"
 ·walk_at "loc"
 ·walk_at "loc"
 ·walk_at "loc"
 ·refine Ext.bump ?_ (nRL _ _)
  rw [upd_comm hUd,List.append_nil]
  have:upM σ d (rdD wl nm p0) U=some (.list (old.map tokV)):=(upd_ne _ _ hUd).trans eU
  exact Ext.self this
 intro m ρ' σ'
 refine xi4 ?_
 intro done rs new vs
 refine im8 ?_
 intro e hq60
 obtain rfl:=hq60
 intro l1 l2 l3 l4 l5
 refine im5 ?_
 intro ex en eRL al ah4
 have hR:=h.st2 eU hUw ex
 have knR:=kn.st2 h eU hUw ex
 have eU':σ' U=some (.list ((old++new).map tokV)):=ex _ _ ((upd_ne _ _ hUd).trans (upd_self _ _ _))
 have hvl:vs.length=done.length:=al.len
 have hdl:done.length+rs.length < 100:=by have:=ok.len; rw [e] at this; simpa using this
 have hnew:new.length < 50000:=by
  have h1:new.length=((done.map rowUses).flatten).length:=by rw [← en]; simp
  have h2:=ok.uz
  rw [e] at h2
  simp at h1 h2 ⊢
  exact ar118 h1 h2
 walk_at "g"
 refine xc1_2 _ (hR.meth pc (me_RuleReader_word pc) (ke_RuleReader_word pc) rfl) ?_
 walk_at "g"
 cases rs with
 | nil =>
  refine xi1 ?_ (Ahead.here ah4)
  intro p5 hp5
  refine im4 ?_ (hR.at hp5)
  intro a1 a2 a3 a4
  refine (w_word pc hR hp5 ?_).toW
  walk_at "g"
  refine Op2.inTup (ok_str a3) (oks_strs (ls:=[tx "sub",tx "pos"]) (by decide +kernel)) (depth_str _) ?_
  rw [show vin (.str (tx "}")) [V.str (Str.ofString "sub").cps.toList,V.str (Str.ofString "pos").cps.toList]=decide (tx "}"∈[tx "sub",tx "pos"]) from vin_str _ [tx "sub",tx "pos"],show decide (tx "}"∈[tx "sub",tx "pos"])=false by decide +kernel]
  rw [List.append_nil] at e
  walk_at "g"
  intro E hE
  have hRE:RL≠E:=by exact (neO hE eRL).symm
  refine Op2.eqNil (.inl ((upd_ne _ _ hRE).trans eRL)) (.inl (upd_self _ _ _)) ?_
  have:vs.isEmpty=false:=by
   cases vs with
   | nil=>rw [← e] at hvl; exact absurd (List.eq_nil_of_length_eq_zero hvl.symm) ok.ne
   | cons _ _=>rfl
  rw [this]
  have xE:Ext σ' (upM σ' E (.list [])):=Ext.fresh hE
  have hR5:=hR.ext xE
  walk_at "g"
  refine xc1_2 _ (hR5.meth pc (me_RuleReader_need pc) (ke_RuleReader_need pc) rfl) ?_
  walk_at "g"
  refine (w_need pc hR5 hp5 ?_).toW
  refine ⟨rfl,?_⟩
  have exF:=(ex.trans xE).over (Ext.refl (upM (upM σ' E (.list [])) d (rdD wl nm (p0+(rowsW done long).length+1))))
  have eRLf:upM (upM σ' E (.list [])) d (rdD wl nm (p0+(rowsW done long).length+1)) RL=some (.list vs):=by rw [upd_ne _ _ hRLd]; exact xE _ _ eRL
  have alF:RowVs (upM (upM σ' E (.list [])) d (rdD wl nm (p0+(rowsW done long).length+1))) vs done:=(al.ext xE).imp fun _ _ ⟨R,e,z⟩=>⟨R,e,z.st hR5 (Ext.refl _)⟩
  walk_at "g"
  refine (w_LookupBlock pc fun x dd hx hd hn=>?_).toW
  have mk:=made_ext (C:=124) (es:=[("name",V.str l.name),("flag",V.int l.flag),("rows",V.ref RL)]) hx hd hn
  refine q _ x new ?_ (by unfold lookUses; rw [e]; exact en) ⟨dd,RL,vs,hRL0,made_x hn,upd_self _ _ _,mk _ _ eRLf,by rw [e]; exact alF.ext mk⟩
  have eL:n+((lookW l long).length - 1)=p0+(rowsW l.rows long).length+1:=by
   rw [← hp0]
   unfold lookW
   simp
   exact ar119
  rw [eL,e]
  exact exF.trans mk
 | cons row rs =>
  have okr:=ok.rows row (by rw [e]; simp)
  have fit:RowFits done row:=by
   have:=ok.fits done.length row (by rw [e]; simp)
   rw [e] at this
   simpa using this
  have e4:rowsW (row::rs) long++tx "}"::rest=rowW row long++(rowsW rs long++tx "}"::rest):=by unfold rowsW; simp
  rw [e4] at ah4
  have ah5:=ah4
  unfold rowW at ah5
  refine xi1 ?_ (Ahead.here ah5)
  intro p5 hp5
  refine im4 ?_ (hR.at hp5)
  intro a1 a2 a3 a4
  refine (w_word pc hR hp5 ?_).toW
  walk_at "g"
  refine Op2.inTup (ok_str a3) (oks_strs (ls:=[tx "sub",tx "pos"]) (by decide +kernel)) (depth_str _) ?_
  rw [show vin (.str (rowHead row)) [V.str (Str.ofString "sub").cps.toList,V.str (Str.ofString "pos").cps.toList]=decide (rowHead row∈[tx "sub",tx "pos"]) from vin_str _ [tx "sub",tx "pos"],show decide (rowHead row∈[tx "sub",tx "pos"])=true by rcases rowHead_in okr with z | z <;> rw [z] <;> decide +kernel]
  walk_at "g"
  refine xc1_2 _ (hR.a_at pc) ?_
  walk_at "g"
  refine (w_read_row pc hR knR okr eU' hUw (by simp; exact ar120 uz hnew) ah4 fun σ₁ R new2 ex1 en2 hrR=>?_).toW
  have hR1':=hR.st2 eU' hUw ex1
  have eRL1:σ₁ RL=some (.list vs):=ex1.off2 hRLU hRLd eRL
  have al1:RowVs σ₁ vs done:=al.imp fun _ _ ⟨R,e,z⟩=>⟨R,e,z.st2 hR eU' hUw ex1⟩
  walk_at "g"
  refine (w_check_row pc hR1' eRL1 al1 hrR (by exact ar121 hdl) fit fun σ₂ ex2=>?_).toW
  refine ⟨rfl,?_⟩
  have eRL2:=ex2 _ _ eRL1
  walk_at "g"
  refine xc1_2 _ (MethR.append (.inl eRL2)) ?_
  walk_at "g"
  refine CallW.append eRL2 (by delta sizeLine; exact ar122 hvl hdl) ?_
  refine ⟨rfl,?_⟩
  walk_at "g"
  refine xc1_2 _ (Nat.lt_succ_self _) (xc4_1 (done++[row]) rs (new++new2) (vs++[V.ref R]) (xc0_8 (by rw [e]; simp) rfl ?_ ?_ ?_ ?_ ?_ (xc0_5 ?_ ?_ (upd_self _ _ _) ?_ ?_)))
  ·walk_at "loc"
  ·walk_at "loc"
  ·walk_at "loc"
  ·walk_at "loc"
  ·walk_at "loc"
  ·refine Ext.bump ?_ (nRL _ _)
   refine Ext.trans ?_ ex2
   rw [rowsW_snoc,List.length_append,← Nat.add_assoc,← List.append_assoc]
   exact ex.over2 ex1
  ·rw [List.map_append,en,en2]
   simp
  ·refine All2.append ?_ ⟨R,rfl,(hrR.ext ex2).offList eRL2 (Ext.refl _)⟩
   exact (al1.ext ex2).imp fun _ _ ⟨R,e,z⟩=>⟨R,e,z.offList eRL2 (Ext.refl _)⟩
  ·rw [rowsW_snoc,List.length_append,← Nat.add_assoc]
   exact ah4.skip
end
structure FeatD where
 tag:List Nat
 script:List Nat
 language:List Nat
 uses:List (List Nat)
noncomputable def scrW (f:FeatD) (long:Bool):List (List Nat):=if (f.script != tx "DFLT"||long)=true then [tx "script",f.script] else []
noncomputable def lanW (f:FeatD) (long:Bool):List (List Nat):=if (f.language != tx "dflt"||long)=true then [tx "language",f.language] else []
noncomputable def featW (f:FeatD) (long:Bool):List (List Nat):=tx "feature"::f.tag::(scrW f long++(lanW f long++tx "{"::(f.uses++[tx "}"])))
structure FeatOk (f:FeatD):Prop where
 tag:isName f.tag=true∧f.tag.length≤4
 script:isName f.script=true∧f.script.length≤4
 language:isName f.language=true∧f.language.length≤4
 ne:f.uses≠[]
 len:f.uses.length < 1000
 uses:∀ u∈f.uses,isName u=true
noncomputable def FeatR (σ:St) (F:Addr) (f:FeatD):Prop:=∃ d,σ F=some (.inst 194 d)∧σ d=some (.dict [("tag",.str f.tag),("script",.str f.script),("language",.str f.language),("lookups",.tup (strVs f.uses))])
theorem FeatR.ext {σ τ:St} {F:Addr} {f:FeatD} (h:FeatR σ F f) (x:Ext σ τ):FeatR τ F f:=let ⟨d,a,b⟩:=h; ⟨d,x _ _ a,x _ _ b⟩
section
variable {c:Cx} {k:Nat} {σ:St} {Q:V→St→Prop}
variable {r d wl:Addr} {W:List (List Nat×Nat)} {nm:V} {n m:Nat}
theorem w_read_feature (pc:PC c) (h:Rd σ r d wl W nm n) {U:Addr} {old:Toks} {f:FeatD} {long:Bool} {rest:List (List Nat)} (ok:FeatOk f) (eU:σ U=some (.list (old.map tokV))) (hUw:U≠wl) (uz:old.length < 900000)
  (ah:Ahead W n (f.tag::(scrW f long++(lanW f long++tx "{"::(f.uses++tx "}"::rest)))))
  (q:∀ σ' F new,Ext (upM (upM σ U (.list ((old++new).map tokV))) d (rdD wl nm (n+((featW f long).length - 1)))) σ'→new.map (·.1)=f.uses→FeatR σ' F f→Q (.ref F) σ'):CallC c (k+7) (.ref 410) [.ref r,.ref U] σ Q:=by
 revert pc h ok eU hUw uz ah q
 revert c; revert k; revert σ; revert Q; revert r; revert d; revert wl; revert W; revert nm; revert n; revert U old f long rest
 walk_at "close 15"
 intro U old f long rest n nm W wl d r Q σ k c pc h ok eU hUw uz ah q
 refine im2 ?_ (h.neL eU)
 intro hUd hUr
 refine xi1 ?_ (ah.here)
 intro p hp
 walk_at "def 2"
 walk_at "g"
 refine xc1_2 _ (h.meth pc (me_RuleReader_tag pc) (ke_RuleReader_tag pc) rfl) ?_
 walk_at "g"
 refine (w_tag pc h hp ok.tag.1 ok.tag.2 ?_).toW
 have hR1:=h.move (n+1)
 have ah1:=ah.next
 walk_at "st"
 walk_at "st"
 walk_at "st"
 refine EV.mono' (Q:=fun v τ=>v=.str f.script∧τ=upM σ d (rdD wl nm (n+1+(scrW f long).length))) ?_ ?_
 ·walk_at "g"
  refine xc1_2 _ (hR1.meth pc (me_RuleReader_skip pc) (ke_RuleReader_skip pc) rfl) ?_
  walk_at "g"
  by_cases hf:(f.script != tx "DFLT"||long)=true
  ·have e1:scrW f long=[tx "script",f.script]:=by unfold scrW; rw [if_pos hf]
   rw [e1] at ah1 ⊢
   refine xi1 ?_ (Ahead.here ah1)
   intro p1 hp1
   refine (w_skip pc hR1 hp1 (fun _=>?_) fun e=>absurd rfl e).toW
   rw [upd_upd]
   have hR2:=h.move (n+1+1)
   walk_at "g"
   refine xc1_2 _ (hR2.meth pc (me_RuleReader_tag pc) (ke_RuleReader_tag pc) rfl) ?_
   walk_at "g"
   refine xi1 ?_ (Ahead.here ah1.next)
   intro p2 hp2
   refine (w_tag pc hR2 hp2 ok.script.1 ok.script.2 ?_).toW
   rw [upd_upd]
   exact ⟨rfl,rfl⟩
  ·have e1:scrW f long=[]:=by unfold scrW; rw [if_neg hf]
   rw [e1] at ah1 ⊢
   have hd:∃ w ws,lanW f long++tx "{"::(f.uses++tx "}"::rest)=w::ws∧w≠tx "script":=by
    unfold lanW
    split
    ·exact xc2_2 _ _ rfl (by decide +kernel)
    ·exact xc2_2 _ _ rfl (by decide +kernel)
   refine xi2 ?_ (hd)
   intro w ws
   refine im2 ?_
   intro e2 e3
   have ah1':=ah1
   rw [List.nil_append,e2] at ah1'
   refine xi1 ?_ (Ahead.here ah1')
   intro p1 hp1
   refine (w_skip pc hR1 hp1 (fun e=>absurd e e3) fun _=>?_).toW
   walk_at "g"
   have hz:f.script=tx "DFLT":=by simp at hf; exact hf.1
   rw [hz]
   exact ⟨rfl,rfl⟩
 intro _ _
 refine im2 ?_
 intro hq61
 obtain rfl:=hq61
 intro hq62
 obtain rfl:=hq62
 have ah2:Ahead W (n+1+(scrW f long).length) (lanW f long++tx "{"::(f.uses++tx "}"::rest)):=ah1.skip
 have hR2:=h.move (n+1+(scrW f long).length)
 walk_at "st"
 walk_at "st"
 walk_at "st"
 refine EV.mono' (Q:=fun v τ=>v=.str f.language∧τ=upM σ d (rdD wl nm (n+1+(scrW f long).length+(lanW f long).length))) ?_ ?_
 ·walk_at "g"
  refine xc1_2 _ (hR2.meth pc (me_RuleReader_skip pc) (ke_RuleReader_skip pc) rfl) ?_
  walk_at "g"
  by_cases hf:(f.language != tx "dflt"||long)=true
  ·have e1:lanW f long=[tx "language",f.language]:=by unfold lanW; rw [if_pos hf]
   rw [e1] at ah2 ⊢
   refine xi1 ?_ (Ahead.here ah2)
   intro p1 hp1
   refine (w_skip pc hR2 hp1 (fun _=>?_) fun e=>absurd rfl e).toW
   rw [upd_upd]
   have hR3:=h.move (n+1+(scrW f long).length+1)
   walk_at "g"
   refine xc1_2 _ (hR3.meth pc (me_RuleReader_tag pc) (ke_RuleReader_tag pc) rfl) ?_
   walk_at "g"
   refine xi1 ?_ (Ahead.here ah2.next)
   intro p2 hp2
   refine (w_tag pc hR3 hp2 ok.language.1 ok.language.2 ?_).toW
   rw [upd_upd]
   exact ⟨rfl,rfl⟩
  ·have e1:lanW f long=[]:=by unfold lanW; rw [if_neg hf]
   rw [e1] at ah2 ⊢
   refine xi1 ?_ (Ahead.here ah2)
   intro p1 hp1
   refine (w_skip pc hR2 hp1 (fun e=>absurd e (by decide +kernel)) fun _=>?_).toW
   walk_at "g"
   have hz:f.language=tx "dflt":=by simp at hf; exact hf.1
   rw [hz]
   exact ⟨rfl,rfl⟩
 intro _ _
 refine im2 ?_
 intro hq63
 obtain rfl:=hq63
 intro hq64
 obtain rfl:=hq64
 have ah3:Ahead W (n+1+(scrW f long).length+(lanW f long).length) (tx "{"::(f.uses++tx "}"::rest)):=ah2.skip
 have hR3:=h.move (n+1+(scrW f long).length+(lanW f long).length)
 walk_at "g"
 refine xc1_2 _ (hR3.meth pc (me_RuleReader_need pc) (ke_RuleReader_need pc) rfl) ?_
 walk_at "g"
 refine xi1 ?_ (ah3.here)
 intro p2 hp2
 refine (w_need pc hR3 hp2 ?_).toW
 rw [upd_upd]
 refine ⟨rfl,?_⟩
 generalize hp0:n+1+(scrW f long).length+(lanW f long).length+1=p0
 have ah4:Ahead W p0 (f.uses++tx "}"::rest):=hp0 ▸ ah3.next
 walk_at "g"
 intro RL hRL
 refine im2 ?_ (none_of_upd hRL)
 intro hRLd hRL0
 have hRLU:RL≠U:=neO hRL0 eU
 have hRLw:RL≠wl:=neO hRL0 h.words
 have hRLr:RL≠r:=neO hRL0 h.obj
 have nRL:∀ x y,upM (upM σ U x) d y RL=none:=fun x y=>by rw [upd_ne _ _ hRLd,upd_ne _ _ hRLU]; exact hRL0
 walk_at "g"
 let J:Nat→Loc→St→Prop:=fun m ρ' σ'=>∃ done rs,∃ new:Toks,f.uses=done++rs∧m=rs.length∧ρ' "reader"=some (.ref r)∧ρ' "uses"=some (.ref U)∧ρ' "tag"=some (.str f.tag)∧ρ' "script"=some (.str f.script)∧ρ' "language"=some (.str f.language)∧ρ' "lookups"=some (.ref RL) ∧
  Ext (upM (upM σ U (.list ((old++new).map tokV))) d (rdD wl nm (p0+done.length))) σ'∧new.map (·.1)=done∧σ' RL=some (.list (strVs done))∧Ahead W (p0+done.length) (rs++tx "}"::rest)
 refine SV.while J f.uses.length ⟨[],f.uses,[],rfl,rfl,?_,?_,?_,?_,?_,?_,?_,rfl,upd_self _ _ _,ah4⟩ ?_
 ·walk_at "loc"
 ·walk_at "loc"
 ·walk_at "loc"
 ·walk_at "loc"
 ·walk_at "loc"
 ·walk_at "loc"
 ·refine Ext.bump ?_ (nRL _ _)
  rw [upd_comm hUd,List.append_nil]
  have:upM σ d (rdD wl nm p0) U=some (.list (old.map tokV)):=(upd_ne _ _ hUd).trans eU
  exact Ext.self this
 intro m ρ' σ'
 refine xi3 ?_
 intro done rs new
 refine im8 ?_
 intro e hq65
 obtain rfl:=hq65
 intro l1 l2 l3 l4 l5
 refine im5 ?_
 intro l6 ex en eRL ah5
 have hR:=h.st2 eU hUw ex
 have eU':σ' U=some (.list ((old++new).map tokV)):=ex _ _ ((upd_ne _ _ hUd).trans (upd_self _ _ _))
 have hdl:done.length+rs.length < 1000:=by have:=ok.len; rw [e] at this; simpa using this
 have hnew:new.length=done.length:=by rw [← en]; simp
 walk_at "g"
 refine xc1_2 _ (hR.meth pc (me_RuleReader_word pc) (ke_RuleReader_word pc) rfl) ?_
 walk_at "g"
 cases rs with
 | nil =>
  refine xi1 ?_ (Ahead.here ah5)
  intro p5 hp5
  refine im4 ?_ (hR.at hp5)
  intro a1 a2 a3 a4
  refine (w_word pc hR hp5 ?_).toW
  walk_at "g"
  refine (w_is_name pc a3 (by exact ar15 a4) ?_).toW
  rw [show isName (tx "}")=false by decide +kernel]
  rw [List.append_nil] at e
  walk_at "g"
  intro E hE
  have hRE:RL≠E:=by exact (neO hE eRL).symm
  refine Op2.eqNil (.inl ((upd_ne _ _ hRE).trans eRL)) (.inl (upd_self _ _ _)) ?_
  have:(strVs done).isEmpty=false:=by
   cases done with
   | nil=>exact absurd e ok.ne
   | cons _ _=>rfl
  rw [this]
  have xE:Ext σ' (upM σ' E (.list [])):=Ext.fresh hE
  have hR5:=hR.ext xE
  walk_at "g"
  refine xc1_2 _ (hR5.meth pc (me_RuleReader_need pc) (ke_RuleReader_need pc) rfl) ?_
  walk_at "g"
  refine (w_need pc hR5 hp5 ?_).toW
  refine ⟨rfl,?_⟩
  have exF:=(ex.trans xE).over (Ext.refl (upM (upM σ' E (.list [])) d (rdD wl nm (p0+done.length+1))))
  have eRLf:upM (upM σ' E (.list [])) d (rdD wl nm (p0+done.length+1)) RL=some (.list (strVs done)):=by rw [upd_ne _ _ hRLd]; exact xE _ _ eRL
  walk_at "g"
  refine CallW.tupList (.inl eRLf) (by delta sizeLine; simp [strVs]; exact ar123 a2) ?_
  refine (w_FeatureRow pc fun x dd hx hd hn=>?_).toW
  have mk:=made_ext (C:=194) (es:=[("tag",V.str f.tag),("script",V.str f.script),("language",V.str f.language),("lookups",V.tup (strVs done))]) hx hd hn
  refine q _ x new ?_ (by rw [e]; exact en) ⟨dd,made_x hn,by rw [e]; exact upd_self _ _ _⟩
  have eL:n+((featW f long).length - 1)=p0+f.uses.length+1:=by
   rw [← hp0]
   unfold featW
   simp
   exact ar124
  rw [eL,e]
  exact exF.trans mk
 | cons u rs =>
  have hu:=ok.uses u (by rw [e]; simp)
  refine xi1 ?_ (Ahead.here ah5)
  intro p5 hp5
  refine im4 ?_ (hR.at hp5)
  intro a1 a2 a3 a4
  refine (w_word pc hR hp5 ?_).toW
  walk_at "g"
  refine (w_is_name pc a3 (by exact ar15 a4) ?_).toW
  rw [hu]
  walk_at "g"
  refine xc1_2 _ (MethR.append (.inl eU')) ?_
  walk_at "g"
  refine xc1_2 _ (hR.a_words pc) ?_
  walk_at "g"
  refine xc1_2 _ (hR.a_at pc) ?_
  refine TailW.list (fun _ _=>rfl) (.inl hR.words) (by exact ar20) (by exact ar26 a2) a1 ?_
  walk_at "g"
  refine CallW.append eU' (by delta sizeLine; simp; exact ar125 uz hnew hdl) ?_
  refine ⟨rfl,?_⟩
  have hR6:=hR.put (o:=.list ((old++new).map tokV++[tokV (u,p5)])) eU' hUw
  have eRL6:upM σ' U (.list ((old++new).map tokV++[tokV (u,p5)])) RL=some (.list (strVs done)):=(upd_ne _ _ hRLU).trans eRL
  walk_at "g"
  refine xc1_2 _ (MethR.append (.inl eRL6)) ?_
  walk_at "g"
  refine xc1_2 _ (hR6.meth pc (me_RuleReader_take pc) (ke_RuleReader_take pc) rfl) ?_
  walk_at "g"
  refine (w_take pc hR6 hp5 ?_).toW
  walk_at "g"
  refine CallW.append ((upd_ne _ _ hRLd).trans eRL6) (by delta sizeLine; simp [strVs]; exact ar126 a2) ?_
  refine ⟨rfl,?_⟩
  walk_at "g"
  refine xc1_2 _ (Nat.lt_succ_self _) (xc3_1 (done++[u]) rs (new++[(u,p5)]) (xc0_8 (by rw [e]; simp) rfl ?_ ?_ ?_ ?_ ?_ (xc0_5 ?_ ?_ (by simp [en]) ?_ ?_)))
  ·walk_at "loc"
  ·walk_at "loc"
  ·walk_at "loc"
  ·walk_at "loc"
  ·walk_at "loc"
  ·walk_at "loc"
  ·refine Ext.bump ?_ (nRL _ _)
   rw [List.length_append,List.length_singleton,← Nat.add_assoc,← List.append_assoc,List.map_append]
   exact ex.over2 (Ext.refl _)
  ·rw [upd_self,strVs_append]
   rfl
  ·rw [List.length_append,List.length_singleton,← Nat.add_assoc]
   exact Ahead.next ah5
end
noncomputable def lookV (l:LookD):V:=.tup [.str l.name,.int l.flag,.tup (l.rows.map rowV)]
noncomputable def featV (f:FeatD):V:=.tup [.str f.tag,.str f.script,.str f.language,.tup (strVs f.uses)]
noncomputable def treeV (ls:List LookD) (fs:List FeatD):V:=.tup [.tup (ls.map lookV),.tup (fs.map featV)]
noncomputable def LookVs (σ₀ σ:St) (vs:List V) (ls:List LookD):Prop:=All2 (fun v l=>∃ B,v=.ref B∧LookR σ₀ σ B l) vs ls
noncomputable def FeatVs (σ:St) (vs:List V) (fs:List FeatD):Prop:=All2 (fun v f=>∃ F,v=.ref F∧FeatR σ F f) vs fs
theorem LookVs.ext {σ₀ σ τ:St} {vs:List V} {ls:List LookD} (h:LookVs σ₀ σ vs ls) (x:Ext σ τ):LookVs σ₀ τ vs ls:=h.imp fun _ _ ⟨R,e,z⟩=>⟨R,e,z.ext x⟩
theorem FeatVs.ext {σ τ:St} {vs:List V} {ls:List FeatD} (h:FeatVs σ vs ls) (x:Ext σ τ):FeatVs τ vs ls:=h.imp fun _ _ ⟨R,e,z⟩=>⟨R,e,z.ext x⟩
structure TreeAt (σ₀ σ:St) (Tr dT LL FL:Addr) (ls:List LookD) (fs:List FeatD):Prop where
 obj:σ Tr=some (.inst 84 dT)
 dict:σ dT=some (.dict [("lookups",.ref LL),("features",.ref FL)])
 looks:∃ lvs,σ LL=some (.list lvs)∧LookVs σ₀ σ lvs ls
 feats:∃ fvs,σ FL=some (.list fvs)∧FeatVs σ fvs fs
theorem TreeAt.ext {σ₀ σ τ:St} {Tr dT LL FL:Addr} {ls:List LookD} {fs:List FeatD} (h:TreeAt σ₀ σ Tr dT LL FL ls fs) (x:Ext σ τ):TreeAt σ₀ τ Tr dT LL FL ls fs :=
 ⟨x _ _ h.obj,x _ _ h.dict,let ⟨v,a,b⟩:=h.looks; ⟨v,x _ _ a,b.ext x⟩,let ⟨v,a,b⟩:=h.feats; ⟨v,x _ _ a,b.ext x⟩⟩
noncomputable def namesOf (ls:List LookD):List (List Nat):=ls.map (·.name)
noncomputable def idxOf (ls:List LookD) (n:List Nat):Int:=if n∈namesOf ls then (strIdx (namesOf ls) n:Int) else -1
section
variable {c:Cx} {k:Nat} {σ σ₀:St} {Q:V→St→Prop}
variable {Tr dT LL FL:Addr} {ls:List LookD} {fs:List FeatD}
theorem TreeAt.a_looks (pc:PC c) (h:TreeAt σ₀ σ Tr dT LL FL ls fs):AttrR c σ (.ref Tr) "lookups" (.ref LL):=AttrR.of pc h.obj h.dict (pl_RuleTree pc) (fa_RuleTree_lookups pc) rfl rfl
theorem TreeAt.a_feats (pc:PC c) (h:TreeAt σ₀ σ Tr dT LL FL ls fs):AttrR c σ (.ref Tr) "features" (.ref FL):=AttrR.of pc h.obj h.dict (pl_RuleTree pc) (fa_RuleTree_features pc) rfl rfl
theorem TreeAt.meth (h:TreeAt σ₀ σ Tr dT LL FL ls fs) {name:Str} {f:Addr} (hm:methIn c.K 84 name f=true) (hk:keepIn c.K (.ref f)=true) (ho:getV [("lookups",V.none),("features",V.none)] name=none):MethR c k name (.ref Tr) σ (.ref f):=by
 refine MethR.own h.obj h.dict hm hk ?_
 unfold getV at ho ⊢
 simp only [List.lookup_cons,List.lookup_nil] at ho ⊢
 (repeat' split at ho) <;> first | cases ho | skip
 simp_all
theorem LookR.a_name (pc:PC c) {B:Addr} {l:LookD} (h:LookR σ₀ σ B l):AttrR c σ (.ref B) "name" (.str l.name):=xi3 (fun d RL vs=>im5 fun z a b e f=>AttrR.of pc a b (pl_LookupBlock pc) (fa_LookupBlock_name pc) rfl rfl) h
theorem LookR.a_flag (pc:PC c) {B:Addr} {l:LookD} (h:LookR σ₀ σ B l):AttrR c σ (.ref B) "flag" (.int l.flag):=xi3 (fun d RL vs=>im5 fun z a b e f=>AttrR.of pc a b (pl_LookupBlock pc) (fa_LookupBlock_flag pc) rfl rfl) h
theorem LookR.a_rows (pc:PC c) {B:Addr} {l:LookD} (h:LookR σ₀ σ B l):∃ RL vs,AttrR c σ (.ref B) "rows" (.ref RL)∧σ RL=some (.list vs)∧RowVs σ vs l.rows:=xi3 (fun d RL vs=>im5 fun z a b e f=>⟨RL,vs,AttrR.of pc a b (pl_LookupBlock pc) (fa_LookupBlock_rows pc) rfl rfl,e,f⟩) h
theorem LookR.meth {B:Addr} {l:LookD} (h:LookR σ₀ σ B l) {name:Str} {f:Addr} (hm:methIn c.K 124 name f=true) (hk:keepIn c.K (.ref f)=true) (ho:getV [("name",V.none),("flag",V.none),("rows",V.none)] name=none):MethR c k name (.ref B) σ (.ref f):=by
 revert h hm hk ho
 revert c; revert k; revert σ; revert σ₀ B l name f
 walk_at "close 8"
 intro σ₀ B l name f σ k c h hm hk ho
 refine xi3 ?_ (h)
 intro d RL vs
 refine im5 ?_
 intro z a b e _
 refine MethR.own a b hm hk ?_
 unfold getV at ho ⊢
 simp only [List.lookup_cons,List.lookup_nil] at ho ⊢
 (repeat' split at ho) <;> first | cases ho | skip
 simp_all
theorem FeatR.meth {F:Addr} {f:FeatD} (h:FeatR σ F f) {name:Str} {g:Addr} (hm:methIn c.K 194 name g=true) (hk:keepIn c.K (.ref g)=true) (ho:getV [("tag",V.none),("script",V.none),("language",V.none),("lookups",V.none)] name=none):MethR c k name (.ref F) σ (.ref g):=by
 revert h hm hk ho
 revert c; revert k; revert σ; revert F f name g
 walk_at "close 7"
 intro F f name g σ k c h hm hk ho
 refine xi1 ?_ (h)
 intro d
 refine im2 ?_
 intro a b
 refine MethR.own a b hm hk ?_
 unfold getV at ho ⊢
 simp only [List.lookup_cons,List.lookup_nil] at ho ⊢
 (repeat' split at ho) <;> first | cases ho | skip
 simp_all
theorem w_feat_told (pc:PC c) {F:Addr} {f:FeatD} (h:FeatR σ F f) (q:Q (featV f) σ):CallC c (k+1) (.ref 191) [.ref F] σ Q:=by
 revert pc h q
 revert c; revert k; revert σ; revert Q; revert F f
 walk_at "close 6"
 intro F f Q σ k c pc h q
 refine xi1 ?_ (h)
 intro d
 refine im2 ?_
 intro a b
 walk_at "def 1"
 walk_at "g"
 refine xc1_2 _ (AttrR.of pc a b (pl_FeatureRow pc) (fa_FeatureRow_tag pc) rfl rfl) ?_
 walk_at "g"
 refine xc1_2 _ (AttrR.of pc a b (pl_FeatureRow pc) (fa_FeatureRow_script pc) rfl rfl) ?_
 walk_at "g"
 refine xc1_2 _ (AttrR.of pc a b (pl_FeatureRow pc) (fa_FeatureRow_language pc) rfl rfl) ?_
 walk_at "g"
 refine xc1_2 _ (AttrR.of pc a b (pl_FeatureRow pc) (fa_FeatureRow_lookups pc) rfl rfl) ?_
 walk_at "g"
 exact q
theorem w_look_told (pc:PC c) {B:Addr} {l:LookD} (h:LookR σ₀ σ B l) (hz:l.rows.length < 1000) (q:∀ σ',Ext σ σ'→Q (lookV l) σ'):CallC c (k+2) (.ref 107) [.ref B] σ Q:=by
 revert pc h hz q
 revert c; revert k; revert σ; revert Q; revert σ₀ B l
 walk_at "close 7"
 intro σ₀ B l Q σ k c pc h hz q
 refine xi2 ?_ (h.a_rows pc)
 intro RL vs
 refine im3 ?_
 intro aR eR al
 have hl:vs.length=l.rows.length:=al.len
 walk_at "def 1"
 walk_at "g"
 refine xc1_2 _ (h.a_name pc) ?_
 walk_at "g"
 refine xc1_2 _ (h.a_flag pc) ?_
 walk_at "g"
 refine EV.compE (by decide +kernel) (fun _ _=>rfl) ?_ ?_
 ·walk_at "cap"
 refine IT.list ?_
 walk_at "g"
 refine xc1_2 _ aR ?_
 refine xc2_3 RL vs rfl (.inl eR) ?_
 refine CompQ.list (l.rows.map rowV) (by rw [List.length_map,hl]) (by exact ar116 hz hl) (okList eR) (fun i x y hx hy τ ex=>?_) fun D τ hD ex eD=>?_
 ·refine xi1 ?_ (al.get hx)
  intro row'
  refine im2 ?_
  intro hr'
  refine xi1 ?_
  intro R'
  refine im2 ?_
  intro hq66
  obtain rfl:=hq66
  intro hR'
  rw [List.getElem?_map,hr'] at hy
  cases hy
  have hR'':=hR'.ext ex
  refine xc1_2 _ (CTg.nameE (by decide +kernel)) ?_
  walk_at "g"
  refine xc1_2 _ (hR''.meth (me_RuleRow_told pc) (ke_RuleRow_told pc) rfl) ?_
  walk_at "g"
  exact (w_row_told pc hR'' ⟨rfl,Ext.refl _⟩).toW
 refine CallW.tupList (.inl eD) (by delta sizeLine; rw [List.length_map]; exact ar127 hz) ?_
 walk_at "g"
 exact q _ ex
theorem w_tree_told (pc:PC c) (h:TreeAt σ₀ σ Tr dT LL FL ls fs) (hz:ls.length < 1000∧fs.length < 1000∧∀ l∈ls,l.rows.length < 1000) (q:∀ σ',Ext σ σ'→Q (treeV ls fs) σ'):CallC c (k+3) (.ref 76) [.ref Tr] σ Q:=by
 revert pc h hz q
 revert c; revert k; revert σ; revert Q; revert σ₀ Tr dT LL FL ls fs
 walk_at "close 11"
 intro σ₀ Tr dT LL FL ls fs Q σ k c pc h hz q
 refine xi1 ?_ (h.looks)
 intro lvs
 refine im2 ?_
 intro eL alL
 refine xi1 ?_ (h.feats)
 intro fvs
 refine im2 ?_
 intro eF alF
 have hl:lvs.length=ls.length:=alL.len
 have hf:fvs.length=fs.length:=alF.len
 walk_at "def 1"
 walk_at "g"
 refine EV.compE (by decide +kernel) (fun _ _=>rfl) ?_ ?_
 ·walk_at "cap"
 refine IT.list ?_
 walk_at "g"
 refine xc1_2 _ (h.a_looks pc) ?_
 refine xc2_3 LL lvs rfl (.inl eL) ?_
 refine CompQ.list (ls.map lookV) (by rw [List.length_map,hl]) (by walk_at "o") (okList eL) (fun i x y hx hy τ ex=>?_) fun D τ hD ex eD=>?_
 ·refine xi1 ?_ (alL.get hx)
  intro l'
  refine im2 ?_
  intro hl'
  refine xi1 ?_
  intro B'
  refine im2 ?_
  intro hq67
  obtain rfl:=hq67
  intro hB'
  rw [List.getElem?_map,hl'] at hy
  cases hy
  have hB'':=hB'.ext ex
  refine xc1_2 _ (CTg.nameE (by decide +kernel)) ?_
  walk_at "g"
  refine xc1_2 _ (hB''.meth (me_LookupBlock_told pc) (ke_LookupBlock_told pc) rfl) ?_
  walk_at "g"
  exact (w_look_told pc hB'' (hz.2.2 _ (List.mem_of_getElem? hl')) fun σ' ex'=>⟨rfl,ex'⟩).toW
 refine CallW.tupList (.inl eD) (by delta sizeLine; rw [List.length_map]; walk_at "o") ?_
 have h2:=h.ext ex
 walk_at "g"
 refine EV.compE (by decide +kernel) (fun _ _=>rfl) ?_ ?_
 ·walk_at "cap"
 refine IT.list ?_
 walk_at "g"
 refine xc1_2 _ (h2.a_feats pc) ?_
 have eF2:=ex _ _ eF
 have alF2:=alF.ext ex
 refine xc2_3 FL fvs rfl (.inl eF2) ?_
 refine CompQ.list (fs.map featV) (by rw [List.length_map,hf]) (by walk_at "o") (okList eF2) (fun i x y hx hy τ' ex'=>?_) fun D' τ' hD' ex' eD'=>?_
 ·refine xi1 ?_ (alF2.get hx)
  intro l'
  refine im2 ?_
  intro hl'
  refine xi1 ?_
  intro B'
  refine im2 ?_
  intro hq68
  obtain rfl:=hq68
  intro hB'
  rw [List.getElem?_map,hl'] at hy
  cases hy
  have hB'':=hB'.ext ex'
  refine xc1_2 _ (CTg.nameE (by decide +kernel)) ?_
  walk_at "g"
  refine xc1_2 _ (hB''.meth (me_FeatureRow_told pc) (ke_FeatureRow_told pc) rfl) ?_
  walk_at "g"
  exact (w_feat_told pc hB'' ⟨rfl,Ext.refl _⟩).toW
 refine CallW.tupList (.inl eD') (by delta sizeLine; rw [List.length_map]; walk_at "o") ?_
 walk_at "g"
 exact q _ (ex.trans ex')
theorem w_lookup_named (pc:PC c) (h:TreeAt σ₀ σ Tr dT LL FL ls fs) (hz:ls.length < 1000) {w:List Nat} (hw:chOk w=true) (hn:∀ l∈ls,chOk l.name=true) (q:∀ σ',Ext σ σ'→Q (.int (idxOf ls w)) σ'):CallC c (k+1) (.ref 81) [.ref Tr,.str w] σ Q:=by
 revert pc h hz hw hn q
 revert c; revert k; revert σ; revert Q; revert σ₀ Tr dT LL FL ls fs w
 walk_at "close 12"
 intro σ₀ Tr dT LL FL ls fs w Q σ k c pc h hz hw hn q
 refine xi1 ?_ (h.looks)
 intro lvs
 refine im2 ?_
 intro eL alL
 have hl:lvs.length=ls.length:=alL.len
 walk_at "def 2"
 walk_at "st"
 refine SV.assignCompE (by decide +kernel) (fun _ _=>rfl) ?_ (by decide +kernel) rfl (by decide +kernel) ?_
 ·walk_at "cap"
 refine IT.list ?_
 walk_at "g"
 refine xc1_2 _ (h.a_looks pc) ?_
 refine xc2_3 LL lvs rfl (.inl eL) ?_
 refine CompQ.list (strVs (namesOf ls)) (by simp [strVs,namesOf,hl]) (by exact ar116 hz hl) (okList eL) (fun i x y hx hy τ ex=>?_) fun D τ hD ex eD=>?_
 ·refine xi1 ?_ (alL.get hx)
  intro l'
  refine im2 ?_
  intro hl'
  refine xi1 ?_
  intro B'
  refine im2 ?_
  intro hq69
  obtain rfl:=hq69
  intro hB'
  have hy2:y=.str l'.name:=by
   unfold strVs namesOf at hy
   rw [List.getElem?_map,List.getElem?_map,hl'] at hy
   cases hy; rfl
  subst hy2
  have hB'':=hB'.ext ex
  refine xc1_2 _ (CTg.nameE (by decide +kernel)) ?_
  walk_at "g"
  refine xc1_2 _ (hB''.a_name pc) ?_
  exact ⟨rfl,Ext.refl _⟩
 walk_at "g"
 refine Op2.inList (.inl eD) (ok_str hw) (oks_strs (List.all_eq_true.mpr fun x hx=>?_)) (depth_str _) ?_
 ·refine xi1 ?_ (List.mem_map.mp hx)
  intro l
  refine im2 ?_
  intro hl hq70
  obtain rfl:=hq70
  exact hn l hl
 rw [vin_str]
 have qq:=q τ ex
 unfold idxOf at qq
 refine xc1_2 _ rfl (ite_dec (fun hm=>?_) (fun hm=>?_))
 ·rw [if_pos hm] at qq
  walk_at "g"
  refine xc1_2 _ (MethR.index (.inl eD)) ?_
  walk_at "g"
  exact CallW.index (.inl eD) hm (by simp [namesOf]; exact ar128 hz) qq
 ·rw [if_neg hm] at qq
  walk_at "g"
  exact qq
theorem w_look_kind (pc:PC c) {B:Addr} {l:LookD} {r0:RowD} (h:LookR σ₀ σ B l) (h0:l.rows[0]?=some r0) (q:Q (.str (kindT r0)) σ):CallC c (k+1) (.ref 114) [.ref B] σ Q:=by
 refine xi2 ?_ (h.a_rows pc)
 intro RL vs
 refine im3 ?_
 intro aR eR al
 have hl:vs.length=l.rows.length:=al.len
 have h1:0 < vs.length:=by rw [hl]; exact (List.getElem?_eq_some_iff.mp h0).1
 refine xi1 ?_ (al.get (List.getElem?_eq_getElem h1))
 intro r0'
 refine im2 ?_
 intro e1
 refine xi1 ?_
 intro R
 refine im2 ?_
 intro e2 hR
 rw [h0] at e1
 cases e1
 walk_at "def 1"
 walk_at "g"
 refine xc1_2 _ aR ?_
 walk_at "g"
 refine TailW.list (j:=0) (fun _ _=>rfl) (.inl eR) (by decide) (by decide) (List.getElem?_eq_getElem h1) ?_
 rw [e2]
 refine xc1_2 _ (hR.kind pc) ?_
 exact q
theorem w_look_pos (pc:PC c) {B:Addr} {l:LookD} {r0:RowD} (h:LookR σ₀ σ B l) (h0:l.rows[0]?=some r0) (q:Q (.bool (rowHead r0==tx "pos")) σ):CallC c (k+2) (.ref 121) [.ref B] σ Q:=by
 revert pc h h0 q
 revert c; revert k; revert σ; revert Q; revert σ₀ B l r0
 walk_at "close 8"
 intro σ₀ B l r0 Q σ k c pc h h0 q
 refine xi2 ?_ (h.a_rows pc)
 intro RL vs
 refine im3 ?_
 intro aR eR al
 have hl:vs.length=l.rows.length:=al.len
 have h1:0 < vs.length:=by rw [hl]; exact (List.getElem?_eq_some_iff.mp h0).1
 refine xi1 ?_ (al.get (List.getElem?_eq_getElem h1))
 intro r0'
 refine im2 ?_
 intro e1
 refine xi1 ?_
 intro R
 refine im2 ?_
 intro e2 hR
 rw [h0] at e1
 cases e1
 walk_at "def 1"
 walk_at "g"
 refine xc1_2 _ aR ?_
 walk_at "g"
 refine TailW.list (j:=0) (fun _ _=>rfl) (.inl eR) (by decide) (by decide) (List.getElem?_eq_getElem h1) ?_
 rw [e2]
 refine xc1_2 _ (hR.meth (me_RuleRow_word pc) (ke_RuleRow_word pc) rfl) ?_
 walk_at "g"
 refine (w_row_word pc hR ?_).toW
 walk_at "g"
 exact q
end
noncomputable def looksW (ls:List LookD) (long:Bool):List (List Nat):=ls.flatMap (lookW · long)
noncomputable def featsW (fs:List FeatD) (long:Bool):List (List Nat):=fs.flatMap (featW · long)
structure TreeOk (ls:List LookD) (fs:List FeatD):Prop where
 looks:∀ l∈ls,LookOk l
 feats:∀ f∈fs,FeatOk f
 names:(namesOf ls).Nodup
 chars:∀ l∈ls,chOk l.name=true
 usesL:∀ l∈ls,∀ u∈lookUses l,u∈namesOf ls
 usesF:∀ f∈fs,∀ u∈f.uses,u∈namesOf ls
 lenL:ls.length < 20
 lenF:fs.length < 20
 lenU:∀ l∈ls,(lookUses l).length < 1000
theorem LookR.base {σ₀ σ₁ σ:St} {B:Addr} {l:LookD} (h:LookR σ₀ σ B l) (b:∀ a,σ₀ a=none→σ₁ a=none):LookR σ₁ σ B l:=xi3 (fun d RL vs=>im2 fun z r=>⟨d,RL,vs,b _ z,r⟩) h
theorem FeatR.off {σ τ:St} {F a:Addr} {f:FeatD} {o o':MObj} (h:FeatR σ F f) (e:σ a=some o) (n1:∀ C d,o≠.inst C d) (n2:∀ x y z w,o≠.dict [("tag",x),("script",y),("language",z),("lookups",w)]) (x:Ext (upM σ a o') τ):FeatR τ F f:=by
 revert h e n1 n2 x
 revert σ; revert τ F a f o o'
 walk_at "close 7"
 intro τ F a f o o' σ h e n1 n2 x
 refine xi1 ?_ (h)
 intro d
 refine im2 ?_
 intro h1 h2
 refine xc1_2 d (x.off ?_ h1) (x.off ?_ h2)
 ·rintro rfl
  rw [e] at h1
  cases h1
  exact n1 _ _ rfl
 ·rintro rfl
  rw [e] at h2
  cases h2
  exact n2 _ _ _ _ rfl
theorem FeatR.offL {σ τ:St} {F a:Addr} {f:FeatD} {o':MObj} {us:List V} (h:FeatR σ F f) (e:σ a=some (.list us)) (x:Ext (upM σ a o') τ):FeatR τ F f:=h.off e (fun _ _ z=>by cases z) (fun _ _ _ _ z=>by cases z) x
section
variable {c:Cx} {k:Nat} {σ σ₀:St} {Q:V→St→Prop}
variable {Tr dT LL FL:Addr} {ls:List LookD} {fs:List FeatD}
variable {r d wl:Addr} {W:List (List Nat×Nat)} {nm:V} {n m:Nat}
theorem FeatR.offR {τ:St} {F:Addr} {f:FeatD} {m':Nat} (hf:FeatR σ F f) (h:Rd σ r d wl W nm n) (x:Ext (upM σ d (rdD wl nm m')) τ):FeatR τ F f :=
 hf.off h.dict (fun _ _ z=>by cases z) (fun _ _ _ _ z=>by simp at z) x
theorem TreeAt.ne {a:Addr} {us:List V} (h:TreeAt σ₀ σ Tr dT LL FL ls fs) (e:σ a=some (.list us)):a≠Tr∧a≠dT:=by
 refine ⟨?_,?_⟩
 ·rintro rfl
  rw [h.obj] at e
  cases e
 ·rintro rfl
  rw [h.dict] at e
  cases e
theorem TreeAt.offL {τ:St} {a:Addr} {o':MObj} {us:List V} (h:TreeAt σ₀ σ Tr dT LL FL ls fs) (h0:σ₀ a≠none) (e:σ a=some (.list us)) (n1:a≠LL) (n2:a≠FL) (x:Ext (upM σ a o') τ):TreeAt σ₀ τ Tr dT LL FL ls fs:=by
 refine im2 ?_ (h.ne e)
 intro z1 z2
 refine xi1 ?_ (h.looks)
 intro lv
 refine im2 ?_
 intro l1 l2
 refine xi1 ?_ (h.feats)
 intro fv
 refine im2 ?_
 intro f1 f2
 exact ⟨x.off (Ne.symm z1) h.obj,x.off (Ne.symm z2) h.dict,⟨lv,x.off (Ne.symm n1) l1,l2.imp fun _ _ ⟨B,e',z⟩=>⟨B,e',z.offL h0 e x⟩⟩,⟨fv,x.off (Ne.symm n2) f1,f2.imp fun _ _ ⟨B,e',z⟩=>⟨B,e',z.offL e x⟩⟩⟩
theorem TreeAt.offR {τ:St} {m':Nat} (h:TreeAt σ₀ σ Tr dT LL FL ls fs) (h0:σ₀ d≠none) (hR:Rd σ r d wl W nm n) (x:Ext (upM σ d (rdD wl nm m')) τ):TreeAt σ₀ τ Tr dT LL FL ls fs:=by
 refine xi1 ?_ (h.looks)
 intro lv
 refine im2 ?_
 intro l1 l2
 refine xi1 ?_ (h.feats)
 intro fv
 refine im2 ?_
 intro f1 f2
 refine ⟨x.off ?_ h.obj,x.off ?_ h.dict,⟨lv,x.off ?_ l1,l2.imp fun _ _ ⟨B,e',z⟩=>⟨B,e',z.offR h0 hR x⟩⟩,⟨fv,x.off ?_ f1,f2.imp fun _ _ ⟨B,e',z⟩=>⟨B,e',z.offR hR x⟩⟩⟩
 ·rintro rfl
  have:=h.obj
  rw [hR.dict] at this
  cases this
 ·rintro rfl
  have:=h.dict
  rw [hR.dict] at this
  simp at this
 ·rintro rfl
  rw [hR.dict] at l1
  cases l1
 ·rintro rfl
  rw [hR.dict] at f1
  cases f1
theorem TreeAt.st2 {τ:St} {U:Addr} {o:MObj} {us:List V} (h:TreeAt σ₀ σ Tr dT LL FL ls fs) (hR:Rd σ r d wl W nm n) (hU0:σ₀ U≠none) (hd0:σ₀ d≠none) (e:σ U=some (.list us)) (hw:U≠wl) (n1:U≠LL) (n2:U≠FL) (x:Ext (upM (upM σ U o) d (rdD wl nm m)) τ):TreeAt σ₀ τ Tr dT LL FL ls fs :=
 (h.offL hU0 e n1 n2 (Ext.refl _)).offR hd0 (hR.put e hw) x
theorem dom2 {τ:St} {U d a:Addr} {x y:MObj} (h:Ext (upM (upM σ U x) d y) τ) (e:τ a=none):σ a=none:=(none_of_upd (none_of_upd (h.none e)).2).2
theorem nodup_fresh {a:List LookD} {l:LookD} {b:List LookD} (h:(namesOf (a++l::b)).Nodup):l.name ∉ namesOf a:=by
 unfold namesOf at h
 rw [List.map_append,List.map_cons,List.nodup_append] at h
 exact fun hx=>h.2.2 _ hx _ (by simp) rfl
theorem w_read_rules (pc:PC c) {t:List Nat} {W:List (List Nat×Nat)} {long:Bool} (ht:t.length < 2 ^ 24) (htok:TokAt t (skipTo t 0) W) (hWl:W.length < 2 ^ 24) (hch:∀ p∈W,chOk p.1=true∧p.1.length < 2 ^ 24) (hW:W.map (·.1)=looksW ls long++(featsW fs long++[[]])) (ok:TreeOk ls fs) (kn:Knows c σ nm)
  (q:∀ σ' σ₀ Tr dT LL FL,Ext σ σ'→TreeAt σ₀ σ' Tr dT LL FL ls fs→Q (.ref Tr) σ'):CallC c (k+8) (.ref 417) [.str t,nm] σ Q:=by
 revert pc ht htok hWl hch hW ok kn q
 revert c; revert k; revert σ; revert Q; revert W; revert nm; revert ls fs t long
 walk_at "close 10"
 intro ls fs t long nm W Q σ k c pc ht htok hWl hch hW ok kn q
 walk_at "def 2"
 walk_at "g"
 refine (w_RuleReader pc ht htok hWl fun r d wl hr hd hwl hrd hwlr hwld=>?_).toW
 generalize hσ1:upM (upM (upM σ r (.inst 313 d)) wl (.list (W.map tokV))) d (rdD wl nm 0)=σ1
 have x1:Ext σ σ1:=by
  rw [← hσ1]
  refine ((Ext.fresh hr).trans (Ext.fresh ?_)).trans (Ext.fresh ?_)
  ·rw [upd_ne _ _ hwlr]
   exact hwl
  ·rw [upd_ne _ _ (Ne.symm hwld),upd_ne _ _ (Ne.symm hrd)]
   exact hd
 have hR1:Rd σ1 r d wl W nm 0:=by
  rw [← hσ1]
  refine ⟨?_,upd_self _ _ _,?_,hch,hWl⟩
  ·rw [upd_ne _ _ hrd,upd_ne _ _ (Ne.symm hwlr)]
   exact upd_self _ _ _
  ·rw [upd_ne _ _ hwld]
   exact upd_self _ _ _
 have kn1:=kn.ext x1
 walk_at "g"
 intro LL hLL
 walk_at "g"
 intro FL hFL
 refine im2 ?_ (none_of_upd hFL)
 intro hFLL hFL0
 walk_at "g"
 have x2:Ext σ1 (upM (upM σ1 LL (.list [])) FL (.list [])):=(Ext.fresh hLL).trans (Ext.fresh hFL)
 generalize hσ2:upM (upM σ1 LL (.list [])) FL (.list [])=σ2 at x2 ⊢
 have eLL2:σ2 LL=some (.list []):=by rw [← hσ2,upd_ne _ _ (Ne.symm hFLL)]; exact upd_self _ _ _
 have eFL2:σ2 FL=some (.list []):=by rw [← hσ2]; exact upd_self _ _ _
 refine (w_RuleTree pc fun Tr dT hTr hdT hTd=>?_).toW
 have x3:=made_ext (C:=84) (es:=[("lookups",V.ref LL),("features",V.ref FL)]) hTr hdT hTd
 generalize hσ3:made σ2 84 Tr dT [("lookups",V.ref LL),("features",V.ref FL)]=σ3 at x3 ⊢
 have eTr:σ3 Tr=some (.inst 84 dT):=by rw [← hσ3]; exact made_x hTd
 have edT:σ3 dT=some (.dict [("lookups",.ref LL),("features",.ref FL)]):=by rw [← hσ3]; exact upd_self _ _ _
 walk_at "g"
 intro U hU
 have x4:Ext σ3 (upM σ3 U (.list [])):=Ext.fresh hU
 generalize hσs:upM σ3 U (.list [])=σs at x4 ⊢
 have eUs:σs U=some (.list (([]:Toks).map tokV)):=by rw [← hσs]; exact upd_self _ _ _
 have xs:Ext σ1 σs:=(x2.trans x3).trans x4
 have hRs:=hR1.ext xs
 have kns:=kn1.ext xs
 have hU1:σ1 U=none:=(x2.trans x3).none hU
 have hUw:U≠wl:=neO hU1 hR1.words
 have eLLs:=(x3.trans x4) _ _ eLL2
 have eFLs:=(x3.trans x4) _ _ eFL2
 have hULL:U≠LL:=neO hU (x3 _ _ eLL2)
 have hUFL:U≠FL:=neO hU (x3 _ _ eFL2)
 have hLLw:LL≠wl:=neO hLL hR1.words
 have hFLw:FL≠wl:=neO hFL0 hR1.words
 have trs:TreeAt σs σs Tr dT LL FL [] []:=⟨x4 _ _ eTr,x4 _ _ edT,⟨[],eLLs,.nil⟩,⟨[],eFLs,.nil⟩⟩
 have n0:∀ {a o},σs a=some o→σs a≠none:=fun e z=>by rw [e] at z; cases z
 have hU0:σ U=none:=x1.none hU1
 have hLL0:σ LL=none:=x1.none hLL
 have hFL00:σ FL=none:=x1.none hFL0
 have ah0:Ahead W 0 (looksW ls long++(featsW fs long++[[]])):=by unfold Ahead; rw [List.drop_zero]; exact hW
 walk_at "g"
 let J:Nat→Loc→St→Prop:=fun mm ρ' σ'=>∃ ld lr fd fr pos,∃ toks:Toks,ls=ld++lr∧fs=fd++fr∧(lr≠[]→fd=[])∧mm=lr.length+fr.length∧ρ' "reader"=some (.ref r)∧ρ' "uses"=some (.ref U)∧ρ' "tree"=some (.ref Tr) ∧
  Ext σ σ'∧Rd σ' r d wl W nm pos∧Knows c σ' nm∧σ' U=some (.list (toks.map tokV))∧(∀ p∈toks,p.1∈namesOf ls)∧toks.length≤1000 * ld.length+1000 * fd.length∧TreeAt σs σ' Tr dT LL FL ld fd∧(∀ a,σ' a=none→σs a=none)∧Ahead W pos (looksW lr long++(featsW fr long++[[]]))
 refine SV.while J (ls.length+fs.length) ⟨[],ls,[],fs,0,[],rfl,rfl,fun _=>rfl,rfl,?_,?_,?_,x1.trans xs,hRs,kns,eUs,by simp,by simp,trs,fun _ e=>e,ah0⟩ ?_
 ·walk_at "loc"
 ·walk_at "loc"
 ·walk_at "loc"
 intro mm ρ' σ'
 refine xi6 ?_
 intro ld lr fd fr pos toks
 refine im8 ?_
 intro eL eF ord hq71
 obtain rfl:=hq71
 intro l1 l2 l3
 refine im8 ?_
 intro xσ hR knR eU tN tZ tr
 refine im2 ?_
 intro dom ah
 refine im2 ?_ (hR.neL eU)
 intro hUd hUr
 have hd0:σs d≠none:=n0 hRs.dict
 have hσd:σ d=none:=hd
 have hld:ld.length+lr.length < 20:=by have:=ok.lenL; rw [eL] at this; simpa using this
 have hfd:fd.length+fr.length < 20:=by have:=ok.lenF; rw [eF] at this; simpa using this
 walk_at "g"
 refine xc1_2 _ (hR.meth pc (me_RuleReader_word pc) (ke_RuleReader_word pc) rfl) ?_
 walk_at "g"
 have wd:∀ {w:List Nat} {ws:List (List Nat)},Ahead W pos (w::ws)→w≠[]→(w != (Str.ofString "").cps.toList)=true:=fun _ h=>by rw [cs_empty]; simpa using h
 cases lr with
 | cons l lr =>
  have okl:=ok.looks l (by rw [eL]; simp)
  have e4:looksW (l::lr) long++(featsW fr long++[[]])=tx "lookup"::l.name::(flagW l long++tx "{"::(rowsW l.rows long++tx "}"::(looksW lr long++(featsW fr long++[[]])))):=by
   unfold looksW
   rw [List.flatMap_cons]
   unfold lookW
   simp
  rw [e4] at ah
  refine xi1 ?_ (ah.here)
  intro p hp
  refine (w_word pc hR hp ?_).toW
  walk_at "g"
  rw [wd ah (by decide +kernel)]
  walk_at "g"
  refine xc1_2 _ (hR.meth pc (me_RuleReader_skip pc) (ke_RuleReader_skip pc) rfl) ?_
  walk_at "g"
  refine (w_skip pc hR hp (fun _=>?_) fun e=>absurd rfl e).toW
  have hRa:=hR.move (pos+1)
  have tra:TreeAt σs (upM σ' d (rdD wl nm (pos+1))) Tr dT LL FL ld fd:=tr.offR hd0 hR (Ext.refl _)
  have kna:Knows c (upM σ' d (rdD wl nm (pos+1))) nm:=knR.st hR (Ext.refl _)
  have eUa:upM σ' d (rdD wl nm (pos+1)) U=some (.list (toks.map tokV)):=(upd_ne _ _ hUd).trans eU
  have ah1:=ah.next
  refine xi1 ?_ (ah1.here)
  intro p1 hp1
  refine im4 ?_ (hRa.at hp1)
  intro a1 a2 a3 a4
  have hcl:∀ x∈ld,chOk x.name=true:=fun x hx=>ok.chars x (by rw [eL]; simp [hx])
  walk_at "g"
  refine xc1_2 _ (tra.meth (me_RuleTree_lookup_named pc) (ke_RuleTree_lookup_named pc) rfl) ?_
  walk_at "g"
  refine xc1_2 _ (hRa.meth pc (me_RuleReader_word pc) (ke_RuleReader_word pc) rfl) ?_
  walk_at "g"
  refine (w_word pc hRa hp1 ?_).toW
  walk_at "g"
  refine (w_lookup_named pc tra (by exact ar129 hld) a3 hcl fun σb xb=>?_).toW
  have hni:l.name ∉ namesOf ld:=nodup_fresh (by rw [← eL]; exact ok.names)
  rw [show idxOf ld l.name=-1 by unfold idxOf; rw [if_neg hni]]
  walk_at "g"
  rw [show decide ((0:Int)≤-1)=false by decide]
  have hRb:=hRa.ext xb
  have trb:=tra.ext xb
  have knb:=kna.ext xb
  have eUb:=xb _ _ eUa
  refine xi1 ?_ (trb.looks)
  intro lvs
  refine im2 ?_
  intro eLL alL
  have hlv:lvs.length=ld.length:=alL.len
  walk_at "g"
  refine xc1_2 _ (trb.a_looks pc) ?_
  refine xc1_2 _ (MethR.append (.inl eLL)) ?_
  walk_at "g"
  have hLLd:LL≠d:=neS eLL hRb.dict rfl
  refine (w_read_lookup pc hRb knb okl eUb hUw (by exact ar130 tZ hfd hld) ah1 fun σc B new xc en hB=>?_).toW
  have trc:=trb.st2 hRb (n0 eUs) hd0 eUb hUw hULL hUFL xc
  have hRc:=hRb.st2 eUb hUw xc
  have knc:=knb.st2 hRb eUb hUw xc
  have eLLc:σc LL=some (.list lvs):=xc.off2 (Ne.symm hULL) hLLd eLL
  have domb:∀ a,σb a=none→σs a=none:=fun a e=>dom a (none_of_upd (xb.none e)).2
  have domc:∀ a,σc a=none→σs a=none:=fun a e=>domb a (dom2 xc e)
  have hBs:=hB.base domb
  walk_at "g"
  refine CallW.append eLLc (by delta sizeLine; exact ar131 hld hlv) ?_
  refine ⟨rfl,?_⟩
  have hLLr:LL≠r:=neS eLLc hRc.obj rfl
  refine im2 ?_ (trc.ne eLLc)
  intro z1 z2
  refine xi1 ?_ (trc.feats)
  intro fvs
  refine im2 ?_
  intro eFLc alFc
  refine xi1 ?_ (trc.looks)
  intro lvs'
  refine im2 ?_
  intro eLLc' alLc
  rw [eLLc] at eLLc'
  cases eLLc'
  have hF:FL≠LL:=hFLL
  have eUc:σc U=some (.list ((toks++new).map tokV)):=xc _ _ ((upd_ne _ _ hUd).trans (upd_self _ _ _))
  have fdn:fd=[]:=ord (by simp)
  walk_at "g"
  refine xc1_2 (lr.length+fr.length) (by simp only [List.length_cons]; exact ar132) (xc6_1 (ld++[l]) lr fd fr (pos+1+((lookW l long).length - 1)) (toks++new) (xc0_8 (by rw [eL]; simp) eF (fun _=>fdn) rfl l1 l2 l3 (xc0_8 ?_ (hRc.put eLLc hLLw) (knc.put eLLc) ?_ ?_ ?_ ⟨?_,?_,⟨_,upd_self _ _ _,?_⟩,⟨fvs,?_,?_⟩⟩ (⟨?_,?_⟩))))
  ·refine Ext.bump (fun a o e=>?_) hLL0
   refine xc.off2 (by exact (neO hU0 e).symm) (by exact (neO hσd e).symm) (xb _ _ ?_)
   rw [upd_ne]
   ·exact xσ _ _ e
   ·rintro rfl
    rw [hσd] at e
    cases e
  ·rw [upd_ne _ _ hULL]
   exact eUc
  ·intro p hp
   rcases List.mem_append.mp hp with z | z
   ·exact tN p z
   ·refine ok.usesL l (by rw [eL]; simp) p.1 ?_
    rw [← en]
    exact List.mem_map_of_mem z
  ·have h1:new.length=(lookUses l).length:=by rw [← en]; simp
   have h2:=ok.lenU l (by rw [eL]; simp)
   simp only [List.length_append,List.length_singleton]
   exact ar133 tZ h1 h2
  ·rw [upd_ne _ _ (Ne.symm z1)]
   exact trc.obj
  ·rw [upd_ne _ _ (Ne.symm z2)]
   exact trc.dict
  ·refine All2.append ?_ ⟨B,rfl,hBs.offL (n0 eLLs) eLLc (Ext.refl _)⟩
   exact alLc.imp fun _ _ ⟨B,e',z⟩=>⟨B,e',z.offL (n0 eLLs) eLLc (Ext.refl _)⟩
  ·rw [upd_ne _ _ hF]
   exact eFLc
  ·exact alFc.imp fun _ _ ⟨B,e',z⟩=>⟨B,e',z.offL eLLc (Ext.refl _)⟩
  ·exact fun a e=>domc a (none_of_upd e).2
  ·have e6:(l.name::(flagW l long++tx "{"::(rowsW l.rows long++tx "}"::(looksW lr long++(featsW fr long++[[]])))))=(l.name::(flagW l long++tx "{"::(rowsW l.rows long++[tx "}"])))++(looksW lr long++(featsW fr long++[[]])):=by simp
   rw [e6] at ah1
   have h7:=ah1.skip
   refine h7.cast ?_ rfl
   unfold lookW; simp
 | nil =>
  cases fr with
  | cons f fr =>
   have okf:=ok.feats f (by rw [eF]; simp)
   have e4:looksW [] long++(featsW (f::fr) long++[[]])=tx "feature"::f.tag::(scrW f long++(lanW f long++tx "{"::(f.uses++tx "}"::(featsW fr long++[[]])))):=by
    unfold looksW featsW
    rw [List.flatMap_cons]
    unfold featW
    simp
   rw [e4] at ah
   refine xi1 ?_ (ah.here)
   intro p hp
   refine (w_word pc hR hp ?_).toW
   walk_at "g"
   rw [wd ah (by decide +kernel)]
   walk_at "g"
   refine xc1_2 _ (hR.meth pc (me_RuleReader_skip pc) (ke_RuleReader_skip pc) rfl) ?_
   walk_at "g"
   refine (w_skip pc hR hp (fun e=>absurd e (by decide +kernel)) fun _=>?_).toW
   walk_at "g"
   refine xc1_2 _ (hR.meth pc (me_RuleReader_need pc) (ke_RuleReader_need pc) rfl) ?_
   walk_at "g"
   refine (w_need pc hR hp ?_).toW
   refine ⟨rfl,?_⟩
   have hRa:=hR.move (pos+1)
   have tra:TreeAt σs (upM σ' d (rdD wl nm (pos+1))) Tr dT LL FL ld fd:=tr.offR hd0 hR (Ext.refl _)
   have kna:Knows c (upM σ' d (rdD wl nm (pos+1))) nm:=knR.st hR (Ext.refl _)
   have eUa:upM σ' d (rdD wl nm (pos+1)) U=some (.list (toks.map tokV)):=(upd_ne _ _ hUd).trans eU
   have ah1:=ah.next
   refine xi1 ?_ (tra.feats)
   intro fvs
   refine im2 ?_
   intro eFL alF
   have hfv:fvs.length=fd.length:=alF.len
   walk_at "g"
   refine xc1_2 _ (tra.a_feats pc) ?_
   refine xc1_2 _ (MethR.append (.inl eFL)) ?_
   walk_at "g"
   have hFLd:FL≠d:=neS eFL hRa.dict rfl
   refine (w_read_feature pc hRa okf eUa hUw (by exact ar134 tZ hld hfd) ah1 fun σc B new xc en hB=>?_).toW
   have trc:=tra.st2 hRa (n0 eUs) hd0 eUa hUw hULL hUFL xc
   have hRc:=hRa.st2 eUa hUw xc
   have knc:=kna.st2 hRa eUa hUw xc
   have eFLc:σc FL=some (.list fvs):=xc.off2 (Ne.symm hUFL) hFLd eFL
   have domc:∀ a,σc a=none→σs a=none:=fun a e=>dom a (none_of_upd (dom2 xc e)).2
   walk_at "g"
   refine CallW.append eFLc (by delta sizeLine; exact ar131 hfd hfv) ?_
   refine ⟨rfl,?_⟩
   refine im2 ?_ (trc.ne eFLc)
   intro z1 z2
   refine xi1 ?_ (trc.looks)
   intro lvs
   refine im2 ?_
   intro eLLc alLc
   refine xi1 ?_ (trc.feats)
   intro fvs'
   refine im2 ?_
   intro eFLc' alFc
   rw [eFLc] at eFLc'
   cases eFLc'
   have eUc:σc U=some (.list ((toks++new).map tokV)):=xc _ _ ((upd_ne _ _ hUd).trans (upd_self _ _ _))
   walk_at "g"
   refine xc1_2 (([]:List LookD).length+fr.length) (by simp only [List.length_cons]; exact ar135) (xc6_1 ld [] (fd++[f]) fr (pos+1+((featW f long).length - 1)) (toks++new) (xc0_8 eL (by rw [eF]; simp) (fun z=>absurd rfl z) rfl l1 l2 l3 (xc0_8 ?_ (hRc.put eFLc hFLw) (knc.put eFLc) ?_ ?_ ?_ ⟨?_,?_,⟨lvs,?_,?_⟩,⟨_,upd_self _ _ _,?_⟩⟩ (⟨?_,?_⟩))))
   ·refine Ext.bump (fun a o e=>?_) hFL00
    refine xc.off2 (by exact (neO hU0 e).symm) (by exact (neO hσd e).symm) ?_
    rw [upd_ne]
    ·exact xσ _ _ e
    ·rintro rfl
     rw [hσd] at e
     cases e
   ·rw [upd_ne _ _ hUFL]
    exact eUc
   ·intro p hp
    rcases List.mem_append.mp hp with z | z
    ·exact tN p z
    ·refine ok.usesF f (by rw [eF]; simp) p.1 ?_
     rw [← en]
     exact List.mem_map_of_mem z
   ·have h1:new.length=f.uses.length:=by rw [← en]; simp
    have h2:=okf.len
    simp only [List.length_append,List.length_singleton]
    exact ar136 tZ h1 h2
   ·rw [upd_ne _ _ (Ne.symm z1)]
    exact trc.obj
   ·rw [upd_ne _ _ (Ne.symm z2)]
    exact trc.dict
   ·rw [upd_ne _ _ (Ne.symm hFLL)]
    exact eLLc
   ·exact alLc.imp fun _ _ ⟨B,e',z⟩=>⟨B,e',z.offL (n0 eFLs) eFLc (Ext.refl _)⟩
   ·refine All2.append ?_ ⟨B,rfl,hB.offL eFLc (Ext.refl _)⟩
    exact alFc.imp fun _ _ ⟨B,e',z⟩=>⟨B,e',z.offL eFLc (Ext.refl _)⟩
   ·exact fun a e=>domc a (none_of_upd e).2
   ·have e6:(f.tag::(scrW f long++(lanW f long++tx "{"::(f.uses++tx "}"::(featsW fr long++[[]])))))=(f.tag::(scrW f long++(lanW f long++tx "{"::(f.uses++[tx "}"]))))++(looksW [] long++(featsW fr long++[[]])):=by simp [looksW]
    rw [e6] at ah1
    have h7:=ah1.skip
    refine h7.cast ?_ rfl
    unfold featW; simp
  | nil =>
   have e4:looksW [] long++(featsW [] long++[[]])=[[]]:=rfl
   rw [e4] at ah
   refine xi1 ?_ (ah.here)
   intro p hp
   refine (w_word pc hR hp ?_).toW
   walk_at "g"
   rw [cs_empty,show (([]:List Nat) != [])=false from rfl]
   rw [List.append_nil] at eL eF
   rw [← eL,← eF] at tr
   have hcl:∀ x∈ls,chOk x.name=true:=ok.chars
   walk_at "g"
   refine SV.for (fun _ _=>rfl) ?_
   refine IT.list ?_
   walk_at "g"
   refine xc2_3 U (toks.map tokV) rfl (.inl eU) ?_
   refine xc1_4 (fun i ρ₂ σ₂=>ρ₂ "tree"=some (.ref Tr)∧Ext σ' σ₂) ⟨l3,Ext.refl _⟩ (fun i ρ₂ σ₂ z=>.inl (z.2 _ _ eU)) ?_ ?_
   ·intro i ρ₂ σ₂ x hx
    refine im2 ?_
    intro k1 k2
    rw [List.getElem?_map] at hx
    cases hpp:toks[i]? with
    | none=>rw [hpp] at hx; cases hx
    | some pp =>
    rw [hpp] at hx
    cases hx
    obtain ⟨nn,ps⟩:=pp
    have hmem:nn∈namesOf ls:=tN (nn,ps) (List.mem_of_getElem? hpp)
    have hnn:chOk nn=true:=by obtain ⟨l,hl,rfl⟩:=List.mem_map.mp hmem; exact hcl l hl
    show TgV c _ _ _ _ _ (V.tup [V.str nn,V.int ps]) _
    walk_at "g"
    have tr2:=tr.ext k2
    refine xc1_2 _ (tr2.meth (me_RuleTree_lookup_named pc) (ke_RuleTree_lookup_named pc) rfl) ?_
    walk_at "g"
    refine (w_lookup_named pc tr2 (by have:=ok.lenL; exact ar137 this) hnn hcl fun σb xb=>?_).toW
    rw [show idxOf ls nn=(strIdx (namesOf ls) nn:Int) by unfold idxOf; rw [if_pos hmem]]
    walk_at "g"
    refine ite_dec (fun hh=>by exact (ar138 hh).elim) (fun _=>?_)
    walk_at "g"
    exact ⟨by walk_at "loc",k2.trans xb⟩
   ·intro ρ₂ σ₂
    refine im2 ?_
    intro k1 k2
    walk_at "g"
    exact q _ _ Tr dT LL FL (xσ.trans k2) (tr.ext k2)
end
section
variable {c:Cx} {k:Nat} {sc:Scope} {ρ:Loc} {σ:St}
theorem SV.swap2 {x y:Str} {p q p' vp:Pos} {n m:Nat} {v₁ v₂:Expr} {N:Loc→St→Prop} {R:V→St→Prop} (hx:sc.names.lookup x=some .local) (hy:sc.names.lookup y=some .local)
  (hs:∀ env,swapsWith (.Tuple [v₁,v₂] m vp) (some (.Tuple [.Name x p,.Name y q] n p')) vp.line env=pure false)
  (hk:(env0 sc).blockKind=.function) (hw:swappedStores [.Tuple [.Name x p,.Name y q] n p'] (.Tuple [v₁,v₂] m vp) (env0 sc)=pure (some [x,y]))
  (h:EV c k (.Tuple [v₁,v₂] m vp) sc ρ σ fun w σ'=>∃ a b,w=.tup [a,b]∧N (setL (setL ρ y b) x a) σ'):SV c k (.Assign [.Tuple [.Name x p,.Name y q] n p'] (.Tuple [v₁,v₂] m vp) vp) sc ρ σ N R:=by
 revert hx hy hs hk hw h
 revert c; revert k; revert sc; revert ρ; revert σ; revert N; revert R; revert n; revert x y p q p' vp m v₁ v₂
 walk_at "close 17"
 intro x y p q p' vp m v₁ v₂ n R N σ ρ sc k c hx hy hs hk hw h
 intro env A s ok fr rm sm F
 have kx:env.kindOf x=some .local:=(ok.names x).trans hx
 have ky:env.kindOf y=some .local:=(ok.names y).trans hy
 have kb:env.blockKind=.function:=by unfold Env.blockKind; rw [ok.scope]; rfl
 refine Assign_Tuple_swapped (names:=[x,y]) (h.andThen ok rm sm F fun v w σ' h' t' r sm' st F' q=>?_) (hs env) ((swap_eq (kb.trans hk.symm) (funext ok.names)).trans hw)
 refine xi2 ?_ (q)
 intro a b
 refine im2 ?_
 intro hq72
 obtain rfl:=hq72
 intro q
 refine xi3 ?_ (r)
 intro ad its mm
 refine im3 ?_
 intro hq73
 obtain rfl:=hq73
 intro g r
 refine xi2 ?_ (r)
 intro va l1
 refine im3 ?_
 intro hq74
 obtain rfl:=hq74
 intro ra
 refine xi2 ?_
 intro vb l2
 refine im3 ?_
 intro hq75
 obtain rfl:=hq75
 intro rb r3
 rw [show l2=[] from r3] at g
 refine unpackItems_tuple (items:=#[va,vb]) rm.handled ⟨_,g,rfl,mm,rfl⟩ fun h2 ex=>?_
 refine im3 ?_ (Step.ofExt sm' (get_size_none _) ex)
 intro sm2 st2 tk
 have F2:=F'.step sm' st2
 show wpAny _ A (do holding [va] (bindName env y vb); (do holding [] (bindName env x va); pure ())) _ _ _
 refine wpAny_bind (wpAny_holding (wpAny_bindName (wpAny_mono (storeAny (N:=fun ρ' σ''=>ρ'=setL ρ y b∧σ''=σ') ok fr sm2 F2 (.inl hy) (VR.keeps tk rb) ⟨rfl,rfl⟩) (fun _ s3 p=>?_) fun _ _ e=>e)))
 refine xi4 ?_ (p)
 intro ρ3 σ3 h3 t3
 refine im6 ?_
 intro hq76
 obtain rfl:=hq76
 intro sm3 st3 F3 hq77
 obtain rfl:=hq77
 intro hq78
 obtain rfl:=hq78
 refine wpAny_bind (wpAny_holding (wpAny_bindName (wpAny_mono (storeAny (N:=N) ok fr sm3 F3 (.inl hx) (VR.keeps st3.tups (VR.keeps tk ra)) q) (fun _ s4 p=>?_) fun _ _ e=>e)))
 have p2:=(p.before st3).before (t₁:=s.toks) ((st2.toF F' sm'))
 have p3:=p2.before (st.toF F sm)
 refine xi4 ?_ (p3)
 intro ρ4 σ4 h4 t4
 refine im5 ?_
 intro e4 sm4 st4 F4 q4
 exact wpAny_pure ⟨ρ4,σ4,h4,t4,e4,sm4,st4,F4,q4⟩
end
section
variable {c:Cx} {k:Nat} {σ σ₀:St} {Q:V→St→Prop}
theorem joinL_len (sep:List Nat):∀ ls:List (List Nat),(ls.map List.length).sum+ls.length * sep.length≤(joinL sep ls).length+sep.length
 | []=>by show 0+0 * _≤0+_; simp
 | [x]=>by show x.length+0+1 * _≤x.length+_; simp
 | x::y::r=>by
  have:=joinL_len sep (y::r)
  show _≤(x++sep++joinL sep (y::r)).length+sep.length
  simp only [List.map_cons,List.sum_cons,List.length_cons,List.length_append,Nat.succ_mul] at this ⊢
  exact ar139 this
noncomputable def setT (l:List (List Nat)):List Nat:=match l with
 | [g]=>g
 | l=>tx "["++joinL (tx " ") l++tx "]"
theorem w_show_set (pc:PC c) {l:List (List Nat)} (hl:l≠[]) (hz:(setT l).length < 1000000) (hn:l.length < 1000) (q:∀ σ',Ext σ σ'→Q (.str (setT l)) σ'):CallC c (k+2) (.ref 424) [.tup (strVs l)] σ Q:=by
 walk_at "def 1"
 walk_at "g"
 refine CallW.lenTup (by unfold strVs; rw [List.length_map]; exact ar77 hn) ?_
 walk_at "g"
 match l,hl,hz,hn,q with
 | [g],_,hz,hn,q =>
  refine iteT ?_
  walk_at "g"
  exact TailW.tup (m:=0) (fun _ _=>rfl) (by decide) (by decide) rfl rfl (q _ (Ext.refl _))
 | a::b::r,_,hz,hn,q =>
  have h1:(((strVs (a::b::r)).length:Int)==1)=false:=by
   simp only [strVs,List.map_cons,List.length_cons,beq_eq_false_iff_ne]
   exact ar140
  rw [h1]
  refine iteF ?_
  have hz':(tx "["++joinL (tx " ") (a::b::r)++tx "]").length < 1000000:=hz
  have hj:=joinL_len (tx " ") (a::b::r)
  simp only [List.length_append] at hz'
  have h2:(tx " ").length=1:=rfl
  walk_at "g"
  refine xc1_2 _ MethR.join ?_
  walk_at "g"
  refine CallW.joinTup (sep:=tx " ") (by delta sizeLine; exact ar141 hj hz' h2) ?_
  refine Op2.addStr (x:=tx "[") (by delta sizeLine; exact ar142 hz') ?_
  walk_at "g"
  refine Op2.addStr (x:=tx "["++joinL (tx " ") (a::b::r)) (y:=tx "]") (by delta sizeLine; simp only [List.length_append]; exact ar143 hz') ?_
  exact q _ (Ext.refl _)
noncomputable def worthT (x:Worth):List Nat:=if (x.1==0&&x.2.1==0&&x.2.2.2==0)=true then numT x.2.2.1 else tx "<"++joinL (tx " ") [numT x.1,numT x.2.1,numT x.2.2.1,numT x.2.2.2]++tx ">"
theorem w_show_worth (pc:PC c) {x:Worth} (ok:worthOk x=true) (q:∀ σ',Ext σ σ'→Q (.str (worthT x)) σ'):CallC c (k+2) (.ref 429) [worthV x] σ Q:=by
 revert pc ok q
 revert c; revert k; revert σ; revert Q; revert x
 walk_at "close 5"
 intro x Q σ k c pc ok q
 show CallC c _ _ [.tup [.int x.1,.int x.2.1,.int x.2.2.1,.int x.2.2.2]] σ Q
 simp only [worthOk,numIn,Bool.and_eq_true,decide_eq_true_eq] at ok
 refine im3 ?_ (ok)
 refine im3 ?_
 refine im3 ?_
 refine im2 ?_
 refine im2 ?_
 intro o1 l1 u1
 refine im2 ?_
 intro o2 l2 u2
 refine im2 ?_
 intro o3 l3 u3
 refine im2 ?_
 intro o4 l4 u4
 have nl:∀ {j:Int},numOkB (numT j) j=true→(numT j).length≤6:=fun {j} h=>by
  simp only [numOkB,Bool.and_eq_true,decide_eq_true_eq] at h
  exact h.1.1.2
 have b:∀ {j:Int},-32768≤j→j≤32767→j.natAbs.log2 < 1920:=fun {j} h1 h2=>by
  by_cases h0:j.natAbs=0
  ·rw [h0]
   decide
  ·exact Nat.lt_trans ((Nat.log2_lt h0).2 (show _ < 2 ^ 16 by exact ar144 h1 h2)) (by decide)
 unfold worthT at q
 walk_at "def 1"
 walk_at "g"
 refine TailW.tup (m:=0) (fun _ _=>rfl) (by decide) (by decide) rfl rfl ?_
 walk_at "g"
 cases e1:(x.1==0)
 case true =>
  walk_at "g"
  refine TailW.tup (m:=1) (fun _ _=>rfl) (by decide) (by decide) rfl rfl ?_
  walk_at "g"
  cases e2:(x.2.1==0)
  case true =>
   walk_at "g"
   refine TailW.tup (m:=3) (fun _ _=>rfl) (by decide) (by decide) rfl rfl ?_
   walk_at "g"
   cases e3:(x.2.2.2==0)
   case true =>
    rw [e1,e2,e3] at q
    walk_at "g"
    refine TailW.tup (m:=2) (fun _ _=>rfl) (by decide) (by decide) rfl rfl ?_
    walk_at "g"
    exact CallW.strInt (b l3 u3) (q _ (Ext.refl _))
   case false =>
    rw [e1,e2,e3] at q
    walk_at "g"
    refine xc1_2 _ MethR.join ?_
    walk_at "g"
    refine EV.compE (by decide +kernel) (fun _ _=>rfl) ?_ ?_
    ·walk_at "cap"
    refine IT.tup ?_
    walk_at "g"
    refine xc1_2 _ rfl ?_
    refine CompQ.list (strVs [numT x.1,numT x.2.1,numT x.2.2.1,numT x.2.2.2]) rfl (show 4 < 2 ^ 24 by decide) (fun _ _=>trivial) (fun i x' y hx hy τ ex=>?_) fun D τ hD ex eD=>?_
    ·have key:∃ j,x'=V.int j∧y=V.str (numT j)∧-32768≤j∧j≤32767:=by
      match i,hx,hy with
      | 0,hx,hy=>cases hx; cases hy; exact ⟨_,rfl,rfl,l1,u1⟩
      | 1,hx,hy=>cases hx; cases hy; exact ⟨_,rfl,rfl,l2,u2⟩
      | 2,hx,hy=>cases hx; cases hy; exact ⟨_,rfl,rfl,l3,u3⟩
      | 3,hx,hy=>cases hx; cases hy; exact ⟨_,rfl,rfl,l4,u4⟩
      | _+4,hx,_=>cases hx
     refine xi1 ?_ (key)
     intro j
     refine im4 ?_
     intro hq79
     obtain rfl:=hq79
     intro hq80
     obtain rfl:=hq80
     intro j1 j2
     refine xc1_2 _ (CTg.nameE (by decide +kernel)) ?_
     walk_at "g"
     exact CallW.strInt (b j1 j2) ⟨rfl,Ext.refl _⟩
    have hj:=joinL_len (tx " ") [numT x.1,numT x.2.1,numT x.2.2.1,numT x.2.2.2]
    walk_at "g"
    refine CallW.joinList (sep:=tx " ") (.inl eD) (by delta sizeLine; have:=nl o1; have:=nl o2; have:=nl o3; have:=nl o4; have:(tx " ").length=1:=rfl; simp only [List.map_cons,List.map_nil,List.sum_cons,List.sum_nil,List.length_cons,List.length_nil]; walk_at "o") ?_
    refine Op2.addStr (x:=tx "<") (by delta sizeLine; (have:=nl o1; have:=nl o2; have:=nl o3; have:=nl o4; have h1:(tx " ").length=1:=rfl; have h2:(tx "<").length=1:=rfl; have h3:(tx ">").length=1:=rfl; simp only [joinL,List.length_append]; exact ar145 (by assumption) (by assumption) (by assumption) this h1 h2)) ?_
    walk_at "g"
    refine Op2.addStr (x:=tx "<"++joinL (tx " ") [numT x.1,numT x.2.1,numT x.2.2.1,numT x.2.2.2]) (y:=tx ">") (by delta sizeLine; simp only [List.length_append]; (have:=nl o1; have:=nl o2; have:=nl o3; have:=nl o4; have h1:(tx " ").length=1:=rfl; have h2:(tx "<").length=1:=rfl; have h3:(tx ">").length=1:=rfl; simp only [joinL,List.length_append]; exact ar146 (by assumption) (by assumption) (by assumption) this h1 h2 h3)) ?_
    exact q _ ex
  case false =>
   rw [e1,e2] at q
   walk_at "g"
   refine xc1_2 _ MethR.join ?_
   walk_at "g"
   refine EV.compE (by decide +kernel) (fun _ _=>rfl) ?_ ?_
   ·walk_at "cap"
   refine IT.tup ?_
   walk_at "g"
   refine xc1_2 _ rfl ?_
   refine CompQ.list (strVs [numT x.1,numT x.2.1,numT x.2.2.1,numT x.2.2.2]) rfl (show 4 < 2 ^ 24 by decide) (fun _ _=>trivial) (fun i x' y hx hy τ ex=>?_) fun D τ hD ex eD=>?_
   ·have key:∃ j,x'=V.int j∧y=V.str (numT j)∧-32768≤j∧j≤32767:=by
     match i,hx,hy with
     | 0,hx,hy=>cases hx; cases hy; exact ⟨_,rfl,rfl,l1,u1⟩
     | 1,hx,hy=>cases hx; cases hy; exact ⟨_,rfl,rfl,l2,u2⟩
     | 2,hx,hy=>cases hx; cases hy; exact ⟨_,rfl,rfl,l3,u3⟩
     | 3,hx,hy=>cases hx; cases hy; exact ⟨_,rfl,rfl,l4,u4⟩
     | _+4,hx,_=>cases hx
    refine xi1 ?_ (key)
    intro j
    refine im4 ?_
    intro hq81
    obtain rfl:=hq81
    intro hq82
    obtain rfl:=hq82
    intro j1 j2
    refine xc1_2 _ (CTg.nameE (by decide +kernel)) ?_
    walk_at "g"
    exact CallW.strInt (b j1 j2) ⟨rfl,Ext.refl _⟩
   have hj:=joinL_len (tx " ") [numT x.1,numT x.2.1,numT x.2.2.1,numT x.2.2.2]
   walk_at "g"
   refine CallW.joinList (sep:=tx " ") (.inl eD) (by delta sizeLine; have:=nl o1; have:=nl o2; have:=nl o3; have:=nl o4; have:(tx " ").length=1:=rfl; simp only [List.map_cons,List.map_nil,List.sum_cons,List.sum_nil,List.length_cons,List.length_nil]; walk_at "o") ?_
   refine Op2.addStr (x:=tx "<") (by delta sizeLine; (have:=nl o1; have:=nl o2; have:=nl o3; have:=nl o4; have h1:(tx " ").length=1:=rfl; have h2:(tx "<").length=1:=rfl; have h3:(tx ">").length=1:=rfl; simp only [joinL,List.length_append]; exact ar145 (by assumption) (by assumption) (by assumption) this h1 h2)) ?_
   walk_at "g"
   refine Op2.addStr (x:=tx "<"++joinL (tx " ") [numT x.1,numT x.2.1,numT x.2.2.1,numT x.2.2.2]) (y:=tx ">") (by delta sizeLine; simp only [List.length_append]; (have:=nl o1; have:=nl o2; have:=nl o3; have:=nl o4; have h1:(tx " ").length=1:=rfl; have h2:(tx "<").length=1:=rfl; have h3:(tx ">").length=1:=rfl; simp only [joinL,List.length_append]; exact ar146 (by assumption) (by assumption) (by assumption) this h1 h2 h3)) ?_
   exact q _ ex
 case false =>
  rw [e1] at q
  walk_at "g"
  refine xc1_2 _ MethR.join ?_
  walk_at "g"
  refine EV.compE (by decide +kernel) (fun _ _=>rfl) ?_ ?_
  ·walk_at "cap"
  refine IT.tup ?_
  walk_at "g"
  refine xc1_2 _ rfl ?_
  refine CompQ.list (strVs [numT x.1,numT x.2.1,numT x.2.2.1,numT x.2.2.2]) rfl (show 4 < 2 ^ 24 by decide) (fun _ _=>trivial) (fun i x' y hx hy τ ex=>?_) fun D τ hD ex eD=>?_
  ·have key:∃ j,x'=V.int j∧y=V.str (numT j)∧-32768≤j∧j≤32767:=by
    match i,hx,hy with
    | 0,hx,hy=>cases hx; cases hy; exact ⟨_,rfl,rfl,l1,u1⟩
    | 1,hx,hy=>cases hx; cases hy; exact ⟨_,rfl,rfl,l2,u2⟩
    | 2,hx,hy=>cases hx; cases hy; exact ⟨_,rfl,rfl,l3,u3⟩
    | 3,hx,hy=>cases hx; cases hy; exact ⟨_,rfl,rfl,l4,u4⟩
    | _+4,hx,_=>cases hx
   refine xi1 ?_ (key)
   intro j
   refine im4 ?_
   intro hq83
   obtain rfl:=hq83
   intro hq84
   obtain rfl:=hq84
   intro j1 j2
   refine xc1_2 _ (CTg.nameE (by decide +kernel)) ?_
   walk_at "g"
   exact CallW.strInt (b j1 j2) ⟨rfl,Ext.refl _⟩
  have hj:=joinL_len (tx " ") [numT x.1,numT x.2.1,numT x.2.2.1,numT x.2.2.2]
  walk_at "g"
  refine CallW.joinList (sep:=tx " ") (.inl eD) (by delta sizeLine; have:=nl o1; have:=nl o2; have:=nl o3; have:=nl o4; have:(tx " ").length=1:=rfl; simp only [List.map_cons,List.map_nil,List.sum_cons,List.sum_nil,List.length_cons,List.length_nil]; walk_at "o") ?_
  refine Op2.addStr (x:=tx "<") (by delta sizeLine; (have:=nl o1; have:=nl o2; have:=nl o3; have:=nl o4; have h1:(tx " ").length=1:=rfl; have h2:(tx "<").length=1:=rfl; have h3:(tx ">").length=1:=rfl; simp only [joinL,List.length_append]; exact ar145 (by assumption) (by assumption) (by assumption) this h1 h2)) ?_
  walk_at "g"
  refine Op2.addStr (x:=tx "<"++joinL (tx " ") [numT x.1,numT x.2.1,numT x.2.2.1,numT x.2.2.2]) (y:=tx ">") (by delta sizeLine; simp only [List.length_append]; (have:=nl o1; have:=nl o2; have:=nl o3; have:=nl o4; have h1:(tx " ").length=1:=rfl; have h2:(tx "<").length=1:=rfl; have h3:(tx ">").length=1:=rfl; simp only [joinL,List.length_append]; exact ar146 (by assumption) (by assumption) (by assumption) this h1 h2 h3)) ?_
  exact q _ ex
end
noncomputable def useT (u:List Nat):List Nat:=tx "lookup "++u
noncomputable def insT1 (p:List (List Nat)×List (List Nat)):List (List Nat):=(setT p.1++tx "'")::p.2.map useT
noncomputable def insT (ins:List (List (List Nat)×List (List Nat))):List (List Nat):=ins.flatMap insT1
noncomputable def chainP (word:List Nat) (back:List (List (List Nat))) (ins:List (List (List Nat)×List (List Nat))) (ahead:List (List (List Nat))):List (List Nat):=word::(back.map setT++(insT ins++ahead.map setT))
theorem insT_len (ins:List (List (List Nat)×List (List Nat))):ins.length≤(insT ins).length:=by
 unfold insT
 induction ins with
 | nil=>simp
 | cons p r ih =>
  rw [List.flatMap_cons,List.length_append,List.length_cons,show (insT1 p).length=p.2.length+1 by unfold insT1; simp]
  exact ar147 ih
theorem joinL_mem {sep:List Nat}:∀ {ls:List (List Nat)} {x:List Nat},x∈ls→x.length≤(joinL sep ls).length
 | [],_,h=>by cases h
 | [y],x,h=>by rw [List.mem_singleton.mp h]; exact Nat.le_refl _
 | y::z::r,x,h=>by
  show _≤(y++sep++joinL sep (z::r)).length
  simp only [List.length_append]
  rcases List.mem_cons.mp h with rfl | h
  ·exact ar74
  ·have:=joinL_mem (sep:=sep) h
   exact ar148 this
theorem joinL_n {sep:List Nat} (hs:sep.length=1):∀ {ls:List (List Nat)},ls.length≤(joinL sep ls).length+1
 | []=>by simp
 | [y]=>by simp
 | y::z::r=>by
  have:=joinL_n hs (ls:=z::r)
  show _≤(y++sep++joinL sep (z::r)).length+1
  simp only [List.length_append,List.length_cons] at this ⊢
  exact ar149 hs this
theorem acts_ge:∀ (ins:List (List (List Nat)×List (List Nat))) (i0:Nat),∀ p∈acts i0 ins,i0≤p.1
 | [],_,_,h=>by cases h
 | (g,us)::r,i0,p,h=>by
  have h:p∈us.map (fun u=>(i0,u))++acts (i0+1) r:=h
  rcases List.mem_append.mp h with h | h
  ·refine xi1 ?_ (List.mem_map.mp h)
   intro u
   refine im2 ?_
   intro _ hq85
   obtain rfl:=hq85
   exact Nat.le_refl _
  ·exact Nat.le_of_succ_le (acts_ge r (i0+1) p h)
theorem acts_filter:∀ (ins:List (List (List Nat)×List (List Nat))) (i0 i:Nat) (p:List (List Nat)×List (List Nat)),ins[i]?=some p→((acts i0 ins).filter fun q=>q.1==i0+i).map (·.2)=p.2
 | [],_,_,_,h=>by simp at h
 | (g,us)::r,i0,0,p,h=>by
  cases h
  show ((us.map (fun u=>(i0,u))++acts (i0+1) r).filter _).map _=us
  rw [List.filter_append,List.filter_eq_self.mpr,(List.filter_eq_nil_iff (l:=acts (i0+1) r)).mpr]
  ·rw [List.append_nil,List.map_map]
   exact List.map_id us
  ·intro q hq
   have:=acts_ge r (i0+1) q hq
   simp
   exact ar150 this
  ·intro q hq
   refine xi1 ?_ (List.mem_map.mp hq)
   intro u
   refine im2 ?_
   intro _ hq86
   obtain rfl:=hq86
   simp
 | (g,us)::r,i0,i+1,p,h=>by
  have ih:=acts_filter r (i0+1) i p h
  show ((us.map (fun u=>(i0,u))++acts (i0+1) r).filter _).map _=p.2
  rw [List.filter_append,(List.filter_eq_nil_iff (l:=us.map _)).mpr,List.nil_append,show i0+(i+1)=i0+1+i by exact ar0]
  ·exact ih
  ·intro q hq
   refine xi1 ?_ (List.mem_map.mp hq)
   intro u
   refine im2 ?_
   intro _ hq87
   obtain rfl:=hq87
   simp
section
variable {c:Cx} {k:Nat} {σ σ₀:St} {Q:V→St→Prop}
theorem w_show_chain (pc:PC c) {word:List Nat} {back ahead:List (List (List Nat))} {ins:List (List (List Nat)×List (List Nat))} (nb:∀ g∈back,g≠[]) (na:∀ g∈ahead,g≠[]) (ni:∀ p∈ins,p.1≠[])
  (mb:∀ g∈back,g.length < 1000) (ma:∀ g∈ahead,g.length < 1000) (mi:∀ p∈ins,p.1.length < 1000) (hz:(joinL (tx " ") (chainP word back ins ahead)).length < 100000) (q:∀ σ',Ext σ σ'→Q (.str (joinL (tx " ") (chainP word back ins ahead))) σ'):CallC c (k+4) (.ref 434) [.tup (partsV (.chain word back ins ahead))] σ Q:=by
 revert pc nb na ni mb ma mi hz q
 revert c; revert k; revert σ; revert Q; revert word back ahead ins
 walk_at "close 8"
 intro word back ahead ins Q σ k c pc nb na ni mb ma mi hz q
 have mem:=fun x h=>joinL_mem (sep:=tx " ") (ls:=chainP word back ins ahead) (x:=x) h
 have hN:=joinL_n (sep:=tx " ") (by rfl) (ls:=chainP word back ins ahead)
 have hN2:(chainP word back ins ahead).length=back.length+((insT ins).length+ahead.length)+1:=by unfold chainP; simp
 show CallC c _ _ [.tup [.str word,setsV back,setsV (ins.map (·.1)),setsV ahead,.tup ((acts 0 ins).map actV)]] σ Q
 walk_at "def 1"
 walk_at "g"
 intro W0 hW0
 walk_at "g"
 refine EV.compE (by decide +kernel) (fun _ _=>rfl) ?_ ?_
 ·walk_at "cap"
 refine IT.tup ?_
 walk_at "g"
 refine xc1_2 _ rfl ?_
 have oneSet:∀ {gs:List (List (List Nat))} {i:Nat} {x y:V},(∀ g∈gs,g≠[])→(∀ g∈gs,g.length < 1000)→(∀ g∈gs,setT g∈chainP word back ins ahead∨setT g++tx "'"∈chainP word back ins ahead)→(gs.map fun g=>V.tup (strVs g))[i]?=some x→(strVs (gs.map setT))[i]?=some y →
   ∃ g,g≠[]∧g.length < 1000∧x=.tup (strVs g)∧y=.str (setT g)∧(setT g).length < 100000:=by
  intro gs i x y h1 h2 h3 hx hy
  unfold strVs at hy
  rw [List.getElem?_map] at hx hy
  rw [List.getElem?_map] at hy
  cases hg:gs[i]? with
  | none=>rw [hg] at hx; cases hx
  | some g =>
  rw [hg] at hx hy
  cases hx; cases hy
  have hm:=List.mem_of_getElem? hg
  refine xc1_5 g (h1 g hm) (h2 g hm) rfl rfl ?_
  rcases h3 g hm with z | z
  ·have:=mem _ z
   exact ar151 hz this
  ·have:=mem _ z
   rw [List.length_append] at this
   exact ar152 hz this
 refine CompQ.list (strVs (back.map setT)) (by simp [strVs]) (by rw [List.length_map]; exact ar153 hz hN hN2) (fun _ _=>trivial) (fun i x y hx hy τ ex=>?_) fun B τ hB ex eB=>?_
 ·refine xi1 ?_ (oneSet nb mb (fun g hg=>.inl (by unfold chainP; simp; exact .inr (.inl ⟨g,hg,rfl⟩))) hx hy)
  intro g
  refine im5 ?_
  intro g1 g2 hq88
  obtain rfl:=hq88
  intro hq89
  obtain rfl:=hq89
  intro g3
  refine xc1_2 _ (CTg.nameE (by decide +kernel)) ?_
  walk_at "g"
  exact (w_show_set pc g1 (by exact ar154 g3) g2 fun σ' x=>⟨rfl,x⟩).toW
 have xW:Ext σ τ:=(Ext.fresh hW0).trans ex
 have eW:=ex _ _ (upd_self σ W0 (.list [.str word]))
 refine Op2.addList (.inl eW) (.inl eB) (by delta sizeLine; simp [strVs]; exact ar155 hz hN hN2) fun Fd hF=>?_
 walk_at "g"
 have hF0:σ Fd=none:=xW.none hF
 refine SV.for (fun _ _=>rfl) ?_
 refine IT.range1 rfl (by decide +kernel) (gn_range pc) rfl ?_
 walk_at "g"
 have hinsT:∀ p,p∈ins→insT1 p ⊆ chainP word back ins ahead:=by
  intro p hp x hx
  unfold chainP insT
  simp only [List.mem_cons,List.mem_append,List.mem_flatMap]
  exact .inr (.inr (.inl ⟨p,hp,hx⟩))
 have hlen:=insT_len ins
 refine CallW.lenTup (by rw [List.length_map,List.length_map]; exact ar156 hz hN hN2 hlen) ?_
 refine xc1_3 ins.length (by rw [List.length_map,List.length_map]) (by exact ar157 hz hN hN2 hlen) ?_
 let base:=word::back.map setT
 refine xc1_4 (fun i ρ' σ'=>ρ' "found"=some (.ref Fd)∧ρ' "inside"=some (setsV (ins.map (·.1)))∧ρ' "ahead"=some (setsV ahead)∧ρ' "actions"=some (.tup ((acts 0 ins).map actV))∧Ext σ σ'∧σ' Fd=some (.list (strVs (base++insT (ins.take i))))) ⟨?_,?_,?_,?_,?_,?_⟩ (fun _ _ _ _=>trivial) ?_ ?_
 ·walk_at "loc"
 ·walk_at "loc"
 ·walk_at "loc"
 ·walk_at "loc"
 ·exact xW.trans (Ext.fresh hF)
 ·rw [upd_self]
  simp [base,strVs,insT]
 ·intro i ρ' σ' x hx
  refine im6 ?_
  intro l1 l2 l3 l4 xσ eF
  refine im2 ?_ (rangeV_get hx)
  intro hi hq90
  obtain rfl:=hq90
  obtain ⟨p,hp⟩:∃ p,ins[i]?=some p:=⟨ins[i],List.getElem?_eq_getElem _⟩
  have hpm:=List.mem_of_getElem? hp
  have hsub:=hinsT p hpm
  have hm1:=mem _ (hsub (List.mem_cons_self ..))
  simp only [List.length_append] at hm1
  have hbase:(base++insT (ins.take i)).length+(insT1 p).length≤(chainP word back ins ahead).length:=by
   have e1:insT ins=insT (ins.take i)++insT (ins.drop i):=by unfold insT; rw [← List.flatMap_append,List.take_append_drop]
   have e2:insT (ins.drop i)=insT1 p++insT (ins.drop (i+1)):=by
    have:=(List.getElem?_eq_some_iff.mp hp)
    rw [List.drop_eq_getElem_cons hi,this.2]
    rfl
   rw [hN2,e1,e2]
   simp only [base,List.length_append,List.length_cons,List.length_map]
   exact ar158
  walk_at "g"
  refine xc1_2 _ (MethR.append (.inl eF)) ?_
  walk_at "g"
  refine TailW.tup (m:=i) (x:=.tup (strVs p.1)) (fun _ _=>rfl) (by exact ar159) (by exact ar160 hz hN hN2 hlen hi) (by rw [show (0:Int)+(i:Int)=((i:Nat):Int) by exact ar86]; exact seqIndex_nat (by simpa using hi)) (by rw [List.getElem?_map,List.getElem?_map,hp]; rfl) ?_
  walk_at "g"
  refine (w_show_set pc (ni p hpm) (by exact ar161 hz hm1) (mi p hpm) fun σ1 x1=>?_).toW
  walk_at "g"
  refine Op2.addStr (x:=setT p.1) (y:=tx "'") (by delta sizeLine; exact ar162 hz hm1) ?_
  have eF1:=x1 _ _ eF
  refine CallW.append eF1 (by delta sizeLine; simp only [strVs,List.length_map]; exact ar163 hz hN hbase) ?_
  refine ⟨rfl,?_⟩
  walk_at "g"
  refine SV.for (fun _ _=>rfl) ?_
  refine IT.tup ?_
  walk_at "g"
  refine xc1_2 _ rfl ?_
  let pre:=base++insT (ins.take i)++[setT p.1++tx "'"]
  let got:=fun j:Nat=>(((acts 0 ins).take j).filter fun q=>q.1==i).map fun q=>useT q.2
  have hall:got (acts 0 ins).length=p.2.map useT:=by
   have:=acts_filter ins 0 i p hp
   rw [Nat.zero_add] at this
   simp only [got]
   rw [List.take_length,← this,List.map_map]
   rfl
  have hgot:∀ j,List.Sublist (got j) (p.2.map useT):=by
   intro j
   rw [← hall]
   simp only [got]
   rw [List.take_length]
   exact ((List.take_sublist j _).filter _).map _
  refine xc1_4 (fun j ρ₂ σ₂=>ρ₂ "found"=some (.ref Fd)∧ρ₂ "inside"=some (setsV (ins.map (·.1)))∧ρ₂ "ahead"=some (setsV ahead)∧ρ₂ "actions"=some (.tup ((acts 0 ins).map actV))∧ρ₂ "spot"=some (.int (0+(i:Int)))∧Ext σ σ₂∧σ₂ Fd=some (.list (strVs (pre++got j)))) ⟨?_,?_,?_,?_,?_,?_,?_⟩ (fun _ _ _ _=>trivial) ?_ ?_
  ·walk_at "loc"
  ·walk_at "loc"
  ·walk_at "loc"
  ·walk_at "loc"
  ·walk_at "loc"
  ·exact Ext.bump (xσ.trans x1) hF0
  ·rw [upd_self]
   simp [pre,got,strVs]
  ·intro j ρ₂ σ₂ y hy
   refine im7 ?_
   intro k1 k2 k3 k4 k5 kX kF
   rw [List.getElem?_map] at hy
   cases ha:(acts 0 ins)[j]? with
   | none=>rw [ha] at hy; cases hy
   | some a =>
   rw [ha] at hy
   cases hy
   obtain ⟨ai,an⟩:=a
   have tk:(acts 0 ins).take (j+1)=(acts 0 ins).take j++[(ai,an)]:=by rw [List.take_add_one,ha]; rfl
   have hgl:=(hgot (j+1)).length_le
   have gk:got (j+1)=got j++if ai=i then [useT an] else []:=by
    simp only [got]
    rw [tk,List.filter_append,List.map_append]
    congr 1
    by_cases z:ai=i <;> simp [z]
   rw [gk,List.length_append,show (p.2.map useT).length=p.2.length from List.length_map _] at hgl
   have hi1:(insT1 p).length=p.2.length+1:=by unfold insT1; simp
   show TgV c _ _ _ _ _ (V.tup [V.int ai,V.str an]) _
   walk_at "g"
   by_cases hai:ai=i
   ·rw [if_pos hai] at gk hgl
    rw [show ((ai:Int)==0+(i:Int))=true by simp [hai]]
    walk_at "g"
    refine xc1_2 _ (MethR.append (.inl kF)) ?_
    walk_at "g"
    have hu:useT an∈chainP word back ins ahead:=by
     refine hsub (List.mem_cons_of_mem _ ((hgot (j+1)).subset ?_))
     rw [gk]
     simp
    have hm2:=mem _ hu
    have hm3:(useT an).length=(tx "lookup ").length+an.length:=by unfold useT; rw [List.length_append]
    refine Op2.addStr (x:=tx "lookup ") (y:=an) (by delta sizeLine; exact ar164 hz hm2 hm3) ?_
    have hpre:(pre++got j).length+1≤(chainP word back ins ahead).length:=by
     rw [List.length_append] at hbase
     rw [List.length_singleton] at hgl
     show ((base++insT (ins.take i)++[setT p.1++tx "'"])++got j).length+1≤_
     rw [List.length_append,List.length_append,List.length_append,List.length_singleton]
     exact ar165 hbase hgl hi1
    refine CallW.append kF (by delta sizeLine; unfold strVs; rw [List.length_map]; exact ar166 hz hN hpre) ?_
    refine ⟨rfl,?_⟩
    walk_at "g"
    refine xc0_7 ?_ ?_ ?_ ?_ ?_ ?_ ?_
    ·walk_at "loc"
    ·walk_at "loc"
    ·walk_at "loc"
    ·walk_at "loc"
    ·walk_at "loc"
    ·exact Ext.bump kX hF0
    ·rw [upd_self,gk]
     simp [strVs,useT]
   ·rw [if_neg hai] at gk hgl
    rw [show ((ai:Int)==0+(i:Int))=false by simp; exact ar167 hai]
    walk_at "g"
    refine xc0_7 ?_ ?_ ?_ ?_ ?_ kX ?_
    ·walk_at "loc"
    ·walk_at "loc"
    ·walk_at "loc"
    ·walk_at "loc"
    ·walk_at "loc"
    ·rw [gk,List.append_nil]
     exact kF
  ·intro ρ₂ σ₂
   refine im7 ?_
   intro k1 k2 k3 k4 k5 kX kF
   rw [List.length_map,hall] at kF
   walk_at "g"
   refine xc0_6 k1 k2 k3 k4 kX ?_
   rw [kF]
   have:insT (ins.take (i+1))=insT (ins.take i)++insT1 p:=by rw [List.take_add_one,hp]; unfold insT; simp
   rw [this]
   simp [pre,insT1]
 ·intro ρ' σ'
  refine im6 ?_
  intro l1 l2 l3 l4 xσ eF
  rw [rangeV_len,List.take_length] at eF
  walk_at "g"
  refine xc1_2 _ MethR.join ?_
  walk_at "g"
  refine EV.compE (by decide +kernel) (fun _ _=>rfl) ?_ ?_
  ·walk_at "cap"
  refine IT.tup ?_
  walk_at "g"
  refine xc1_2 _ rfl ?_
  refine CompQ.list (strVs (ahead.map setT)) (by simp [strVs]) (by rw [List.length_map]; exact ar168 hz hN hN2) (fun _ _=>trivial) (fun i x y hx hy τ ex=>?_) fun B τ hB ex eB=>?_
  ·refine xi1 ?_ (oneSet na ma (fun g hg=>.inl (by unfold chainP; simp; exact .inr (.inr (.inr ⟨g,hg,rfl⟩)))) hx hy)
   intro g
   refine im5 ?_
   intro g1 g2 hq91
   obtain rfl:=hq91
   intro hq92
   obtain rfl:=hq92
   intro g3
   refine xc1_2 _ (CTg.nameE (by decide +kernel)) ?_
   walk_at "g"
   exact (w_show_set pc g1 (by exact ar154 g3) g2 fun σ' x=>⟨rfl,x⟩).toW
  refine Op2.addList (.inl (ex _ _ eF)) (.inl eB) (by delta sizeLine; simp only [strVs,List.length_map,List.length_append,base,List.length_cons]; exact ar169 hz hN hN2) fun G hG=>?_
  have ew:strVs (base++insT ins)++strVs (ahead.map setT)=strVs (chainP word back ins ahead):=by unfold strVs; rw [← List.map_append]; congr 1; simp [base,chainP]
  rw [ew]
  have hjl:=joinL_len (tx " ") (chainP word back ins ahead)
  have h1:(tx " ").length=1:=rfl
  refine CallW.joinList (sep:=tx " ") (.inl (upd_self _ _ _)) (by delta sizeLine; exact ar170 hz hjl h1) ?_
  exact q _ ((xσ.trans ex).trans (Ext.fresh hG))
end
noncomputable def rowT:RowD→List Nat
 | .single a b=>tx "sub "++a++tx " by "++b++tx ";"
 | .multiple a bs=>tx "sub "++a++tx " by "++(if bs.length > 0 then joinL (tx " ") bs else tx "NULL")++tx ";"
 | .alternate a bs=>tx "sub "++a++tx " from ["++joinL (tx " ") bs++tx "];"
 | .ligature as b=>tx "sub "++joinL (tx " ") as++tx " by "++b++tx ";"
 | .adjust a w=>tx "pos "++joinL (tx " ") [a]++tx " "++worthT w++tx ";"
 | .pair a b w=>tx "pos "++joinL (tx " ") [a,b]++tx " "++worthT w++tx ";"
 | .chain w back ins ahead=>joinL (tx " ") (chainP w back ins ahead)++tx ";"
noncomputable def ShowOk:RowD→Prop
 | .single _ _=>True
 | .multiple _ bs=>bs.length < 1000
 | .alternate _ bs=>bs.length < 1000
 | .ligature as _=>as.length < 1000
 | .adjust _ w=>worthOk w=true
 | .pair _ _ w=>worthOk w=true
 | .chain _ back ins ahead=>(∀ g∈back,g≠[])∧(∀ g∈ahead,g≠[])∧(∀ p∈ins,p.1≠[])∧(∀ g∈back,g.length < 1000)∧(∀ g∈ahead,g.length < 1000)∧(∀ p∈ins,p.1.length < 1000)
section
variable {c:Cx} {k:Nat} {σ σ₀:St} {Q:V→St→Prop}
set_option maxHeartbeats 2000000 in
theorem w_show_row (pc:PC c) {R:Addr} {row:RowD} (h:RowR σ R row) (ok:ShowOk row) (hz:(rowT row).length < 90000) (q:∀ σ',Ext σ σ'→Q (.str (rowT row)) σ'):CallC c (k+6) (.ref 441) [.ref R] σ Q:=by
 revert pc h ok hz q
 revert c; revert k; revert σ; revert Q; revert R; revert row
 walk_at "close 6"
 intro row R Q σ k c pc h ok hz q
 walk_at "def 1"
 walk_at "g"
 refine xc1_2 _ (h.kind pc) ?_
 walk_at "g"
 cases row with
 | chain w back ins ahead =>
  rw [show (kindT (RowD.chain w back ins ahead)==tx "chain")=true by kernel_rfl]
  walk_at "g"
  refine xc1_2 _ (h.parts pc) ?_
  refine im6 ?_ (ok)
  intro o1 o2 o3 o4 o5 o6
  have hz':(joinL (tx " ") (chainP w back ins ahead)++tx ";").length < 90000:=hz
  rw [List.length_append] at hz'
  refine (w_show_chain pc o1 o2 o3 o4 o5 o6 (by exact ar171 hz') fun σ' x=>?_).toW
  walk_at "g"
  refine Op2.addStr (x:=joinL (tx " ") (chainP w back ins ahead)) (y:=tx ";") (by delta sizeLine; exact ar172 hz') (q _ x)
 | single a b =>
  rw [show (kindT (RowD.single a b)==tx "chain")=false by kernel_rfl]
  walk_at "g"
  refine SV.swap2 (by decide +kernel) (by decide +kernel) (fun _=>rfl) rfl (by kernel_rfl) ?_
  walk_at "g"
  refine xc1_2 _ (h.parts pc) ?_
  walk_at "g"
  refine TailW.tup (m:=0) (fun _ _=>rfl) (by decide) (by decide) rfl rfl ?_
  walk_at "g"
  refine xc1_2 _ (h.parts pc) ?_
  walk_at "g"
  refine TailW.tup (m:=1) (fun _ _=>rfl) (by decide) (by decide) rfl rfl ?_
  walk_at "g"
  refine xc2_2 _ _ rfl ?_
  walk_at "g"
  refine xc1_2 _ (h.kind pc) ?_
  walk_at "g"
  rw [show (kindT (RowD.single a b)==(Str.ofString "single").cps.toList)=true by kernel_rfl]
  walk_at "g"
  simp only [rowT,tx,List.length_append] at hz
  refine Op2.addStr (by delta sizeLine; (try simp only [List.length_append]); exact ar173 hz) ?_
  walk_at "g"
  refine Op2.addStr (by delta sizeLine; (try simp only [List.length_append]); exact ar174 hz) ?_
  walk_at "g"
  refine Op2.addStr (by delta sizeLine; (try simp only [List.length_append]); exact ar175 hz) ?_
  walk_at "g"
  refine Op2.addStr (by delta sizeLine; (try simp only [List.length_append]); exact ar172 hz) ?_
  exact q _ (Ext.refl _)
 | multiple a bs =>
  rw [show (kindT (RowD.multiple a bs)==tx "chain")=false by kernel_rfl]
  walk_at "g"
  refine SV.swap2 (by decide +kernel) (by decide +kernel) (fun _=>rfl) rfl (by kernel_rfl) ?_
  walk_at "g"
  refine xc1_2 _ (h.parts pc) ?_
  walk_at "g"
  refine TailW.tup (m:=0) (fun _ _=>rfl) (by decide) (by decide) rfl rfl ?_
  walk_at "g"
  refine xc1_2 _ (h.parts pc) ?_
  walk_at "g"
  refine TailW.tup (m:=1) (fun _ _=>rfl) (by decide) (by decide) rfl rfl ?_
  walk_at "g"
  refine xc2_2 _ _ rfl ?_
  walk_at "g"
  refine xc1_2 _ (h.kind pc) ?_
  walk_at "g"
  rw [show (kindT (RowD.multiple a bs)==(Str.ofString "single").cps.toList)=false by kernel_rfl]
  walk_at "g"
  refine xc1_2 _ (h.kind pc) ?_
  walk_at "g"
  rw [show (kindT (RowD.multiple a bs)==(Str.ofString "multiple").cps.toList)=true by kernel_rfl]
  walk_at "g"
  have ob:bs.length < 1000:=ok
  by_cases hb:bs.length > 0
  ·simp only [rowT,if_pos hb,tx,List.length_append] at hz q
   refine Op2.addStr (by delta sizeLine; (try simp only [List.length_append]); exact ar173 hz) ?_
   walk_at "g"
   refine Op2.addStr (by delta sizeLine; (try simp only [List.length_append]); exact ar174 hz) ?_
   walk_at "g"
   refine CallW.lenTup (by unfold strVs; rw [List.length_map]; exact ar77 ob) ?_
   walk_at "g"
   rw [show decide (((strVs bs).length:Int) > 0)=true by simp only [strVs,List.length_map]; exact decide_eq_true (by exact ar176 hb)]
   walk_at "g"
   refine xc1_2 _ MethR.join ?_
   walk_at "g"
   have hj:=joinL_len (Str.ofString " ").cps.toList bs
   have h1:(Str.ofString " ").cps.toList.length=1:=rfl
   refine CallW.joinTup (by delta sizeLine; exact ar177 hz hj h1) ?_
   refine Op2.addStr (by delta sizeLine; (try simp only [List.length_append]); exact ar175 hz) ?_
   walk_at "g"
   refine Op2.addStr (by delta sizeLine; (try simp only [List.length_append]); exact ar172 hz) ?_
   exact q _ (Ext.refl _)
  ·simp only [rowT,if_neg hb,tx,List.length_append] at hz q
   refine Op2.addStr (by delta sizeLine; (try simp only [List.length_append]); exact ar173 hz) ?_
   walk_at "g"
   refine Op2.addStr (by delta sizeLine; (try simp only [List.length_append]); exact ar174 hz) ?_
   walk_at "g"
   refine CallW.lenTup (by unfold strVs; rw [List.length_map]; exact ar178 hb) ?_
   walk_at "g"
   rw [show decide (((strVs bs).length:Int) > 0)=false by simp only [strVs,List.length_map]; exact decide_eq_false (by exact ar179 hb)]
   walk_at "g"
   refine Op2.addStr (by delta sizeLine; (try simp only [List.length_append]); exact ar175 hz) ?_
   walk_at "g"
   refine Op2.addStr (by delta sizeLine; (try simp only [List.length_append]); exact ar172 hz) ?_
   exact q _ (Ext.refl _)
 | alternate a bs =>
  rw [show (kindT (RowD.alternate a bs)==tx "chain")=false by kernel_rfl]
  walk_at "g"
  refine SV.swap2 (by decide +kernel) (by decide +kernel) (fun _=>rfl) rfl (by kernel_rfl) ?_
  walk_at "g"
  refine xc1_2 _ (h.parts pc) ?_
  walk_at "g"
  refine TailW.tup (m:=0) (fun _ _=>rfl) (by decide) (by decide) rfl rfl ?_
  walk_at "g"
  refine xc1_2 _ (h.parts pc) ?_
  walk_at "g"
  refine TailW.tup (m:=1) (fun _ _=>rfl) (by decide) (by decide) rfl rfl ?_
  walk_at "g"
  refine xc2_2 _ _ rfl ?_
  walk_at "g"
  refine xc1_2 _ (h.kind pc) ?_
  walk_at "g"
  rw [show (kindT (RowD.alternate a bs)==(Str.ofString "single").cps.toList)=false by kernel_rfl]
  walk_at "g"
  refine xc1_2 _ (h.kind pc) ?_
  walk_at "g"
  rw [show (kindT (RowD.alternate a bs)==(Str.ofString "multiple").cps.toList)=false by kernel_rfl]
  walk_at "g"
  refine xc1_2 _ (h.kind pc) ?_
  walk_at "g"
  rw [show (kindT (RowD.alternate a bs)==(Str.ofString "alternate").cps.toList)=true by kernel_rfl]
  walk_at "g"
  simp only [rowT,tx,List.length_append] at hz
  refine Op2.addStr (by delta sizeLine; (try simp only [List.length_append]); exact ar173 hz) ?_
  walk_at "g"
  refine Op2.addStr (by delta sizeLine; (try simp only [List.length_append]); exact ar174 hz) ?_
  walk_at "g"
  refine xc1_2 _ MethR.join ?_
  walk_at "g"
  have hj:=joinL_len (Str.ofString " ").cps.toList bs
  have h1:(Str.ofString " ").cps.toList.length=1:=rfl
  refine CallW.joinTup (by delta sizeLine; exact ar177 hz hj h1) ?_
  refine Op2.addStr (by delta sizeLine; (try simp only [List.length_append]); exact ar175 hz) ?_
  walk_at "g"
  refine Op2.addStr (by delta sizeLine; (try simp only [List.length_append]); exact ar172 hz) ?_
  exact q _ (Ext.refl _)
 | ligature as b =>
  rw [show (kindT (RowD.ligature as b)==tx "chain")=false by kernel_rfl]
  walk_at "g"
  refine SV.swap2 (by decide +kernel) (by decide +kernel) (fun _=>rfl) rfl (by kernel_rfl) ?_
  walk_at "g"
  refine xc1_2 _ (h.parts pc) ?_
  walk_at "g"
  refine TailW.tup (m:=0) (fun _ _=>rfl) (by decide) (by decide) rfl rfl ?_
  walk_at "g"
  refine xc1_2 _ (h.parts pc) ?_
  walk_at "g"
  refine TailW.tup (m:=1) (fun _ _=>rfl) (by decide) (by decide) rfl rfl ?_
  walk_at "g"
  refine xc2_2 _ _ rfl ?_
  walk_at "g"
  refine xc1_2 _ (h.kind pc) ?_
  walk_at "g"
  rw [show (kindT (RowD.ligature as b)==(Str.ofString "single").cps.toList)=false by kernel_rfl]
  walk_at "g"
  refine xc1_2 _ (h.kind pc) ?_
  walk_at "g"
  rw [show (kindT (RowD.ligature as b)==(Str.ofString "multiple").cps.toList)=false by kernel_rfl]
  walk_at "g"
  refine xc1_2 _ (h.kind pc) ?_
  walk_at "g"
  rw [show (kindT (RowD.ligature as b)==(Str.ofString "alternate").cps.toList)=false by kernel_rfl]
  walk_at "g"
  refine xc1_2 _ (h.kind pc) ?_
  walk_at "g"
  rw [show (kindT (RowD.ligature as b)==(Str.ofString "ligature").cps.toList)=true by kernel_rfl]
  walk_at "g"
  simp only [rowT,tx,List.length_append] at hz
  refine xc1_2 _ MethR.join ?_
  walk_at "g"
  have hj:=joinL_len (Str.ofString " ").cps.toList as
  have h1:(Str.ofString " ").cps.toList.length=1:=rfl
  refine CallW.joinTup (by delta sizeLine; exact ar180 hz hj h1) ?_
  refine Op2.addStr (by delta sizeLine; (try simp only [List.length_append]); exact ar173 hz) ?_
  walk_at "g"
  refine Op2.addStr (by delta sizeLine; (try simp only [List.length_append]); exact ar174 hz) ?_
  walk_at "g"
  refine Op2.addStr (by delta sizeLine; (try simp only [List.length_append]); exact ar175 hz) ?_
  walk_at "g"
  refine Op2.addStr (by delta sizeLine; (try simp only [List.length_append]); exact ar172 hz) ?_
  exact q _ (Ext.refl _)
 | adjust a w =>
  rw [show (kindT (RowD.adjust a w)==tx "chain")=false by kernel_rfl]
  walk_at "g"
  refine SV.swap2 (by decide +kernel) (by decide +kernel) (fun _=>rfl) rfl (by kernel_rfl) ?_
  walk_at "g"
  refine xc1_2 _ (h.parts pc) ?_
  walk_at "g"
  refine TailW.tup (m:=0) (fun _ _=>rfl) (by decide) (by decide) rfl rfl ?_
  walk_at "g"
  refine xc1_2 _ (h.parts pc) ?_
  walk_at "g"
  refine TailW.tup (m:=1) (fun _ _=>rfl) (by decide) (by decide) rfl rfl ?_
  walk_at "g"
  refine xc2_2 _ _ rfl ?_
  walk_at "g"
  refine xc1_2 _ (h.kind pc) ?_
  walk_at "g"
  rw [show (kindT (RowD.adjust a w)==(Str.ofString "single").cps.toList)=false by kernel_rfl]
  walk_at "g"
  refine xc1_2 _ (h.kind pc) ?_
  walk_at "g"
  rw [show (kindT (RowD.adjust a w)==(Str.ofString "multiple").cps.toList)=false by kernel_rfl]
  walk_at "g"
  refine xc1_2 _ (h.kind pc) ?_
  walk_at "g"
  rw [show (kindT (RowD.adjust a w)==(Str.ofString "alternate").cps.toList)=false by kernel_rfl]
  walk_at "g"
  refine xc1_2 _ (h.kind pc) ?_
  walk_at "g"
  rw [show (kindT (RowD.adjust a w)==(Str.ofString "ligature").cps.toList)=false by kernel_rfl]
  walk_at "g"
  simp only [rowT,tx,List.length_append] at hz
  refine xc1_2 _ MethR.join ?_
  walk_at "g"
  have hj:=joinL_len (Str.ofString " ").cps.toList [a]
  have h1:(Str.ofString " ").cps.toList.length=1:=rfl
  refine xc1_2 _ (h.parts pc) ?_
  walk_at "g"
  refine CutW.tup (by delta sizeLine; exact (by decide:2≤2 ^ 24)) ?_
  refine CallW.joinTup (ls:=[a]) (by delta sizeLine; exact ar181 hz hj) ?_
  refine Op2.addStr (by delta sizeLine; (try simp only [List.length_append]); exact ar173 hz) ?_
  walk_at "g"
  refine Op2.addStr (by delta sizeLine; (try simp only [List.length_append]); exact ar174 hz) ?_
  walk_at "g"
  refine (w_show_worth pc ok fun σ' x=>?_).toW
  refine Op2.addStr (by delta sizeLine; (try simp only [List.length_append]); exact ar175 hz) ?_
  walk_at "g"
  refine Op2.addStr (by delta sizeLine; (try simp only [List.length_append]); exact ar172 hz) ?_
  exact q _ x
 | pair a b w =>
  rw [show (kindT (RowD.pair a b w)==tx "chain")=false by kernel_rfl]
  walk_at "g"
  refine SV.swap2 (by decide +kernel) (by decide +kernel) (fun _=>rfl) rfl (by kernel_rfl) ?_
  walk_at "g"
  refine xc1_2 _ (h.parts pc) ?_
  walk_at "g"
  refine TailW.tup (m:=0) (fun _ _=>rfl) (by decide) (by decide) rfl rfl ?_
  walk_at "g"
  refine xc1_2 _ (h.parts pc) ?_
  walk_at "g"
  refine TailW.tup (m:=2) (fun _ _=>rfl) (by decide) (by decide) rfl rfl ?_
  walk_at "g"
  refine xc2_2 _ _ rfl ?_
  walk_at "g"
  refine xc1_2 _ (h.kind pc) ?_
  walk_at "g"
  rw [show (kindT (RowD.pair a b w)==(Str.ofString "single").cps.toList)=false by kernel_rfl]
  walk_at "g"
  refine xc1_2 _ (h.kind pc) ?_
  walk_at "g"
  rw [show (kindT (RowD.pair a b w)==(Str.ofString "multiple").cps.toList)=false by kernel_rfl]
  walk_at "g"
  refine xc1_2 _ (h.kind pc) ?_
  walk_at "g"
  rw [show (kindT (RowD.pair a b w)==(Str.ofString "alternate").cps.toList)=false by kernel_rfl]
  walk_at "g"
  refine xc1_2 _ (h.kind pc) ?_
  walk_at "g"
  rw [show (kindT (RowD.pair a b w)==(Str.ofString "ligature").cps.toList)=false by kernel_rfl]
  walk_at "g"
  simp only [rowT,tx,List.length_append] at hz
  refine xc1_2 _ MethR.join ?_
  walk_at "g"
  have hj:=joinL_len (Str.ofString " ").cps.toList [a,b]
  have h1:(Str.ofString " ").cps.toList.length=1:=rfl
  refine xc1_2 _ (h.parts pc) ?_
  walk_at "g"
  refine CutW.tup (by delta sizeLine; exact (by decide:3≤2 ^ 24)) ?_
  refine CallW.joinTup (ls:=[a,b]) (by delta sizeLine; exact ar181 hz hj) ?_
  refine Op2.addStr (by delta sizeLine; (try simp only [List.length_append]); exact ar173 hz) ?_
  walk_at "g"
  refine Op2.addStr (by delta sizeLine; (try simp only [List.length_append]); exact ar174 hz) ?_
  walk_at "g"
  refine (w_show_worth pc ok fun σ' x=>?_).toW
  refine Op2.addStr (by delta sizeLine; (try simp only [List.length_append]); exact ar175 hz) ?_
  walk_at "g"
  refine Op2.addStr (by delta sizeLine; (try simp only [List.length_append]); exact ar172 hz) ?_
  exact q _ x
end
theorem ShowOk.of:∀ {row:RowD},RowOk row→ShowOk row
 | .single ..,_=>trivial
 | .multiple a bs,h=>by
  show bs.length < 1000
  rcases h.2.1 with z | z
  ·rw [z]
   decide
  ·exact ar182 z
 | .alternate a bs,h=>h.2.2.2.2
 | .ligature as b,h=>by show as.length < 1000; have:=h.2.1; exact ar107 this
 | .adjust a w,h=>h.2
 | .pair a b w,h=>h.2.2
 | .chain w back ins ahead,h=>⟨fun g hg=>(h.2.1 g hg).2.2.1,fun g hg=>(h.2.2.2.1 g hg).2.2.1,fun p hp=>(h.2.2.1 p hp).1.2.2.1,fun g hg=>(h.2.1 g hg).2.2.2,fun g hg=>(h.2.2.2.1 g hg).2.2.2,fun p hp=>(h.2.2.1 p hp).1.2.2.2⟩
noncomputable def flagT (l:LookD):List Nat:=if l.flag > 0 then tx " flag "++numT l.flag else []
noncomputable def lookT (l:LookD):List (List Nat):=(tx "lookup "++l.name++flagT l++tx " {")::(l.rows.map (fun row=>tx "    "++rowT row)++[tx "}"])
section
variable {c:Cx} {k:Nat} {σ σ₀:St} {Q:V→St→Prop}
theorem w_show_lookup (pc:PC c) {B:Addr} {l:LookD} (h:LookR σ₀ σ B l) (ok:∀ row∈l.rows,ShowOk row) (hf:l.flag≤65535) (hn:l.rows.length < 1000) (hz:∀ x∈lookT l,x.length < 90000) (q:∀ σ' D,Ext σ σ'→σ' D=some (.list (strVs (lookT l)))→Q (.ref D) σ'):CallC c (k+8) (.ref 446) [.ref B] σ Q:=by
 revert pc h ok hf hn hz q
 revert c; revert k; revert σ; revert Q; revert σ₀ B l
 walk_at "close 7"
 intro σ₀ B l Q σ k c pc h ok hf hn hz q
 have hz1:=hz _ (List.mem_cons_self ..)
 simp only [List.length_append] at hz1
 walk_at "def 1"
 walk_at "g"
 refine xc1_2 _ (h.a_flag pc) ?_
 walk_at "g"
 have hb:(l.flag:Int).natAbs.log2 < 1920:=by
  by_cases h0:(l.flag:Int).natAbs=0
  ·rw [h0]
   decide
  ·exact Nat.lt_trans ((Nat.log2_lt h0).2 (show _ < 2 ^ 16 by exact ar183 hf)) (by decide)
 have fl:(flagT l=tx " flag "++numT l.flag∧l.flag > 0)∨(flagT l=[]∧¬ l.flag > 0):=by
  unfold flagT
  by_cases z:l.flag > 0
  ·rw [if_pos z]
   exact .inl ⟨rfl,z⟩
  ·rw [if_neg z]
   exact .inr ⟨rfl,z⟩
 refine ite_dec (fun hh=>?_) (fun hh=>?_)
 ·obtain ⟨e,_⟩:flagT l=tx " flag "++numT l.flag∧l.flag > 0:=by
   rcases fl with z | z
   ·exact z
   ·exact absurd (by exact ar184 hh) z.2
  have hl1:(flagT l).length=(tx " flag ").length+(numT l.flag).length:=by rw [e,List.length_append]
  walk_at "g"
  refine xc1_2 _ (h.a_flag pc) ?_
  refine CallW.strInt hb ?_
  refine Op2.addStr (x:=tx " flag ") (y:=numT l.flag) (by delta sizeLine; exact ar185 hz1 hl1) ?_
  rw [← e]
  walk_at "g"
  refine xc1_2 _ (h.a_name pc) ?_
  walk_at "g"
  refine Op2.addStr (x:=tx "lookup ") (y:=l.name) (by delta sizeLine; exact ar174 hz1) ?_
  walk_at "g"
  refine Op2.addStr (x:=tx "lookup "++l.name) (y:=flagT l) (by delta sizeLine; rw [List.length_append]; exact ar175 hz1) ?_
  walk_at "g"
  refine Op2.addStr (x:=tx "lookup "++l.name++flagT l) (y:=tx " {") (by delta sizeLine; rw [List.length_append,List.length_append]; exact ar172 hz1) ?_
  walk_at "g"
  intro H hH
  walk_at "g"
  have xH:=Ext.fresh (σ:=σ) (o:=MObj.list [.str (tx "lookup "++l.name++flagT l++tx " {")]) hH
  refine xi2 ?_ ((h.ext xH).a_rows pc)
  intro RL vs
  refine im3 ?_
  intro aR eR al
  have hl:=al.len
  refine EV.compE (by decide +kernel) (fun _ _=>rfl) ?_ ?_
  ·walk_at "cap"
  refine IT.list ?_
  walk_at "g"
  refine xc1_2 _ aR ?_
  refine xc2_3 RL vs rfl (.inl eR) ?_
  refine CompQ.list (strVs (l.rows.map fun row=>tx "    "++rowT row)) (by simp [strVs,hl]) (by exact ar116 hn hl) (okList eR) (fun i x y hx hy τ ex=>?_) fun D τ hD ex eD=>?_
  ·refine xi1 ?_ (al.get hx)
   intro row
   refine im2 ?_
   intro hrow
   refine xi1 ?_
   intro R
   refine im2 ?_
   intro hq93
   obtain rfl:=hq93
   intro hR
   unfold strVs at hy
   rw [List.getElem?_map,List.getElem?_map,hrow] at hy
   cases hy
   have hR':=hR.ext ex
   have hm:=List.mem_of_getElem? hrow
   have hz2:=hz (tx "    "++rowT row) (by unfold lookT; simp; exact .inr (.inl ⟨row,hm,rfl⟩))
   rw [List.length_append] at hz2
   refine xc1_2 _ (CTg.nameE (by decide +kernel)) ?_
   walk_at "g"
   refine (w_show_row pc hR' (ok row hm) (by exact ar186 hz2) fun σ' x=>?_).toW
   refine Op2.addStr (x:=tx "    ") (y:=rowT row) (by delta sizeLine; exact ar172 hz2) ?_
   exact ⟨rfl,x⟩
  have eH:=ex _ _ (upd_self σ H (.list [.str (tx "lookup "++l.name++flagT l++tx " {")]))
  refine Op2.addList (.inl eH) (.inl eD) (by delta sizeLine; simp [strVs]; exact ar187 hn) fun L1 hL1=>?_
  walk_at "g"
  intro L2 hL2
  walk_at "g"
  refine im2 ?_ (none_of_upd hL2)
  intro n1 n2
  refine Op2.addList (.inl ((upd_ne _ _ (Ne.symm n1)).trans (upd_self _ _ _))) (.inl (upd_self _ _ _)) (by delta sizeLine; simp [strVs]; exact ar188 hn) fun L3 hL3=>?_
  refine q _ L3 ((((xH.trans ex).trans (Ext.fresh hL1)).trans (Ext.fresh hL2)).trans (Ext.fresh hL3)) ?_
  rw [upd_self]
  simp [lookT,strVs]
 ·have e:flagT l=(Str.ofString "").cps.toList:=by
   rcases fl with z | z
   ·exact absurd z.2 (by exact ar189 hh)
   ·rw [z.1,cs_empty]
  walk_at "g"
  rw [← e]
  walk_at "g"
  refine xc1_2 _ (h.a_name pc) ?_
  walk_at "g"
  refine Op2.addStr (x:=tx "lookup ") (y:=l.name) (by delta sizeLine; exact ar174 hz1) ?_
  walk_at "g"
  refine Op2.addStr (x:=tx "lookup "++l.name) (y:=flagT l) (by delta sizeLine; rw [List.length_append]; exact ar175 hz1) ?_
  walk_at "g"
  refine Op2.addStr (x:=tx "lookup "++l.name++flagT l) (y:=tx " {") (by delta sizeLine; rw [List.length_append,List.length_append]; exact ar172 hz1) ?_
  walk_at "g"
  intro H hH
  walk_at "g"
  have xH:=Ext.fresh (σ:=σ) (o:=MObj.list [.str (tx "lookup "++l.name++flagT l++tx " {")]) hH
  refine xi2 ?_ ((h.ext xH).a_rows pc)
  intro RL vs
  refine im3 ?_
  intro aR eR al
  have hl:=al.len
  refine EV.compE (by decide +kernel) (fun _ _=>rfl) ?_ ?_
  ·walk_at "cap"
  refine IT.list ?_
  walk_at "g"
  refine xc1_2 _ aR ?_
  refine xc2_3 RL vs rfl (.inl eR) ?_
  refine CompQ.list (strVs (l.rows.map fun row=>tx "    "++rowT row)) (by simp [strVs,hl]) (by exact ar116 hn hl) (okList eR) (fun i x y hx hy τ ex=>?_) fun D τ hD ex eD=>?_
  ·refine xi1 ?_ (al.get hx)
   intro row
   refine im2 ?_
   intro hrow
   refine xi1 ?_
   intro R
   refine im2 ?_
   intro hq94
   obtain rfl:=hq94
   intro hR
   unfold strVs at hy
   rw [List.getElem?_map,List.getElem?_map,hrow] at hy
   cases hy
   have hR':=hR.ext ex
   have hm:=List.mem_of_getElem? hrow
   have hz2:=hz (tx "    "++rowT row) (by unfold lookT; simp; exact .inr (.inl ⟨row,hm,rfl⟩))
   rw [List.length_append] at hz2
   refine xc1_2 _ (CTg.nameE (by decide +kernel)) ?_
   walk_at "g"
   refine (w_show_row pc hR' (ok row hm) (by exact ar186 hz2) fun σ' x=>?_).toW
   refine Op2.addStr (x:=tx "    ") (y:=rowT row) (by delta sizeLine; exact ar172 hz2) ?_
   exact ⟨rfl,x⟩
  have eH:=ex _ _ (upd_self σ H (.list [.str (tx "lookup "++l.name++flagT l++tx " {")]))
  refine Op2.addList (.inl eH) (.inl eD) (by delta sizeLine; simp [strVs]; exact ar187 hn) fun L1 hL1=>?_
  walk_at "g"
  intro L2 hL2
  walk_at "g"
  refine im2 ?_ (none_of_upd hL2)
  intro n1 n2
  refine Op2.addList (.inl ((upd_ne _ _ (Ne.symm n1)).trans (upd_self _ _ _))) (.inl (upd_self _ _ _)) (by delta sizeLine; simp [strVs]; exact ar188 hn) fun L3 hL3=>?_
  refine q _ L3 ((((xH.trans ex).trans (Ext.fresh hL1)).trans (Ext.fresh hL2)).trans (Ext.fresh hL3)) ?_
  rw [upd_self]
  simp [lookT,strVs]
noncomputable def scrT (f:FeatD):List Nat:=if (f.script != tx "DFLT")=true then tx " script "++f.script else []
noncomputable def lanT (f:FeatD):List Nat:=if (f.language != tx "dflt")=true then tx " language "++f.language else []
noncomputable def featT (f:FeatD):List Nat:=tx "feature "++f.tag++scrT f++lanT f++tx " { "++joinL (tx " ") f.uses++tx " }"
end
section
variable {c:Cx} {k:Nat} {σ σ₀:St} {Q:V→St→Prop}
theorem FeatR.a_tag (pc:PC c) {F:Addr} {f:FeatD} (h:FeatR σ F f):AttrR c σ (.ref F) "tag" (.str f.tag):=let ⟨_,a,b⟩:=h; AttrR.of pc a b (pl_FeatureRow pc) (fa_FeatureRow_tag pc) rfl rfl
theorem FeatR.a_script (pc:PC c) {F:Addr} {f:FeatD} (h:FeatR σ F f):AttrR c σ (.ref F) "script" (.str f.script):=let ⟨_,a,b⟩:=h; AttrR.of pc a b (pl_FeatureRow pc) (fa_FeatureRow_script pc) rfl rfl
theorem FeatR.a_language (pc:PC c) {F:Addr} {f:FeatD} (h:FeatR σ F f):AttrR c σ (.ref F) "language" (.str f.language):=let ⟨_,a,b⟩:=h; AttrR.of pc a b (pl_FeatureRow pc) (fa_FeatureRow_language pc) rfl rfl
theorem FeatR.a_lookups (pc:PC c) {F:Addr} {f:FeatD} (h:FeatR σ F f):AttrR c σ (.ref F) "lookups" (.tup (strVs f.uses)):=let ⟨_,a,b⟩:=h; AttrR.of pc a b (pl_FeatureRow pc) (fa_FeatureRow_lookups pc) rfl rfl
set_option maxHeartbeats 2000000 in
theorem w_show_feature (pc:PC c) {F:Addr} {f:FeatD} (h:FeatR σ F f) (hz:(featT f).length < 90000) (q:∀ σ',Ext σ σ'→Q (.str (featT f)) σ'):CallC c (k+2) (.ref 453) [.ref F] σ Q:=by
 revert pc h hz q
 revert c; revert k; revert σ; revert Q; revert F f
 walk_at "close 6"
 intro F f Q σ k c pc h hz q
 simp only [featT,List.length_append] at hz
 have sc:∀ {b:Bool},(f.script != tx "DFLT")=b→scrT f=if b=true then tx " script "++f.script else []:=fun e=>by unfold scrT; rw [e]
 have ln:∀ {b:Bool},(f.language != tx "dflt")=b→lanT f=if b=true then tx " language "++f.language else []:=fun e=>by unfold lanT; rw [e]
 have hj:=joinL_len (tx " ") f.uses
 have h1:(tx " ").length=1:=rfl
 walk_at "def 1"
 walk_at "g"
 refine xc1_2 _ (h.a_script pc) ?_
 walk_at "g"
 cases e1:(f.script != (Str.ofString "DFLT").cps.toList)
 case true =>
  have es:scrT f=tx " script "++f.script:=(sc e1).trans (if_pos rfl)
  have es2:=congrArg List.length es
  rw [List.length_append] at es2
  walk_at "g"
  refine xc1_2 _ (h.a_script pc) ?_
  refine Op2.addStr (x:=tx " script ") (y:=f.script) (by delta sizeLine; exact ar190 hz es2) ?_
  rw [← es]
  walk_at "g"
  refine xc1_2 _ (h.a_language pc) ?_
  walk_at "g"
  cases e2:(f.language != (Str.ofString "dflt").cps.toList)
  case true =>
   have el:lanT f=tx " language "++f.language:=(ln e2).trans (if_pos rfl)
   have el2:=congrArg List.length el
   rw [List.length_append] at el2
   walk_at "g"
   refine xc1_2 _ (h.a_language pc) ?_
   refine Op2.addStr (x:=tx " language ") (y:=f.language) (by delta sizeLine; exact ar191 hz el2) ?_
   rw [← el]
   walk_at "g"
   refine xc1_2 _ (h.a_tag pc) ?_
   refine Op2.addStr (x:=tx "feature ") (y:=f.tag) (by delta sizeLine; exact ar192 hz) ?_
   walk_at "g"
   refine Op2.addStr (y:=scrT f) (by delta sizeLine; simp only [List.length_append]; exact ar193 hz) ?_
   walk_at "g"
   refine Op2.addStr (y:=lanT f) (by delta sizeLine; simp only [List.length_append]; exact ar173 hz) ?_
   walk_at "g"
   refine Op2.addStr (y:=tx " { ") (by delta sizeLine; simp only [List.length_append]; exact ar174 hz) ?_
   walk_at "g"
   refine xc1_2 _ MethR.join ?_
   walk_at "g"
   refine xc1_2 _ (h.a_lookups pc) ?_
   walk_at "g"
   refine CallW.joinTup (sep:=tx " ") (by delta sizeLine; exact ar177 hz hj h1) ?_
   refine Op2.addStr (y:=joinL (tx " ") f.uses) (by delta sizeLine; simp only [List.length_append]; exact ar175 hz) ?_
   walk_at "g"
   refine Op2.addStr (y:=tx " }") (by delta sizeLine; simp only [List.length_append]; exact ar172 hz) ?_
   exact q _ (Ext.refl _)
  case false =>
   have el:lanT f=(Str.ofString "").cps.toList:=((ln e2).trans (if_neg (by decide))).trans cs_empty.symm
   walk_at "g"
   rw [← el]
   walk_at "g"
   refine xc1_2 _ (h.a_tag pc) ?_
   refine Op2.addStr (x:=tx "feature ") (y:=f.tag) (by delta sizeLine; exact ar192 hz) ?_
   walk_at "g"
   refine Op2.addStr (y:=scrT f) (by delta sizeLine; simp only [List.length_append]; exact ar193 hz) ?_
   walk_at "g"
   refine Op2.addStr (y:=lanT f) (by delta sizeLine; simp only [List.length_append]; exact ar173 hz) ?_
   walk_at "g"
   refine Op2.addStr (y:=tx " { ") (by delta sizeLine; simp only [List.length_append]; exact ar174 hz) ?_
   walk_at "g"
   refine xc1_2 _ MethR.join ?_
   walk_at "g"
   refine xc1_2 _ (h.a_lookups pc) ?_
   walk_at "g"
   refine CallW.joinTup (sep:=tx " ") (by delta sizeLine; exact ar177 hz hj h1) ?_
   refine Op2.addStr (y:=joinL (tx " ") f.uses) (by delta sizeLine; simp only [List.length_append]; exact ar175 hz) ?_
   walk_at "g"
   refine Op2.addStr (y:=tx " }") (by delta sizeLine; simp only [List.length_append]; exact ar172 hz) ?_
   exact q _ (Ext.refl _)
 case false =>
  have es:scrT f=(Str.ofString "").cps.toList:=((sc e1).trans (if_neg (by decide))).trans cs_empty.symm
  walk_at "g"
  rw [← es]
  walk_at "g"
  refine xc1_2 _ (h.a_language pc) ?_
  walk_at "g"
  cases e2:(f.language != (Str.ofString "dflt").cps.toList)
  case true =>
   have el:lanT f=tx " language "++f.language:=(ln e2).trans (if_pos rfl)
   have el2:=congrArg List.length el
   rw [List.length_append] at el2
   walk_at "g"
   refine xc1_2 _ (h.a_language pc) ?_
   refine Op2.addStr (x:=tx " language ") (y:=f.language) (by delta sizeLine; exact ar191 hz el2) ?_
   rw [← el]
   walk_at "g"
   refine xc1_2 _ (h.a_tag pc) ?_
   refine Op2.addStr (x:=tx "feature ") (y:=f.tag) (by delta sizeLine; exact ar192 hz) ?_
   walk_at "g"
   refine Op2.addStr (y:=scrT f) (by delta sizeLine; simp only [List.length_append]; exact ar193 hz) ?_
   walk_at "g"
   refine Op2.addStr (y:=lanT f) (by delta sizeLine; simp only [List.length_append]; exact ar173 hz) ?_
   walk_at "g"
   refine Op2.addStr (y:=tx " { ") (by delta sizeLine; simp only [List.length_append]; exact ar174 hz) ?_
   walk_at "g"
   refine xc1_2 _ MethR.join ?_
   walk_at "g"
   refine xc1_2 _ (h.a_lookups pc) ?_
   walk_at "g"
   refine CallW.joinTup (sep:=tx " ") (by delta sizeLine; exact ar177 hz hj h1) ?_
   refine Op2.addStr (y:=joinL (tx " ") f.uses) (by delta sizeLine; simp only [List.length_append]; exact ar175 hz) ?_
   walk_at "g"
   refine Op2.addStr (y:=tx " }") (by delta sizeLine; simp only [List.length_append]; exact ar172 hz) ?_
   exact q _ (Ext.refl _)
  case false =>
   have el:lanT f=(Str.ofString "").cps.toList:=((ln e2).trans (if_neg (by decide))).trans cs_empty.symm
   walk_at "g"
   rw [← el]
   walk_at "g"
   refine xc1_2 _ (h.a_tag pc) ?_
   refine Op2.addStr (x:=tx "feature ") (y:=f.tag) (by delta sizeLine; exact ar192 hz) ?_
   walk_at "g"
   refine Op2.addStr (y:=scrT f) (by delta sizeLine; simp only [List.length_append]; exact ar193 hz) ?_
   walk_at "g"
   refine Op2.addStr (y:=lanT f) (by delta sizeLine; simp only [List.length_append]; exact ar173 hz) ?_
   walk_at "g"
   refine Op2.addStr (y:=tx " { ") (by delta sizeLine; simp only [List.length_append]; exact ar174 hz) ?_
   walk_at "g"
   refine xc1_2 _ MethR.join ?_
   walk_at "g"
   refine xc1_2 _ (h.a_lookups pc) ?_
   walk_at "g"
   refine CallW.joinTup (sep:=tx " ") (by delta sizeLine; exact ar177 hz hj h1) ?_
   refine Op2.addStr (y:=joinL (tx " ") f.uses) (by delta sizeLine; simp only [List.length_append]; exact ar175 hz) ?_
   walk_at "g"
   refine Op2.addStr (y:=tx " }") (by delta sizeLine; simp only [List.length_append]; exact ar172 hz) ?_
   exact q _ (Ext.refl _)
end
noncomputable def linesT (ls:List LookD) (fs:List FeatD):List (List Nat):=ls.flatMap lookT++fs.map featT
noncomputable def treeT (ls:List LookD) (fs:List FeatD):List Nat:=joinL (tx "\n") (linesT ls fs)++tx "\n"
section
variable {c:Cx} {k:Nat} {σ σ₀:St} {Q:V→St→Prop}
variable {Tr dT LL FL:Addr} {ls:List LookD} {fs:List FeatD}
set_option maxHeartbeats 2000000 in
theorem w_show_rules (pc:PC c) (h:TreeAt σ₀ σ Tr dT LL FL ls fs) (ok:TreeOk ls fs) (hz:(treeT ls fs).length < 80000) (q:∀ σ',Ext σ σ'→Q (.str (treeT ls fs)) σ'):CallC c (k+10) (.ref 458) [.ref Tr] σ Q:=by
 revert pc h ok hz q
 revert c; revert k; revert σ; revert Q; revert σ₀ Tr dT LL FL ls fs
 walk_at "close 11"
 intro σ₀ Tr dT LL FL ls fs Q σ k c pc h ok hz q
 unfold treeT at hz
 rw [List.length_append] at hz
 have mem:=fun x h=>joinL_mem (sep:=tx "\n") (ls:=linesT ls fs) (x:=x) h
 have hN:=joinL_n (sep:=tx "\n") (by rfl) (ls:=linesT ls fs)
 have h1:(tx "\n").length=1:=rfl
 refine xi1 ?_ (h.looks)
 intro lvs
 refine im2 ?_
 intro eL alL
 refine xi1 ?_ (h.feats)
 intro fvs
 refine im2 ?_
 intro eF alF
 have hll:=alL.len
 have hfl:=alF.len
 have hlz:=ok.lenL
 have hfz:=ok.lenF
 walk_at "def 1"
 walk_at "g"
 intro L0 hL0
 walk_at "g"
 refine SV.for (fun _ _=>rfl) ?_
 refine IT.list ?_
 walk_at "g"
 refine xc1_2 _ ((h.ext (Ext.fresh hL0)).a_looks pc) ?_
 refine xc2_3 LL lvs rfl (.inl (Ext.fresh hL0 _ _ eL)) ?_
 have hsub:∀ i,(ls.take i).flatMap lookT ⊆ linesT ls fs:=fun i x hx=>by
  unfold linesT
  refine xi1 ?_ (List.mem_flatMap.mp hx)
  intro l
  refine im2 ?_
  intro hl hx
  exact List.mem_append_left _ (List.mem_flatMap.mpr ⟨l,List.mem_of_mem_take hl,hx⟩)
 have hcnt:∀ i,((ls.take i).flatMap lookT).length≤(linesT ls fs).length:=fun i=>by
  unfold linesT
  rw [List.length_append]
  have:(ls.flatMap lookT).length=((ls.take i).flatMap lookT).length+((ls.drop i).flatMap lookT).length:=by rw [← List.length_append,← List.flatMap_append,List.take_append_drop]
  exact ar194 this
 refine xc1_4 (fun i ρ' σ'=>ρ' "tree"=some (.ref Tr)∧Ext σ σ'∧∃ Ln,ρ' "lines"=some (.ref Ln)∧σ' Ln=some (.list (strVs ((ls.take i).flatMap lookT)))) ⟨by walk_at "loc",Ext.fresh hL0,L0,by walk_at "loc",upd_self _ _ _⟩ (fun i ρ' σ' z=>.inl (z.2.1 _ _ eL)) ?_ ?_
 ·intro i ρ' σ' x hx
  refine im3 ?_
  intro l1 xσ
  refine xi1 ?_
  intro Ln
  refine im2 ?_
  intro l2 eLn
  refine xi1 ?_ (alL.get hx)
  intro l
  refine im2 ?_
  intro hl
  refine xi1 ?_
  intro B
  refine im2 ?_
  intro hq95
  obtain rfl:=hq95
  intro hB
  have hm:=List.mem_of_getElem? hl
  have tk:ls.take (i+1)=ls.take i++[l]:=by rw [List.take_add_one,hl]; rfl
  have okl:=ok.looks l hm
  have hlm:∀ x∈lookT l,x.length < 90000:=fun x hx=>by
   have:=mem x (hsub (i+1) (by rw [tk,List.flatMap_append]; simp [hx]))
   exact ar195 hz this
  walk_at "g"
  refine (w_show_lookup pc (hB.ext xσ) (fun row hr=>ShowOk.of (okl.rows row hr)) okl.flagM (by have:=okl.len; exact ar196 this) hlm fun σ1 D x1 eD=>?_).toW
  have hc1:=hcnt (i+1)
  rw [tk,List.flatMap_append,List.length_append] at hc1
  have e5:[l].flatMap lookT=lookT l:=by simp
  rw [e5] at hc1
  refine Op2.addList (.inl (x1 _ _ eLn)) (.inl eD) (by delta sizeLine; simp only [strVs,List.length_map]; exact ar197 hz hN hc1) fun L1 hL1=>?_
  walk_at "g"
  refine xc0_3 (by walk_at "loc") ((xσ.trans x1).trans (Ext.fresh hL1)) (xc1_2 L1 (by walk_at "loc") ?_)
  rw [upd_self,tk,List.flatMap_append,e5]
  simp [strVs]
 ·intro ρ' σ'
  refine im3 ?_
  intro l1 xσ
  refine xi1 ?_
  intro Ln
  refine im2 ?_
  intro l2 eLn
  rw [hll,List.take_length] at eLn
  walk_at "g"
  refine xc1_2 _ MethR.join ?_
  walk_at "g"
  refine EV.compE (by decide +kernel) (fun _ _=>rfl) ?_ ?_
  ·walk_at "cap"
  refine IT.list ?_
  walk_at "g"
  refine xc1_2 _ ((h.ext xσ).a_feats pc) ?_
  refine xc2_3 FL fvs rfl (.inl (xσ _ _ eF)) ?_
  refine CompQ.list (strVs (fs.map featT)) (by simp [strVs,hfl]) (by exact ar198 hfl hfz) (okList (xσ _ _ eF)) (fun i x y hx hy τ ex=>?_) fun D τ hD ex eD=>?_
  ·refine xi1 ?_ (alF.get hx)
   intro f
   refine im2 ?_
   intro hf
   refine xi1 ?_
   intro F'
   refine im2 ?_
   intro hq96
   obtain rfl:=hq96
   intro hF'
   unfold strVs at hy
   rw [List.getElem?_map,List.getElem?_map,hf] at hy
   cases hy
   have hfm:=List.mem_of_getElem? hf
   have hz2:=mem (featT f) (by unfold linesT; exact List.mem_append_right _ (List.mem_map_of_mem hfm))
   refine xc1_2 _ (CTg.nameE (by decide +kernel)) ?_
   walk_at "g"
   exact (w_show_feature pc ((hF'.ext xσ).ext ex) (by exact ar195 hz hz2) fun σ' x=>⟨rfl,x⟩).toW
  have hjl:=joinL_len (tx "\n") (linesT ls fs)
  have hls:(linesT ls fs).length=(ls.flatMap lookT).length+fs.length:=by unfold linesT; simp
  refine Op2.addList (.inl (ex _ _ eLn)) (.inl eD) (by delta sizeLine; simp only [strVs,List.length_map]; exact ar199 hz hN hls) fun L1 hL1=>?_
  have ew:strVs (ls.flatMap lookT)++strVs (fs.map featT)=strVs (linesT ls fs):=by unfold strVs linesT; rw [List.map_append]
  rw [ew]
  refine CallW.joinList (sep:=tx "\n") (.inl (upd_self _ _ _)) (by delta sizeLine; exact ar200 hz hjl) ?_
  walk_at "g"
  refine Op2.addStr (x:=joinL (tx "\n") (linesT ls fs)) (y:=tx "\n") (by delta sizeLine; exact ar201 hz) ?_
  exact q _ ((xσ.trans ex).trans (Ext.fresh hL1))
end
noncomputable def Xp (P:Addr) (σ τ:St):Prop:=∀ a o,a≠P→σ a=some o→τ a=some o
theorem Xp.refl {P:Addr} {σ:St}:Xp P σ σ:=fun _ _ _ e=>e
theorem Xp.trans {P:Addr} {σ τ υ:St} (h:Xp P σ τ) (g:Xp P τ υ):Xp P σ υ:=fun a o n e=>g a o n (h a o n e)
theorem Xp.of {P:Addr} {σ τ:St} (h:Ext σ τ):Xp P σ τ:=fun a o _ e=>h a o e
theorem Xp.put {P:Addr} {σ:St} {o:MObj}:Xp P σ (upM σ P o):=fun a o' n e=>by rw [upd_ne _ _ n]; exact e
theorem Xp.none {P:Addr} {σ τ:St} (h:Xp P σ τ) {a:Addr} (n:a≠P) (e:τ a=Option.none):σ a=Option.none:=by
 cases z:σ a with
 | none=>rfl
 | some o=>rw [h a o n z] at e; cases e
noncomputable def PenR (σ:St) (P C:Addr) (n:Nat):Prop:=∃ cells:List Int,∃ spot great:Nat,σ P=some (.list [.ref C,.int spot,.int great])∧σ C=some (.list (cells.map V.int))∧cells.length≤63∧spot≤n
theorem PenR.ext {σ τ:St} {P C:Addr} {n:Nat} (h:PenR σ P C n) (x:Ext σ τ):PenR τ P C n:=xi3 (fun cells s g=>im4 fun a b d e=>⟨cells,s,g,x _ _ a,x _ _ b,d,e⟩) h
theorem PenR.le {σ:St} {P C:Addr} {n m:Nat} (h:PenR σ P C n) (x:n≤m):PenR σ P C m:=xi3 (fun cells s g=>im4 fun a b d e=>⟨cells,s,g,a,b,d,Nat.le_trans e x⟩) h
section
variable {c:Cx} {k:Nat} {σ σ₀:St} {Q:V→St→Prop}
theorem w_law_pen (pc:PC c) {L:Addr} {l:List Int} (e:σ L=some (.list (l.map V.int))∨σ L=some (.frozen (l.map V.int))) (hl:l.length≤63) (q:∀ σ' P C,Ext σ σ'→σ P=none→PenR σ' P C 0→Q (.ref P) σ'):CallC c (k+3) (.ref 463) [.ref L] σ Q:=by
 revert pc e hl q
 revert c; revert k; revert σ; revert Q; revert L l
 walk_at "close 6"
 intro L l Q σ k c pc e hl q
 walk_at "def 1"
 walk_at "g"
 refine EV.compE (by decide +kernel) (fun _ _=>rfl) ?_ ?_
 ·walk_at "cap"
 refine IT.list ?_
 walk_at "g"
 refine CutW.list e (by delta sizeLine; rw [List.length_map]; exact ar202 hl) fun M hM=>?_
 obtain ⟨m,hm⟩:∃ m,cutL (l.map V.int) none (some 63)=(l.take m).map V.int:=by
  refine xc1_1 ((clipN (l.map V.int).length none (some 63)).2 - (clipN (l.map V.int).length none (some 63)).1) ?_
  unfold cutL
  show ((l.map V.int).drop 0).take _=_
  rw [List.drop_zero,← List.map_take]
 have hlm:(l.take m).length≤63:=by rw [List.length_take]; exact ar203 hl
 rw [hm]
 refine xc2_3 M _ rfl (.inl (upd_self _ _ _)) ?_
 refine CompQ.map id (by rw [List.length_map]; exact ar204 hlm) (okList (upd_self _ _ _)) (fun x hx τ ex=>?_) fun D τ hD ex eD=>?_
 ·refine xi1 ?_ (List.mem_map.mp hx)
  intro z
  refine im2 ?_
  intro _ hq97
  obtain rfl:=hq97
  refine xc1_2 _ (CTg.nameE (by decide +kernel)) ?_
  walk_at "g"
  exact CallW.intInt ⟨rfl,Ext.refl _⟩
 walk_at "g"
 intro P hP
 have x1:=(Ext.fresh hM).trans ex
 have x2:=x1.trans (Ext.fresh (o:=MObj.list [.ref D,.int 0,.int 0]) hP)
 refine q _ P D x2 (x1.none hP) ⟨l.take m,0,0,upd_self _ _ _,?_,hlm,Nat.le_refl _⟩
 rw [upd_ne]
 ·rw [eD,List.map_id]
 ·rintro rfl
  rw [eD] at hP
  cases hP
theorem fmodN (a:Int) {m:Nat} (h:0 < m):∃ d:Nat,d < m∧a.fmod m=(d:Int):=by
 have h1:=Int.fmod_nonneg_of_pos a (b:=(m:Int)) (by exact ar205 h)
 have h2:=Int.fmod_lt_of_pos a (b:=(m:Int)) (by exact ar205 h)
 exact xc1_2 ((a.fmod m).toNat) (by exact ar206 h1 h2) (by exact ar207 h1)
theorem fdivN (a:Int) {m:Nat} (h:0≤a):∃ d:Nat,a.fdiv m=(d:Int):=by
 have h1:=Int.fdiv_nonneg h (b:=(m:Int)) (by exact ar20)
 exact xc1_1 ((a.fdiv m).toNat) (by exact ar207 h1)
theorem fmodI (a:Int) {m:Int} (h:0 < m):0≤a.fmod m∧a.fmod m < m:=⟨Int.fmod_nonneg_of_pos a h,Int.fmod_lt_of_pos a h⟩
theorem bitsLe {x:Int} (h0:0≤x) (h1:x < 2 ^ 63):Builtin.Int.intBits x≤64:=by
 unfold Builtin.Int.intBits
 split
 ·decide
 ·rename_i z
  have hz:x.natAbs≠0:=by
   intro e
   apply z
   simp at e
   simp [e]
  have:=(Nat.log2_lt hz).2 (show x.natAbs < 2 ^ 63 by exact ar208 h0 h1)
  exact ar209 this
theorem pow5 {a:Int} {s:Nat} (h0:0≤a) (h1:a < 2147483587) (hs:s < 1000000):(Builtin.Int.intBits (a+60029 * (s:Int)+6007):Int) * 5≤2 ^ 27:=by
 have:=bitsLe (x:=a+60029 * (s:Int)+6007) (by exact ar210 h0) (by exact ar211 h1 hs)
 exact ar212 this
theorem pow3 {b:Int} {s:Nat} (h0:0≤b) (h1:b < 2147483629) (hs:s < 1000000):(Builtin.Int.intBits (b * (2 * (s:Int)+3011)+701 * (s:Int) * (s:Int)+37):Int) * 3≤2 ^ 27:=by
 have e1:b * (2 * (s:Int)+3011)≤2147483629 * 2003011:=Int.mul_le_mul (by exact ar213 h1) (by exact ar214 hs) (by exact ar215) (by decide)
 have e2:0≤b * (2 * (s:Int)+3011):=Int.mul_nonneg h0 (by exact ar215)
 have e3:(701 * (s:Int)) * (s:Int)≤701000000 * 1000000:=Int.mul_le_mul (by exact ar216 hs) (by exact ar217 hs) (by exact ar20) (by decide)
 have e4:0≤(701 * (s:Int)) * (s:Int):=Int.mul_nonneg (by exact ar218) (by exact ar20)
 have:=bitsLe (x:=b * (2 * (s:Int)+3011)+701 * (s:Int) * (s:Int)+37) (by exact ar219 e2 e4) (by exact ar220 e1 e3)
 exact ar221 this
set_option maxHeartbeats 4000000 in
theorem w_law_draw (pc:PC c) {P C:Addr} {n many:Nat} (h:PenR σ P C n) (hn:n < 1000000) (hm:0 < many) (hm2:many < 1000) (q:∀ σ' d,d < many→Xp P σ σ'→PenR σ' P C (n+1)→Q (.int ((d:Nat):Int)) σ'):CallC c (k+1) (.ref 470) [.ref P,.int many] σ Q:=by
 revert pc h hn hm hm2 q
 revert c; revert k; revert σ; revert Q; revert P; revert n; revert C many
 walk_at "close 8"
 intro C many n P Q σ k c pc h hn hm hm2 q
 refine xi3 ?_ (h)
 intro cells spot great
 refine im4 ?_
 intro eP eC hcl hsp
 walk_at "def 2"
 walk_at "g"
 have hmz:((many:Nat):Int)≠0:=by exact ar222 hm
 have hCP:C≠P:=by rintro rfl; rw [eP] at eC; cases cells <;> simp at eC
 refine TailW.list (j:=2) (fun _ _=>rfl) (.inl eP) (by decide) (by decide) rfl ?_
 walk_at "g"
 refine ite_dec (fun hh=>?_) (fun hh=>?_)
 ·walk_at "g"
  refine TailW.list (j:=2) (fun _ _=>rfl) (.inl eP) (by decide) (by decide) rfl ?_
  refine CallW.intInt ?_
  walk_at "g"
  refine Op2.modInt hmz ?_
  refine xi1 ?_ (fmodN (great:Int) hm)
  intro d
  refine im2 ?_
  intro hd e
  rw [e]
  walk_at "g"
  refine TailW.list (j:=2) (fun _ _=>rfl) (.inl eP) (by decide) (by decide) rfl ?_
  refine CallW.intInt ?_
  walk_at "g"
  refine Op2.floordivInt hmz (by exact ar223 hm2) ?_
  refine xi1 ?_ (fdivN (m:=many) (great:Int) (by exact ar20))
  intro g2 e2
  rw [e2]
  walk_at "g"
  refine xc3_1 P _ 2 (xc0_6 rfl rfl eP (by simp) (by decide) ?_)
  walk_at "g"
  exact q _ d hd Xp.put ⟨cells,spot,g2,upd_self _ _ _,by rw [upd_ne _ _ hCP]; exact eC,hcl,by exact ar224 hsp⟩
 ·walk_at "g"
  refine TailW.list (j:=1) (fun _ _=>rfl) (.inl eP) (by decide) (by decide) rfl ?_
  walk_at "g"
  refine xc3_1 P _ 1 (xc0_6 rfl rfl eP (by simp) (by decide) ?_)
  walk_at "g"
  have eP1:upM σ P (.list ([V.ref C,.int spot,.int great].set 1 (.int ((spot:Int)+1)))) P=some (.list [.ref C,.int ((spot:Int)+1),.int great]):=upd_self _ _ _
  have eC1:upM σ P (.list ([V.ref C,.int spot,.int great].set 1 (.int ((spot:Int)+1)))) C=some (.list (cells.map V.int)):=(upd_ne _ _ hCP).trans eC
  have x1:Xp P σ (upM σ P (.list ([V.ref C,.int spot,.int great].set 1 (.int ((spot:Int)+1))))):=Xp.put
  generalize upM σ P (.list ([V.ref C,.int spot,.int great].set 1 (.int ((spot:Int)+1))))=σ1 at eP1 eC1 x1 ⊢
  refine TailW.list (j:=0) (fun _ _=>rfl) (.inl eP1) (by decide) (by decide) rfl ?_
  walk_at "g"
  intro N hN
  have x2:Ext σ1 (upM σ1 N (.list [])):=Ext.fresh hN
  have eP2:=x2 _ _ eP1
  have eC2:=x2 _ _ eC1
  refine Op2.neNil (.inl eC2) (.inl (upd_self _ _ _)) ?_
  have hs1:spot < 1000000:=by exact ar225 hn hsp
  generalize upM σ1 N (.list [])=σ2 at x2 eP2 eC2 ⊢
  cases hce:cells with
  | nil =>
   rw [hce] at eC2 hcl
   rw [show (!(([]:List Int).map V.int).isEmpty)=false from rfl]
   walk_at "g"
   refine TailW.list (j:=0) (fun _ _=>rfl) (.inl eP2) (by decide) (by decide) rfl ?_
   refine CallW.lenList (.inl eC2) (by rw [List.length_map]; exact ar226 hcl) ?_
   walk_at "g"
   refine ite_dec (fun _=>?_) (fun _=>?_)
   ·walk_at "g"
    refine CallW.absInt ?_
    walk_at "g"
    refine Op2.powInt (by decide) (by decide +kernel) ?_
    walk_at "g"
    refine ite_dec (fun hg=>?_) (fun _=>?_)
    ·walk_at "g"
     refine CallW.absInt ?_
     walk_at "g"
     refine Op2.powInt (by decide) (by decide +kernel) ?_
     walk_at "g"
     refine CallW.intInt ?_
     walk_at "g"
     refine Op2.floordivInt hmz (by exact ar223 hm2) ?_
     refine xi1 ?_ (fdivN (m:=many) _ (Int.sub_nonneg_of_le hg))
     intro g2 e2
     rw [e2]
     walk_at "g"
     refine xc3_1 P _ 2 (xc0_6 rfl rfl eP2 (by simp) (by decide) ?_)
     walk_at "g"
     refine CallW.intInt ?_
     walk_at "g"
     refine Op2.modInt hmz ?_
     obtain ⟨d,hd,e⟩:=fmodN _ hm
     rw [e]
     exact q _ d hd ((x1.trans (Xp.of x2)).trans Xp.put) ⟨_,spot+1,g2,upd_self _ _ _,by rw [upd_ne _ _ hCP]; exact eC2,hcl,by exact ar227 hsp⟩
    ·walk_at "g"
     refine CallW.intInt ?_
     walk_at "g"
     refine Op2.modInt (by decide) ?_
     have ha:=fmodI 0 (m:=2147483587) (by decide)
     generalize (0:Int).fmod 2147483587=a at ha ⊢
     walk_at "g"
     refine Op2.mulInt (IntMulOk.of_left (by decide +kernel)) ?_
     walk_at "g"
     refine Op2.powInt (by decide) (pow5 ha.1 ha.2 hs1) ?_
     refine CallW.intInt ?_
     walk_at "g"
     refine Op2.modInt (by decide) ?_
     have hb:=fmodI ((a+60029 * (spot:Int)+6007) ^ (5:Int).toNat) (m:=2147483629) (by decide)
     generalize ((a+60029 * (spot:Int)+6007) ^ (5:Int).toNat).fmod 2147483629=b at hb ⊢
     walk_at "g"
     refine Op2.mulInt (IntMulOk.of_left (by decide +kernel)) ?_
     walk_at "g"
     refine Op2.mulInt (IntMulOk.of_left (bitsLe hb.1 (by exact ar228 hb))) ?_
     walk_at "g"
     refine Op2.mulInt (IntMulOk.of_left (by decide +kernel)) ?_
     walk_at "g"
     refine Op2.mulInt (IntMulOk.of_left (bitsLe (by exact ar218) (by exact ar229 hs1))) ?_
     walk_at "g"
     refine Op2.powInt (by decide) (pow3 hb.1 hb.2 hs1) ?_
     refine CallW.intInt ?_
     walk_at "g"
     refine Op2.modInt (by decide) ?_
     walk_at "g"
     refine Op2.floordivInt (by decide) (by decide) ?_
     refine CallW.intInt ?_
     walk_at "g"
     refine Op2.modInt hmz ?_
     obtain ⟨d,hd,e⟩:=fmodN _ hm
     rw [e]
     exact q _ d hd (x1.trans (Xp.of x2)) ⟨_,spot+1,great,eP2,eC2,hcl,by exact ar227 hsp⟩
   ·walk_at "g"
    refine CallW.intInt ?_
    walk_at "g"
    refine Op2.modInt (by decide) ?_
    have ha:=fmodI 0 (m:=2147483587) (by decide)
    generalize (0:Int).fmod 2147483587=a at ha ⊢
    walk_at "g"
    refine Op2.mulInt (IntMulOk.of_left (by decide +kernel)) ?_
    walk_at "g"
    refine Op2.powInt (by decide) (pow5 ha.1 ha.2 hs1) ?_
    refine CallW.intInt ?_
    walk_at "g"
    refine Op2.modInt (by decide) ?_
    have hb:=fmodI ((a+60029 * (spot:Int)+6007) ^ (5:Int).toNat) (m:=2147483629) (by decide)
    generalize ((a+60029 * (spot:Int)+6007) ^ (5:Int).toNat).fmod 2147483629=b at hb ⊢
    walk_at "g"
    refine Op2.mulInt (IntMulOk.of_left (by decide +kernel)) ?_
    walk_at "g"
    refine Op2.mulInt (IntMulOk.of_left (bitsLe hb.1 (by exact ar228 hb))) ?_
    walk_at "g"
    refine Op2.mulInt (IntMulOk.of_left (by decide +kernel)) ?_
    walk_at "g"
    refine Op2.mulInt (IntMulOk.of_left (bitsLe (by exact ar218) (by exact ar229 hs1))) ?_
    walk_at "g"
    refine Op2.powInt (by decide) (pow3 hb.1 hb.2 hs1) ?_
    refine CallW.intInt ?_
    walk_at "g"
    refine Op2.modInt (by decide) ?_
    walk_at "g"
    refine Op2.floordivInt (by decide) (by decide) ?_
    refine CallW.intInt ?_
    walk_at "g"
    refine Op2.modInt hmz ?_
    obtain ⟨d,hd,e⟩:=fmodN _ hm
    rw [e]
    exact q _ d hd (x1.trans (Xp.of x2)) ⟨_,spot+1,great,eP2,eC2,hcl,by exact ar227 hsp⟩
  | cons z0 zr =>
   rw [show (!((z0::zr).map V.int).isEmpty)=true from rfl]
   walk_at "g"
   refine TailW.list (j:=0) (fun _ _=>rfl) (.inl eP2) (by decide) (by decide) rfl ?_
   walk_at "g"
   refine CallW.intInt ?_
   walk_at "g"
   refine TailW.list (j:=0) (fun _ _=>rfl) (.inl eP2) (by decide) (by decide) rfl ?_
   rw [hce] at eC2 hcl
   refine CallW.lenList (.inl eC2) (by rw [List.length_map]; exact ar226 hcl) ?_
   rw [List.length_map]
   refine Op2.modInt (by simp; exact ar230) ?_
   refine xi1 ?_ (fmodN (spot:Int) (m:=(z0::zr).length) (by simp))
   intro ix
   refine im2 ?_
   intro hix eix
   rw [eix]
   refine TailW.list (j:=(ix:Int)) (x:=.int (z0::zr)[ix]) (fun _ _=>rfl) (.inl eC2) (by exact ar20) (by exact ar231 hcl hix) (by rw [Int.toNat_natCast,List.getElem?_map,List.getElem?_eq_getElem hix]; rfl) ?_
   generalize (z0::zr)[ix]=z
   walk_at "g"
   refine TailW.list (j:=0) (fun _ _=>rfl) (.inl eP2) (by decide) (by decide) rfl ?_
   refine CallW.lenList (.inl eC2) (by rw [List.length_map]; exact ar226 hcl) ?_
   walk_at "g"
   refine ite_dec (fun _=>?_) (fun _=>?_)
   ·walk_at "g"
    refine CallW.absInt ?_
    walk_at "g"
    refine Op2.powInt (by decide) (by decide +kernel) ?_
    walk_at "g"
    refine ite_dec (fun hg=>?_) (fun _=>?_)
    ·walk_at "g"
     refine CallW.absInt ?_
     walk_at "g"
     refine Op2.powInt (by decide) (by decide +kernel) ?_
     walk_at "g"
     refine CallW.intInt ?_
     walk_at "g"
     refine Op2.floordivInt hmz (by exact ar223 hm2) ?_
     refine xi1 ?_ (fdivN (m:=many) _ (Int.sub_nonneg_of_le hg))
     intro g2 e2
     rw [e2]
     walk_at "g"
     refine xc3_1 P _ 2 (xc0_6 rfl rfl eP2 (by simp) (by decide) ?_)
     walk_at "g"
     refine CallW.intInt ?_
     walk_at "g"
     refine Op2.modInt hmz ?_
     obtain ⟨d,hd,e⟩:=fmodN _ hm
     rw [e]
     exact q _ d hd ((x1.trans (Xp.of x2)).trans Xp.put) ⟨_,spot+1,g2,upd_self _ _ _,by rw [upd_ne _ _ hCP]; exact eC2,hcl,by exact ar227 hsp⟩
    ·walk_at "g"
     refine CallW.intInt ?_
     walk_at "g"
     refine Op2.modInt (by decide) ?_
     have ha:=fmodI z (m:=2147483587) (by decide)
     generalize z.fmod 2147483587=a at ha ⊢
     walk_at "g"
     refine Op2.mulInt (IntMulOk.of_left (by decide +kernel)) ?_
     walk_at "g"
     refine Op2.powInt (by decide) (pow5 ha.1 ha.2 hs1) ?_
     refine CallW.intInt ?_
     walk_at "g"
     refine Op2.modInt (by decide) ?_
     have hb:=fmodI ((a+60029 * (spot:Int)+6007) ^ (5:Int).toNat) (m:=2147483629) (by decide)
     generalize ((a+60029 * (spot:Int)+6007) ^ (5:Int).toNat).fmod 2147483629=b at hb ⊢
     walk_at "g"
     refine Op2.mulInt (IntMulOk.of_left (by decide +kernel)) ?_
     walk_at "g"
     refine Op2.mulInt (IntMulOk.of_left (bitsLe hb.1 (by exact ar228 hb))) ?_
     walk_at "g"
     refine Op2.mulInt (IntMulOk.of_left (by decide +kernel)) ?_
     walk_at "g"
     refine Op2.mulInt (IntMulOk.of_left (bitsLe (by exact ar218) (by exact ar229 hs1))) ?_
     walk_at "g"
     refine Op2.powInt (by decide) (pow3 hb.1 hb.2 hs1) ?_
     refine CallW.intInt ?_
     walk_at "g"
     refine Op2.modInt (by decide) ?_
     walk_at "g"
     refine Op2.floordivInt (by decide) (by decide) ?_
     refine CallW.intInt ?_
     walk_at "g"
     refine Op2.modInt hmz ?_
     obtain ⟨d,hd,e⟩:=fmodN _ hm
     rw [e]
     exact q _ d hd (x1.trans (Xp.of x2)) ⟨_,spot+1,great,eP2,eC2,hcl,by exact ar227 hsp⟩
   ·walk_at "g"
    refine CallW.intInt ?_
    walk_at "g"
    refine Op2.modInt (by decide) ?_
    have ha:=fmodI z (m:=2147483587) (by decide)
    generalize z.fmod 2147483587=a at ha ⊢
    walk_at "g"
    refine Op2.mulInt (IntMulOk.of_left (by decide +kernel)) ?_
    walk_at "g"
    refine Op2.powInt (by decide) (pow5 ha.1 ha.2 hs1) ?_
    refine CallW.intInt ?_
    walk_at "g"
    refine Op2.modInt (by decide) ?_
    have hb:=fmodI ((a+60029 * (spot:Int)+6007) ^ (5:Int).toNat) (m:=2147483629) (by decide)
    generalize ((a+60029 * (spot:Int)+6007) ^ (5:Int).toNat).fmod 2147483629=b at hb ⊢
    walk_at "g"
    refine Op2.mulInt (IntMulOk.of_left (by decide +kernel)) ?_
    walk_at "g"
    refine Op2.mulInt (IntMulOk.of_left (bitsLe hb.1 (by exact ar228 hb))) ?_
    walk_at "g"
    refine Op2.mulInt (IntMulOk.of_left (by decide +kernel)) ?_
    walk_at "g"
    refine Op2.mulInt (IntMulOk.of_left (bitsLe (by exact ar218) (by exact ar229 hs1))) ?_
    walk_at "g"
    refine Op2.powInt (by decide) (pow3 hb.1 hb.2 hs1) ?_
    refine CallW.intInt ?_
    walk_at "g"
    refine Op2.modInt (by decide) ?_
    walk_at "g"
    refine Op2.floordivInt (by decide) (by decide) ?_
    refine CallW.intInt ?_
    walk_at "g"
    refine Op2.modInt hmz ?_
    obtain ⟨d,hd,e⟩:=fmodN _ hm
    rw [e]
    exact q _ d hd (x1.trans (Xp.of x2)) ⟨_,spot+1,great,eP2,eC2,hcl,by exact ar227 hsp⟩
end
noncomputable def Lw (σ:St) (P C:Addr) (n:Nat):Prop:=PenR σ P C n∧σ 471=some (.frozen (strVs c_glyphs))
theorem Lw.ext {σ τ:St} {P C:Addr} {n:Nat} (h:Lw σ P C n) (x:Ext σ τ):Lw τ P C n:=⟨h.1.ext x,x _ _ h.2⟩
theorem Lw.le {σ:St} {P C:Addr} {n m:Nat} (h:Lw σ P C n) (x:n≤m):Lw σ P C m:=⟨h.1.le x,h.2⟩
theorem Lw.ne {σ:St} {P C:Addr} {n:Nat} (h:Lw σ P C n):471≠P:=by
 rintro rfl
 refine im2 ?_ (h)
 refine xi3 ?_
 intro cells s g
 refine im2 ?_
 intro a _ b
 rw [a] at b
 cases b
theorem Lw.neNone {σ:St} {P C D:Addr} {n:Nat} (h:Lw σ P C n) (hD:σ D=none):D≠P:=by
 rintro rfl
 refine im2 ?_ (h)
 refine xi3 ?_
 intro cells s g
 refine im2 ?_
 intro a _ b
 rw [a] at hD
 cases hD
theorem Xp.bump {P F:Addr} {σ τ:St} {o:MObj} (h:Xp P σ τ) (hF:σ F=Option.none):Xp P σ (upM τ F o):=fun a o' n e=>by
 rw [upd_ne]
 ·exact h a o' n e
 ·rintro rfl
  rw [hF] at e
  cases e
theorem Lw.put {σ:St} {P C F:Addr} {n:Nat} {o:MObj} (h:Lw σ P C n) (n1:F≠P) (n2:F≠C) (n3:F≠471):Lw (upM σ F o) P C n:=by
 revert h n1 n2 n3
 revert σ; revert P; revert n; revert C F o
 walk_at "close 6"
 intro C F o n P σ h n1 n2 n3
 refine im2 ?_ (h)
 refine xi3 ?_
 intro cells s g
 refine im4 ?_
 intro a b d e f
 exact ⟨⟨cells,s,g,by rw [upd_ne _ _ (Ne.symm n1)]; exact a,by rw [upd_ne _ _ (Ne.symm n2)]; exact b,d,e⟩,by rw [upd_ne _ _ (Ne.symm n3)]; exact f⟩
theorem Lw.news {σ:St} {P C F:Addr} {n:Nat} (h:Lw σ P C n) (hF:σ F=none):F≠P∧F≠C∧F≠471:=by
 revert h hF
 revert σ; revert P; revert n; revert C F
 walk_at "close 5"
 intro C F n P σ h hF
 refine im2 ?_ (h)
 refine xi3 ?_
 intro cells s g
 refine im4 ?_
 intro a b d e f
 refine xc0_3 ?_ ?_ ?_
 ·rintro rfl
  rw [a] at hF
  cases hF
 ·rintro rfl
  rw [b] at hF
  cases hF
 ·rintro rfl
  rw [f] at hF
  cases hF
section
variable {c:Cx} {k:Nat} {σ σ₀:St} {Q:V→St→Prop}
theorem w_draw (pc:PC c) {P C:Addr} {n many:Nat} (h:Lw σ P C n) (hn:n < 1000000) (hm:0 < many) (hm2:many < 1000) (q:∀ σ' d,d < many→Xp P σ σ'→Lw σ' P C (n+1)→Q (.int ((d:Nat):Int)) σ'):CallC c (k+1) (.ref 470) [.ref P,.int many] σ Q :=
 w_law_draw pc h.1 hn hm hm2 fun σ' d hd x p=>q σ' d hd x ⟨p,x _ _ h.ne h.2⟩
noncomputable def kindsL:List (List Nat):=[tx "single",tx "multiple",tx "alternate",tx "ligature",tx "adjust",tx "pair",tx "chain",tx "chain"]
theorem w_law_kinds (pc:PC c) (q:∀ σ' L,Ext σ σ'→σ' L=some (.list (strVs kindsL))→Q (.ref L) σ'):CallC c (k+1) (.ref 478) [] σ Q:=by
 refine CallC.def [] (K:=Mine.Internal.hd.heap_1 _) (PC.X (by assumption)) rfl ?hcd ?hb ?hk rfl ?c1 ?c2 ?c3 ?_
 case hcd=>kernel_rfl
 case hb=>exact len0 rfl
 case hk=>decide +kernel
 case c1=>rfl
 case c2=>rfl
 case c3=>rfl
 walk_at "g"
 intro L hL
 exact q _ L (Ext.fresh hL) (upd_self _ _ _)
theorem glyphs_at {d:Nat} (h:d < 7):∃ g,(strVs c_glyphs)[d]?=some (.str g)∧g∈c_glyphs:=by
 have h7:d < c_glyphs.length:=h
 exact xc1_2 (c_glyphs[d]) (by unfold strVs; rw [List.getElem?_map,List.getElem?_eq_getElem h7]; rfl) (List.getElem_mem _)
theorem w_law_glyph (pc:PC c) {P C:Addr} {n:Nat} (h:Lw σ P C n) (hn:n < 1000000) (q:∀ σ' g,g∈c_glyphs→Xp P σ σ'→Lw σ' P C (n+1)→Q (.str g) σ'):CallC c (k+2) (.ref 485) [.ref P] σ Q:=by
 walk_at "def 1"
 walk_at "g"
 refine CallW.lenList (.inr h.2) (by decide +kernel) ?_
 walk_at "g"
 refine (w_draw (many:=7) pc h hn (by decide) (by decide) fun σ1 d hd x1 h1=>?_).toW
 refine xi1 ?_ (glyphs_at hd)
 intro g
 refine im2 ?_
 intro hg hm
 exact TailW.list (fun _ _=>rfl) (.inr h1.2) (by exact ar20) (by exact ar232 hd) (by rw [Int.toNat_natCast]; exact hg) (q _ g hm x1 h1)
theorem w_law_some (pc:PC c) {P C:Addr} {n least most:Nat} (h:Lw σ P C n) (hn:n < 900000) (hl:0 < least) (hm:0 < most) (hz:least+most < 100) (q:∀ σ' gs,SetOk gs→gs.length < least+most→Xp P σ σ'→Lw σ' P C (n+least+most)→Q (.tup (strVs gs)) σ'):CallC c (k+3) (.ref 492) [.ref P,.int least,.int most] σ Q:=by
 revert pc h hn hl hm hz q
 revert c; revert k; revert σ; revert Q; revert P; revert n; revert C least most
 walk_at "close 9"
 intro C least most n P Q σ k c pc h hn hl hm hz q
 walk_at "def 3"
 walk_at "g"
 intro F hF
 refine im3 ?_ (h.news hF)
 intro nP nC nG
 walk_at "g"
 refine SV.for (fun _ _=>rfl) ?_
 refine IT.range1 rfl (by decide +kernel) (gn_range pc) rfl ?_
 walk_at "g"
 refine (w_draw (many:=most) pc (h.ext (Ext.fresh hF)) (by exact ar233 hn) hm (by exact ar234 hz) fun σ1 d hd x1 h1=>?_).toW
 walk_at "g"
 refine xc1_3 (least+d) (by simp) (by exact ar235 hz hd) ?_
 have xa:Xp P σ σ1:=(Xp.of (Ext.fresh hF)).trans x1
 refine xc1_4 (fun i ρ' σ'=>ρ' "pen"=some (.ref P)∧ρ' "found"=some (.ref F)∧Xp P σ σ'∧Lw σ' P C (n+1+i)∧∃ gs,σ' F=some (.list (strVs gs))∧gs.Nodup∧(∀ g∈gs,g∈c_glyphs)∧gs.length≤i∧(0 < i→gs≠[])) ⟨?_,?_,xa,h1,[],x1 _ _ nP (upd_self _ _ _),by simp,by simp,by simp,fun z=>absurd z (by decide)⟩ (fun _ _ _ _=>trivial) ?_ ?_
 ·walk_at "loc"
 ·walk_at "loc"
 ·intro i ρ' σ' x hx
  refine im5 ?_
  intro l1 l2 xp lw
  refine xi1 ?_
  intro gs
  refine im5 ?_
  intro eF g1 g2 g3 g4
  refine im2 ?_ (rangeV_get hx)
  intro hi hq98
  obtain rfl:=hq98
  walk_at "g"
  refine (w_law_glyph pc lw (by exact ar236 hn hz hd hi) fun σ2 g hg x2 h2=>?_).toW
  have eF2:=x2 _ _ nP eF
  have xp2:=xp.trans x2
  walk_at "g"
  have gch:∀ g∈c_glyphs,chOk g=true:=by decide +kernel
  refine Op2.notInList (.inl eF2) (ok_str (gch g hg)) (oks_strs (List.all_eq_true.mpr fun x hx=>gch x (g2 x hx))) (depth_str g) ?_
  rw [vin_str]
  by_cases hin:g∈gs
  ·rw [decide_eq_true hin]
   walk_at "g"
   refine ⟨?_,?_,xp2,h2.le (by exact ar237),gs,eF2,g1,g2,by exact ar224 g3,fun _ z=>by rw [z] at hin; cases hin⟩ <;> walk_at "loc"
  ·rw [decide_eq_false hin]
   walk_at "g"
   refine xc1_2 _ (MethR.append (.inl eF2)) ?_
   walk_at "g"
   refine CallW.append eF2 (by delta sizeLine; simp only [strVs,List.length_map]; exact ar238 hz hd g3 hi) ?_
   refine ⟨rfl,?_⟩
   walk_at "g"
   refine xc0_5 ?_ ?_ (xp2.bump hF) ((h2.put nP nC nG).le (by exact ar237)) (xc1_5 (gs++[g]) (by rw [upd_self]; simp [strVs]) ?_ ?_ (by simp; exact ar239 g3) (by simp))
   ·walk_at "loc"
   ·walk_at "loc"
   ·rw [List.nodup_append]
    exact xc0_3 g1 (by simp) (fun a ha b hb=>by rw [List.mem_singleton.mp hb]; rintro rfl; exact hin ha)
   ·intro x hx
    rcases List.mem_append.mp hx with z | z
    ·exact g2 x z
    ·rw [List.mem_singleton.mp z]
     exact hg
 ·intro ρ' σ'
  refine im5 ?_
  intro l1 l2 xp lw
  refine xi1 ?_
  intro gs
  refine im5 ?_
  intro eF g1 g2 g3 g4
  rw [rangeV_len] at lw g3 g4
  walk_at "g"
  refine CallW.tupList (.inl eF) (by delta sizeLine; simp only [strVs,List.length_map]; exact ar240 hz hd g3) ?_
  exact q _ gs ⟨g2,g1,g4 (by exact ar241 hl),by exact ar242 hz hd g3⟩ (by exact ar243 hd g3) xp (lw.le (by exact ar244 hd))
end
theorem menu_at {l:List Int} {d:Nat} (h:d < l.length) (hp:l.all numIn=true):∃ j,(l.map V.int)[d]?=some (.int j)∧numIn j=true:=by
 refine xc1_2 (l[d]) (by rw [List.getElem?_map,List.getElem?_eq_getElem h]; rfl) ?_
 exact List.all_eq_true.mp hp _ (List.getElem_mem _)
theorem menus_ok:([0,10,-20,32767,-32768]:List Int).all numIn=true∧([0,1,-5,300]:List Int).all numIn=true∧numIn 0=true:=by decide +kernel
section
variable {c:Cx} {k:Nat} {σ σ₀:St} {Q:V→St→Prop}
theorem CompQ.draw {sc:Scope} {ρ:Loc} {elt target:Expr} {scope:Scope} {items:List V} {Ok:St→Prop} {σ₁:St} {P C:Addr} {n:Nat} (cost:Nat) (A:Nat→V→Prop) (hz:items.length < 2 ^ 24) (hL:Lw σ₁ P C n) (hOk:∀ τ,Xp P σ₁ τ→Ok τ)
  (step:∀ (i:Nat) (x:V),items[i]?=some x→∀ τ,Xp P σ₁ τ→Lw τ P C (n+i * cost)→∃ ρ',CTg (compScope sc scope) target x (compLoc scope ρ) ρ'∧EV c k elt (compScope sc scope) ρ' τ fun v τ'=>A i v∧Xp P τ τ'∧Lw τ' P C (n+i * cost+cost))
  (q:∀ D τ ys,Xp P σ₁ τ→Lw τ P C (n+items.length * cost)→τ D=some (.list ys)→ys.length=items.length→(∀ (i:Nat) y,ys[i]?=some y→A i y)→Q (.ref D) τ):CompQ c k elt target [] scope sc ρ Q items Ok σ₁:=by
 revert hz hL hOk step q
 revert c; revert k; revert sc; revert ρ; revert A; revert Q; revert P; revert n; revert elt target scope items Ok σ₁ C cost
 walk_at "close 16"
 intro elt target scope items Ok σ₁ C cost n P Q A ρ sc k c hz hL hOk step q
 refine ⟨by delta sizeLine; exact ar53 hz,fun D hD=>?_⟩
 refine im3 ?_ (hL.news hD)
 intro nP nC nG
 refine xc1_4 (fun i acc τ=>Xp P σ₁ τ∧Lw τ P C (n+i * cost)∧τ D=some (.list acc)∧acc.length=i∧∀ (j:Nat) y,acc[j]?=some y→A j y) ⟨Xp.of (Ext.fresh hD),by rw [Nat.zero_mul]; exact hL.put nP nC nG,upd_self _ _ _,rfl,by simp⟩ ?_ ?_ ?_
 ·intro i acc τ
  refine im5 ?_
  intro h1 h2 h3 h4 h5
  exact xc0_3 (hOk τ h1) h3 (by exact ar245 h4)
 ·intro i acc τ x hx
  refine im5 ?_
  intro h1 h2 h3 h4 h5
  refine xi1 ?_ (step i x hx τ h1 h2)
  intro ρ'
  refine im2 ?_
  intro tg ev
  refine xc1_2 ρ' tg ?_
  refine CondV.nil (iteT (ev.mono' fun v τ' ⟨a,b,d⟩=>⟨b _ _ nP h3,(h1.trans b).bump hD,?_,upd_self _ _ _,by simp [h4],?_⟩))
  ·rw [Nat.succ_mul,← Nat.add_assoc]
   exact d.put nP nC nG
  ·intro j y hy
   by_cases hj:j < acc.length
   ·rw [List.getElem?_append_left hj] at hy
    exact h5 j y hy
   ·rw [List.getElem?_append_right (by exact ar246 hj)] at hy
    have:j - acc.length=0:=by
     cases hq:j - acc.length with
     | zero=>rfl
     | succ m=>rw [hq] at hy; simp at hy
    rw [this] at hy
    cases hy
    rw [show j=i by exact ar247 h4 hj this]; exact a
 ·intro acc τ
  refine im5 ?_
  intro h1 h2 h3 h4 h5
  exact q D τ acc h1 h2 h3 h4 h5
theorem w_law_worth (pc:PC c) {P C:Addr} {n:Nat} (h:Lw σ P C n) (hn:n < 900000) (q:∀ σ' w,worthOk w=true→Xp P σ σ'→Lw σ' P C (n+5)→Q (worthV w) σ'):CallC c (k+3) (.ref 497) [.ref P] σ Q:=by
 revert pc h hn q
 revert c; revert k; revert σ; revert Q; revert P; revert n; revert C
 walk_at "close 7"
 intro C n P Q σ k c pc h hn q
 walk_at "def 1"
 walk_at "g"
 refine (w_draw (many:=2) pc h (by exact ar233 hn) (by decide) (by decide) fun σ1 d hd x1 h1=>?_).toW
 walk_at "g"
 cases hz:(((d:Nat):Int)==0)
 case true =>
  walk_at "g"
  intro M hM
  have hM':=Ext.fresh (σ:=σ1) (o:=MObj.list (([0,10,-20,32767,-32768]:List Int).map V.int)) hM
  refine im3 ?_ (h1.news hM)
  intro nP nC nG
  walk_at "g"
  refine (w_draw (many:=5) pc (h1.ext hM') (by exact ar248 hn) (by decide) (by decide) fun σ2 d2 hd2 x2 h2=>?_).toW
  refine xi1 ?_ (menu_at (l:=[0,10,-20,32767,-32768]) hd2 menus_ok.1)
  intro j
  refine im2 ?_
  intro hj oj
  refine TailW.list (fun _ _=>rfl) (.inl (x2 _ _ nP (upd_self _ _ _))) (by exact ar20) (by exact ar249 hd2) (by rw [Int.toNat_natCast]; exact hj) ?_
  walk_at "g"
  refine q _ (0,0,j,0) ?_ ((x1.trans (Xp.of hM')).trans x2) (h2.le (by exact ar250))
  unfold worthOk
  rw [menus_ok.2.2,oj]
  rfl
 case false =>
  walk_at "g"
  refine EV.compE (by decide +kernel) (fun _ _=>rfl) ?_ ?_
  ·walk_at "cap"
  refine IT.range1 rfl (by decide +kernel) (gn_range pc) rfl ?_
  walk_at "g"
  refine xc1_3 4 rfl (by decide) ?_
  refine CompQ.draw (P:=P) (C:=C) (n:=n+1) 1 (fun _ v=>∃ j,v=.int j∧numIn j=true) (by rw [rangeV_len]; decide) h1 (fun _ _=>trivial) (fun i x hx τ xp lw=>?_) fun D τ ys xp lw eD hl hA=>?_
  ·refine xc1_2 _ (CTg.nameE (by decide +kernel)) ?_
   refine im2 ?_ (rangeV_get hx)
   intro hi _
   walk_at "g"
   intro M hM
   have hM':=Ext.fresh (σ:=τ) (o:=MObj.list (([0,1,-5,300]:List Int).map V.int)) hM
   refine im3 ?_ (lw.news hM)
   intro nP nC nG
   walk_at "g"
   refine (w_draw (many:=4) pc (lw.ext hM') (by exact ar251 hn hi) (by decide) (by decide) fun σ2 d2 hd2 x2 h2=>?_).toW
   refine xi1 ?_ (menu_at (l:=[0,1,-5,300]) hd2 menus_ok.2.1)
   intro j
   refine im2 ?_
   intro hj oj
   refine TailW.list (fun _ _=>rfl) (.inl (x2 _ _ nP (upd_self _ _ _))) (by exact ar20) (by exact ar252 hd2) (by rw [Int.toNat_natCast]; exact hj) ?_
   exact xc0_3 ⟨j,rfl,oj⟩ ((Xp.of hM').trans x2) h2
  rw [rangeV_len] at hl lw
  refine CallW.tupList (.inl eD) (by delta sizeLine; rw [hl]; decide) ?_
  match ys,hl,hA with
  | [y1,y2,y3,y4],_,hA =>
   refine xi1 ?_ (hA 0 _ rfl)
   intro a1
   refine im2 ?_
   intro hq99
   obtain rfl:=hq99
   intro o1
   refine xi1 ?_ (hA 1 _ rfl)
   intro a2
   refine im2 ?_
   intro hq100
   obtain rfl:=hq100
   intro o2
   refine xi1 ?_ (hA 2 _ rfl)
   intro a3
   refine im2 ?_
   intro hq101
   obtain rfl:=hq101
   intro o3
   refine xi1 ?_ (hA 3 _ rfl)
   intro a4
   refine im2 ?_
   intro hq102
   obtain rfl:=hq102
   intro o4
   refine q _ (a1,a2,a3,a4) ?_ (x1.trans xp) (lw.le (by exact ar253))
   unfold worthOk
   rw [o1,o2,o3,o4]
   rfl
end
theorem collect {α:Type} {f:α→V} {p:α→Prop}:∀ {ys:List V},(∀ (i:Nat) y,ys[i]?=some y→∃ a,y=f a∧p a)→∃ as:List α,ys=as.map f∧∀ a∈as,p a:=by
 intro ys
 induction ys with
 | nil =>
  intro _
  exact ⟨[],rfl,by simp⟩
 | cons y r ih =>
  intro h
  refine xi1 ?_ (h 0 y rfl)
  intro a
  refine im2 ?_
  intro hq103
  obtain rfl:=hq103
  intro pa
  refine xi1 ?_ (ih fun i y e=>h (i+1) y e)
  intro as
  refine im2 ?_
  intro hq104
  obtain rfl:=hq104
  intro ps
  refine xc1_2 (a::as) rfl (fun b hb=>?_)
  rcases List.mem_cons.mp hb with rfl | hb
  ·exact pa
  ·exact ps b hb
theorem acts_append:∀ (a b:List (List (List Nat)×List (List Nat))) (i:Nat),acts i (a++b)=acts i a++acts (i+a.length) b
 | [],b,i=>rfl
 | (g,us)::r,b,i=>by
  show us.map _++acts (i+1) (r++b)=(us.map _++acts (i+1) r)++acts (i+(r.length+1)) b
  rw [acts_append r b (i+1),List.append_assoc,show i+1+r.length=i+(r.length+1) by exact ar75]
theorem acts_len (nms:List (List Nat)):∀ (l:List (List (List Nat)×List (List Nat))) (j:Nat),(∀ p∈l,p.2.length≤2∧∀ u∈p.2,u∈nms)→(acts j l).length≤2 * l.length
 | [],_,_=>Nat.zero_le _
 | p::r,j,ok=>by
  have h1:=acts_len nms r (j+1) fun p' hp'=>ok p' (List.mem_cons_of_mem _ hp')
  have h2:=(ok p (List.mem_cons_self ..)).1
  show (p.2.map _++acts (j+1) r).length≤_
  rw [List.length_append,List.length_map,List.length_cons]
  exact ar254 h1 h2
noncomputable def RowSmall:RowD→Prop
 | .multiple _ bs=>bs.length≤3
 | .alternate _ bs=>bs.length≤3
 | .ligature as _=>as.length≤3
 | .chain _ back ins ahead=>back.length≤2∧ins.length≤2∧ahead.length≤2∧(∀ g∈back,g.length≤2)∧(∀ p∈ins,p.1.length≤2∧p.2.length≤2)∧(∀ g∈ahead,g.length≤2)
 | _=>True
structure Nms (nms:List (List Nat)):Prop where
 ne:nms≠[]
 len:nms.length≤3
 name:∀ u∈nms,isName u=true
theorem Lw.neL {σ:St} {P C N:Addr} {n:Nat} {nms:List (List Nat)} (h:Lw σ P C n) (e:σ N=some (.list (strVs nms))):N≠P:=by
 revert h e
 revert σ; revert N; revert P; revert n; revert C nms
 walk_at "close 6"
 intro C nms n P N σ h e
 rintro rfl
 refine im2 ?_ (h)
 refine xi3 ?_
 intro cells s g
 refine im4 ?_
 intro a b d z f
 rw [a] at e
 cases nms with
 | nil=>cases e
 | cons x r=>simp [strVs] at e
section
variable {c:Cx} {k:Nat} {σ σ₀:St} {Q:V→St→Prop}
theorem sets_comp (pc:PC c) {sc:Scope} {ρ:Loc} {elt target:Expr} {scope:Scope} {m:Nat} {Ok:St→Prop} {P C:Addr} {n:Nat} (hOk:∀ τ,Ok τ) (hm:m≤2) (hn:n < 800000) (hL:Lw σ P C n)
  (step:∀ (i:Nat) (x:V),(rangeV 0 m)[i]?=some x→∀ τ,Xp P σ τ→Lw τ P C (n+i * 3)→∃ ρ',CTg (compScope sc scope) target x (compLoc scope ρ) ρ'∧EV c k elt (compScope sc scope) ρ' τ fun v τ'=>(∃ gs,v=.tup (strVs gs)∧SetOk gs∧gs.length≤2)∧Xp P τ τ'∧Lw τ' P C (n+i * 3+3))
  (q:∀ D τ (gss:List (List (List Nat))),Xp P σ τ→Lw τ P C (n+6)→τ D=some (.list (gss.map fun g=>V.tup (strVs g)))→gss.length=m→(∀ g∈gss,SetOk g∧g.length≤2)→Q (.ref D) τ):CompQ c k elt target [] scope sc ρ Q (rangeV 0 m) Ok σ:=by
 refine CompQ.draw (P:=P) (C:=C) (n:=n) 3 (fun _ v=>∃ gs,v=.tup (strVs gs)∧SetOk gs∧gs.length≤2) (by rw [rangeV_len]; exact ar255 hm) hL (fun τ _=>hOk τ) step fun D τ ys xp lw eD hl hA=>?_
 rw [rangeV_len] at hl lw
 refine xi1 ?_ (collect (f:=fun g=>V.tup (strVs g)) (p:=fun g=>SetOk g∧g.length≤2) fun i y e=>hA i y e)
 intro gss
 refine im2 ?_
 intro hq105
 obtain rfl:=hq105
 intro hg
 exact q D τ gss xp (lw.le (by exact ar256 hm)) eD (by simpa using hl) hg
set_option maxHeartbeats 4000000 in
theorem w_law_chain (pc:PC c) {P C N:Addr} {n:Nat} {nms:List (List Nat)} (h:Lw σ P C n) (hn:n < 700000) (eN:σ N=some (.list (strVs nms))) (hN:Nms nms)
  (q:∀ σ' w back ins ahead,RowOk (.chain w back ins ahead)→RowSmall (.chain w back ins ahead)→(∀ u∈rowUses (.chain w back ins ahead),u∈nms)→Xp P σ σ'→Lw σ' P C (n+40)→Q (rowV (.chain w back ins ahead)) σ'):CallC c (k+5) (.ref 502) [.ref P,.ref N] σ Q:=by
 revert pc h hn eN hN q
 revert c; revert k; revert σ; revert Q; revert N; revert P; revert n; revert C nms
 walk_at "close 9"
 intro C nms n P N Q σ k c pc h hn eN hN q
 walk_at "def 2"
 walk_at "g"
 intro M hM
 have hM':=Ext.fresh (σ:=σ) (o:=MObj.list (strVs [tx "sub",tx "pos"])) hM
 refine im3 ?_ (h.news hM)
 intro nP nC nG
 walk_at "g"
 refine (w_draw (many:=2) pc (h.ext hM') (by exact ar257 hn) (by decide) (by decide) fun σ1 d hd x1 h1=>?_).toW
 obtain ⟨w,hw,ow⟩:∃ w,(strVs [tx "sub",tx "pos"])[d]?=some (.str w)∧(w=tx "sub"∨w=tx "pos"):=by
  match d,hd with
  | 0,_=>exact ⟨_,rfl,.inl rfl⟩
  | 1,_=>exact ⟨_,rfl,.inr rfl⟩
 refine TailW.list (fun _ _=>rfl) (.inl (x1 _ _ nP (upd_self _ _ _))) (by exact ar20) (by exact ar258 hd) (by rw [Int.toNat_natCast]; exact hw) ?_
 have xa:Xp P σ σ1:=(Xp.of hM').trans x1
 walk_at "g"
 refine EV.compE (by decide +kernel) (fun _ _=>rfl) ?_ ?_
 ·walk_at "cap"
 refine IT.range1 rfl (by decide +kernel) (gn_range pc) rfl ?_
 walk_at "g"
 refine (w_draw (many:=3) pc h1 (by exact ar259 hn) (by decide) (by decide) fun σ2 mb hmb x2 h2=>?_).toW
 refine xc1_3 mb rfl (by exact ar260 hmb) ?_
 refine sets_comp pc (fun _=>trivial) (by exact ar261 hmb) (by exact ar262 hn) h2 (fun i x hx τ xp lw=>?_) fun D τ back xp lw eD hl hA=>?_
 ·refine im2 ?_ (rangeV_get hx)
  intro hi _
  refine xc1_2 _ (CTg.nameE (by decide +kernel)) ?_
  walk_at "g"
  exact (w_law_some (least:=1) (most:=2) pc lw (by exact ar263 hn hmb hi) (by decide) (by decide) (by decide) fun σ' gs ok hz x l=>⟨⟨gs,rfl,ok,by exact ar264 hz⟩,x,l⟩).toW
 walk_at "g"
 refine CallW.tupList (.inl eD) (by delta sizeLine; rw [List.length_map]; exact ar265 hmb hl) ?_
 walk_at "g"
 refine EV.compE (by decide +kernel) (fun _ _=>rfl) ?_ ?_
 ·walk_at "cap"
 refine IT.range1 rfl (by decide +kernel) (gn_range pc) rfl ?_
 walk_at "g"
 refine (w_draw (many:=2) pc lw (by exact ar266 hn) (by decide) (by decide) fun σ3 mi hmi x3 h3=>?_).toW
 walk_at "g"
 refine xc1_3 (1+mi) (by simp) (by exact ar267 hmi) ?_
 refine sets_comp (m:=1+mi) pc (fun _=>trivial) (by exact ar268 hmi) (by exact ar269 hn) h3 (fun i x hx τ xp lw=>?_) fun D2 τ2 gss xp2 lw2 eD2 hl2 hA2=>?_
 ·refine im2 ?_ (rangeV_get hx)
  intro hi _
  refine xc1_2 _ (CTg.nameE (by decide +kernel)) ?_
  walk_at "g"
  exact (w_law_some (least:=1) (most:=2) pc lw (by exact ar270 hn hmi hi) (by decide) (by decide) (by decide) fun σ' gs ok hz x l=>⟨⟨gs,rfl,ok,by exact ar264 hz⟩,x,l⟩).toW
 walk_at "g"
 refine CallW.tupList (.inl eD2) (by delta sizeLine; rw [List.length_map]; exact ar271 hmi hl2) ?_
 walk_at "g"
 refine EV.compE (by decide +kernel) (fun _ _=>rfl) ?_ ?_
 ·walk_at "cap"
 refine IT.range1 rfl (by decide +kernel) (gn_range pc) rfl ?_
 walk_at "g"
 refine (w_draw (many:=2) pc lw2 (by exact ar272 hn) (by decide) (by decide) fun σ4 ma hma x4 h4=>?_).toW
 refine xc1_3 ma rfl (by exact ar273 hma) ?_
 refine sets_comp pc (fun _=>trivial) (by exact ar274 hma) (by exact ar275 hn) h4 (fun i x hx τ xp lw=>?_) fun D3 τ3 ahead xp3 lw3 eD3 hl3 hA3=>?_
 ·refine im2 ?_ (rangeV_get hx)
  intro hi _
  refine xc1_2 _ (CTg.nameE (by decide +kernel)) ?_
  walk_at "g"
  exact (w_law_some (least:=1) (most:=2) pc lw (by exact ar276 hn hma hi) (by decide) (by decide) (by decide) fun σ' gs ok hz x l=>⟨⟨gs,rfl,ok,by exact ar264 hz⟩,x,l⟩).toW
 walk_at "g"
 refine CallW.tupList (.inl eD3) (by delta sizeLine; rw [List.length_map]; exact ar277 hma hl3) ?_
 walk_at "g"
 intro A hA0
 have xb:Xp P σ τ3:=((((xa.trans x2).trans xp).trans x3).trans xp2).trans (x4.trans xp3)
 refine im3 ?_ (lw3.news hA0)
 intro aP aC aG
 have nNP:=h.neL eN
 have hA1:σ A=none:=xb.none aP hA0
 walk_at "g"
 refine SV.for (fun _ _=>rfl) ?_
 refine IT.range1 rfl (by decide +kernel) (gn_range pc) rfl ?_
 walk_at "g"
 refine CallW.lenTup (by rw [List.length_map]; exact ar278 hmi hl2) ?_
 refine xc1_3 gss.length (by rw [List.length_map]) (by exact ar279 hmi hl2) ?_
 have nz:=hN.len
 let insOk:=fun ins:List (List (List Nat)×List (List Nat))=>∀ p∈ins,p.2.length≤2∧∀ u∈p.2,u∈nms
 refine xc1_4 (fun i ρ' σ'=>ρ' "pen"=some (.ref P)∧ρ' "names"=some (.ref N)∧ρ' "word"=some (.str w)∧ρ' "back"=some (setsV back)∧ρ' "inside"=some (setsV gss)∧ρ' "ahead"=some (setsV ahead)∧ρ' "actions"=some (.ref A)∧Xp P σ σ'∧Lw σ' P C (n+1+1+6+1+6+1+6+3 * i)∧∃ ins,ins.map (·.1)=gss.take i∧σ' A=some (.list ((acts 0 ins).map actV))∧insOk ins) ⟨?_,?_,?_,?_,?_,?_,?_,xb.trans (Xp.of (Ext.fresh hA0)),lw3.put aP aC aG,[],rfl,upd_self _ _ _,by simp [insOk]⟩ (fun _ _ _ _=>trivial) ?_ ?_
 ·walk_at "loc"
 ·walk_at "loc"
 ·walk_at "loc"
 ·unfold setsV; walk_at "loc"
 ·unfold setsV; walk_at "loc"
 ·unfold setsV; walk_at "loc"
 ·walk_at "loc"
 ·intro i ρ' σ' x hx
  refine im8 ?_
  intro l1 l2 l3 l4 l5 l6 l7
  refine im3 ?_
  intro xi lwi
  refine xi1 ?_
  intro ins
  refine im3 ?_
  intro hins eA oki
  refine im2 ?_ (rangeV_get hx)
  intro hi hq106
  obtain rfl:=hq106
  walk_at "g"
  refine SV.for (fun _ _=>rfl) ?_
  refine IT.range1 rfl (by decide +kernel) (gn_range pc) rfl ?_
  walk_at "g"
  refine (w_draw (many:=3) pc lwi (by exact ar280 hn hmi hl2 hi) (by decide) (by decide) fun σ5 mu hmu x5 h5=>?_).toW
  refine xc1_3 mu rfl (by exact ar260 hmu) ?_
  have hlen:ins.length=i:=by
   have:=congrArg List.length hins
   rw [List.length_map,List.length_take] at this
   exact ar281 hi this
  have hc:=acts_len nms ins 0 oki
  refine xc1_4 (fun j ρ₂ σ₂=>ρ₂ "pen"=some (.ref P)∧ρ₂ "names"=some (.ref N)∧ρ₂ "word"=some (.str w)∧ρ₂ "back"=some (setsV back)∧ρ₂ "inside"=some (setsV gss)∧ρ₂ "ahead"=some (setsV ahead)∧ρ₂ "actions"=some (.ref A)∧ρ₂ "spot"=some (.int (0+(i:Int)))∧Xp P σ σ₂∧Lw σ₂ P C (n+1+1+6+1+6+1+6+3 * i+1+j)∧∃ us,us.length=j∧(∀ u∈us,u∈nms)∧σ₂ A=some (.list ((acts 0 ins++us.map fun u=>(i,u)).map actV))) ⟨?_,?_,?_,?_,?_,?_,?_,?_,xi.trans x5,h5,[],rfl,by simp,by rw [x5 _ _ aP eA]; simp⟩ (fun _ _ _ _=>trivial) ?_ ?_
  ·walk_at "loc"
  ·walk_at "loc"
  ·walk_at "loc"
  ·walk_at "loc"
  ·walk_at "loc"
  ·walk_at "loc"
  ·walk_at "loc"
  ·walk_at "loc"
  ·intro j ρ₂ σ₂ y hy
   refine im8 ?_
   intro k1 k2 k3 k4 k5 k6 k7
   refine im4 ?_
   intro k8 xj lwj
   refine xi1 ?_
   intro us
   refine im3 ?_
   intro hus humem eA2
   refine im2 ?_ (rangeV_get hy)
   intro hj hq107
   obtain rfl:=hq107
   have eN2:=xj _ _ nNP eN
   walk_at "g"
   refine xc1_2 _ (MethR.append (.inl eA2)) ?_
   walk_at "g"
   refine CallW.lenList (.inl eN2) (by simp only [strVs,List.length_map]; exact ar282 nz) ?_
   walk_at "g"
   have hnl:(strVs nms).length=nms.length:=by simp [strVs]
   rw [hnl]
   refine (w_draw (many:=nms.length) pc lwj (by exact ar283 hn hmi hl2 hi hmu hj) (List.length_pos_iff.mpr hN.ne) (by exact ar284 nz) fun σ6 du hdu x6 h6=>?_).toW
   refine TailW.list (x:=.str nms[du]) (fun _ _=>rfl) (.inl (x6 _ _ nNP eN2)) (by exact ar20) (by exact ar285 nz hdu) (by rw [Int.toNat_natCast]; unfold strVs; rw [List.getElem?_map,List.getElem?_eq_getElem hdu]; rfl) ?_
   walk_at "g"
   have eA3:=x6 _ _ aP eA2
   refine CallW.append eA3 (by delta sizeLine; rw [List.length_map,List.length_append,List.length_map]; exact ar286 hmi hl2 hi hmu hlen hc hus hj) ?_
   refine ⟨rfl,?_⟩
   walk_at "g"
   refine xc0_8 ?_ ?_ ?_ ?_ ?_ ?_ ?_ (xc0_4 ?_ ((xj.trans x6).bump hA1) ((h6.put aP aC aG).le (by exact ar237)) (xc1_3 (us++[nms[du]]) (by simp [hus]) ?_ ?_))
   ·walk_at "loc"
   ·walk_at "loc"
   ·walk_at "loc"
   ·walk_at "loc"
   ·walk_at "loc"
   ·walk_at "loc"
   ·walk_at "loc"
   ·walk_at "loc"
   ·intro u hu
    rcases List.mem_append.mp hu with z | z
    ·exact humem u z
    ·rw [List.mem_singleton.mp z]
     exact List.getElem_mem _
   ·rw [upd_self]
    simp [actV]
  ·intro ρ₂ σ₂
   refine im8 ?_
   intro k1 k2 k3 k4 k5 k6 k7
   refine im4 ?_
   intro k8 xj lwj
   refine xi1 ?_
   intro us
   refine im3 ?_
   intro hus humem eA2
   rw [rangeV_len] at lwj hus
   walk_at "g"
   refine xc0_8 k1 k2 k3 k4 k5 k6 k7 (xc0_3 xj (lwj.le (by exact ar287 hmu)) (xc1_3 (ins++[(gss[i],us)]) ?_ ?_ ?_))
   ·rw [List.map_append,hins,List.take_add_one,List.getElem?_eq_getElem hi]
    rfl
   ·rw [eA2,acts_append,hlen]
    simp [acts_one]
   ·intro p hp
    rcases List.mem_append.mp hp with z | z
    ·exact oki p z
    ·rw [List.mem_singleton.mp z]
     exact ⟨by simp only; exact ar288 hmu hus,humem⟩
 ·intro ρ' σ'
  refine im8 ?_
  intro l1 l2 l3 l4 l5 l6 l7
  refine im3 ?_
  intro xi lwi
  refine xi1 ?_
  intro ins
  refine im3 ?_
  intro hins eA oki
  rw [rangeV_len,List.take_length] at hins
  rw [rangeV_len] at lwi
  walk_at "g"
  have hil:ins.length=gss.length:=by rw [← hins,List.length_map]
  have hc:=acts_len nms ins 0 oki
  refine CallW.tupList (.inl eA) (by delta sizeLine; rw [List.length_map]; exact ar289 hmi hl2 hil hc) ?_
  walk_at "g"
  have hsum:(ins.map (·.2.length)).sum≤2 * ins.length:=by
   clear hins eA hc hil
   induction ins with
   | nil=>exact Nat.zero_le _
   | cons p r ih =>
    have:=ih fun p' hp'=>oki p' (List.mem_cons_of_mem _ hp')
    have h2:=(oki p (List.mem_cons_self ..)).1
    rw [List.map_cons,List.sum_cons,List.length_cons]
    exact ar254 this h2
  have hset:∀ p∈ins,SetOk p.1∧p.1.length≤2:=fun p hp=>hA2 p.1 (by rw [← hins]; exact List.mem_map_of_mem hp)
  have fin:=q σ' w back ins ahead ⟨ow,fun g hg=>(hA g hg).1,fun p hp=>⟨(hset p hp).1,by have:=(oki p hp).1; exact ar290 this,fun u hu=>hN.name u ((oki p hp).2 u hu)⟩,fun g hg=>(hA3 g hg).1,by rintro rfl; simp at hil; exact ar291 hl2 hil,by exact ar292 hmb hl hmi hl2 hma hl3 hil,by exact ar293 hmi hl2 hil hsum⟩
   ⟨by exact ar288 hmb hl,by exact ar294 hmi hl2 hil,by exact ar295 hma hl3,fun g hg=>(hA g hg).2,fun p hp=>⟨(hset p hp).2,(oki p hp).1⟩,fun g hg=>(hA3 g hg).2⟩ (fun u hu=>by
    refine xi1 ?_ (List.mem_flatten.mp hu)
    intro l
    refine im2 ?_
    intro hl hu
    refine xi1 ?_ (List.mem_map.mp hl)
    intro p
    refine im2 ?_
    intro hp hq108
    obtain rfl:=hq108
    exact (oki p hp).2 u hu) xi (lwi.le (by exact ar296 hmi hl2))
  have er:rowV (.chain w back ins ahead)=.tup [.str (tx "chain"),.tup [.str w,setsV back,setsV (ins.map (·.1)),setsV ahead,.tup ((acts 0 ins).map actV)]]:=rfl
  rw [er,hins] at fin
  exact fin
end
structure LawRow (nms:List (List Nat)) (kd:List Nat) (row:RowD):Prop where
 kind:kindT row=kd
 ok:RowOk row
 small:RowSmall row
 uses:∀ u∈rowUses row,u∈nms
section
variable {c:Cx} {k:Nat} {σ σ₀:St} {Q:V→St→Prop}
theorem glyphs_comp (pc:PC c) {sc:Scope} {ρ:Loc} {elt target:Expr} {scope:Scope} {m:Nat} {Ok:St→Prop} {P C:Addr} {n:Nat} (hOk:∀ τ,Ok τ) (hm:m≤3) (hn:n < 800000) (hL:Lw σ P C n)
  (step:∀ (i:Nat) (x:V),(rangeV 0 m)[i]?=some x→∀ τ,Xp P σ τ→Lw τ P C (n+i * 1)→∃ ρ',CTg (compScope sc scope) target x (compLoc scope ρ) ρ'∧EV c k elt (compScope sc scope) ρ' τ fun v τ'=>(∃ g,v=.str g∧g∈c_glyphs)∧Xp P τ τ'∧Lw τ' P C (n+i * 1+1))
  (q:∀ D τ (gs:List (List Nat)),Xp P σ τ→Lw τ P C (n+3)→τ D=some (.list (strVs gs))→gs.length=m→(∀ g∈gs,g∈c_glyphs)→Q (.ref D) τ):CompQ c k elt target [] scope sc ρ Q (rangeV 0 m) Ok σ:=by
 refine CompQ.draw (P:=P) (C:=C) (n:=n) 1 (fun _ v=>∃ g,v=.str g∧g∈c_glyphs) (by rw [rangeV_len]; exact ar297 hm) hL (fun τ _=>hOk τ) step fun D τ ys xp lw eD hl hA=>?_
 rw [rangeV_len] at hl lw
 refine xi1 ?_ (collect (f:=V.str) (p:=fun g=>g∈c_glyphs) fun i y e=>hA i y e)
 intro gs
 refine im2 ?_
 intro hq109
 obtain rfl:=hq109
 intro hg
 exact q D τ gs xp (lw.le (by exact ar298 hm)) eD (by simpa using hl) hg
set_option maxHeartbeats 4000000 in
theorem w_law_row (pc:PC c) {P C N:Addr} {n:Nat} {nms:List (List Nat)} {kd:List Nat} (h:Lw σ P C n) (hn:n < 600000) (eN:σ N=some (.list (strVs nms))) (hN:Nms nms) (hk:kd∈kindsL)
  (q:∀ σ' row,LawRow nms kd row→Xp P σ σ'→Lw σ' P C (n+50)→Q (rowV row) σ'):CallC c (k+7) (.ref 507) [.ref P,.str kd,.ref N] σ Q:=by
 revert pc h hn eN hN hk q
 revert c; revert k; revert σ; revert Q; revert N; revert P; revert n; revert C nms kd
 walk_at "close 10"
 intro C nms kd n P N Q σ k c pc h hn eN hN hk q
 have cases7:kd=tx "chain"∨kd=tx "single"∨kd=tx "multiple"∨kd=tx "alternate"∨kd=tx "ligature"∨kd=tx "adjust"∨kd=tx "pair":=by
  simp only [kindsL,List.mem_cons,List.not_mem_nil,or_false] at hk
  rcases hk with h | h | h | h | h | h | h | h <;> simp [h]
 walk_at "def 3"
 walk_at "g"
 rcases cases7 with rfl | rfl | rfl | rfl | rfl | rfl | rfl
 ·rw [show (tx "chain"==(Str.ofString "chain").cps.toList)=true by decide +kernel]
  walk_at "g"
  exact (w_law_chain pc h (by exact ar299 hn) eN hN fun σ' w back ins ahead r1 r2 r3 x l=>q σ' _ ⟨rfl,r1,r2,r3⟩ x (l.le (by exact ar300))).toW
 ·rw [show (tx "single"==(Str.ofString "chain").cps.toList)=false by decide +kernel]
  walk_at "g"
  refine (w_law_glyph pc h (by exact ar301 hn) fun σ1 g hg x1 h1=>?_).toW
  walk_at "g"
  rw [show (tx "single"==(Str.ofString "single").cps.toList)=true by decide +kernel]
  walk_at "g"
  refine (w_law_glyph pc h1 (by exact ar302 hn) fun σ2 g2 hg2 x2 h2=>?_).toW
  exact q σ2 (.single g g2) ⟨rfl,⟨hg,hg2⟩,trivial,by simp [rowUses]⟩ (x1.trans x2) (h2.le (by exact ar303))
 ·rw [show (tx "multiple"==(Str.ofString "chain").cps.toList)=false by decide +kernel]
  walk_at "g"
  refine (w_law_glyph pc h (by exact ar301 hn) fun σ1 g hg x1 h1=>?_).toW
  walk_at "g"
  rw [show (tx "multiple"==(Str.ofString "single").cps.toList)=false by decide +kernel]
  walk_at "g"
  rw [show (tx "multiple"==(Str.ofString "multiple").cps.toList)=true by decide +kernel]
  walk_at "g"
  intro M hM
  have hM':=Ext.fresh (σ:=σ1) (o:=MObj.list (([0,2,3]:List Int).map V.int)) hM
  refine im3 ?_ (h1.news hM)
  intro nP nC nG
  walk_at "g"
  refine (w_draw (many:=3) pc (h1.ext hM') (by exact ar302 hn) (by decide) (by decide) fun σ2 d hd x2 h2=>?_).toW
  obtain ⟨m,hm,om⟩:∃ m:Nat,(([0,2,3]:List Int).map V.int)[d]?=some (.int m)∧(m=0∨m=2∨m=3):=by
   match d,hd with
   | 0,_=>exact ⟨0,rfl,.inl rfl⟩
   | 1,_=>exact ⟨2,rfl,.inr (.inl rfl)⟩
   | 2,_=>exact ⟨3,rfl,.inr (.inr rfl)⟩
  refine TailW.list (fun _ _=>rfl) (.inl (x2 _ _ nP (upd_self _ _ _))) (by exact ar20) (by exact ar304 hd) (by rw [Int.toNat_natCast]; exact hm) ?_
  walk_at "g"
  refine EV.compE (by decide +kernel) (fun _ _=>rfl) ?_ ?_
  ·walk_at "cap"
  refine IT.range1 rfl (by decide +kernel) (gn_range pc) rfl ?_
  walk_at "g"
  refine xc1_3 m rfl (by exact ar305 om) ?_
  refine glyphs_comp pc (fun _=>trivial) (by exact ar306 om) (by exact ar307 hn) h2 (fun i x hx τ xp lw=>?_) fun D τ gs xp lw eD hl hA=>?_
  ·refine xc1_2 _ (CTg.nameE (by decide +kernel)) ?_
   refine im2 ?_ (rangeV_get hx)
   intro hi _
   walk_at "g"
   exact (w_law_glyph pc lw (by exact ar308 hn om hi) fun σ' g hg x l=>⟨⟨g,rfl,hg⟩,x,l⟩).toW
  walk_at "g"
  refine CallW.tupList (.inl eD) (by delta sizeLine; simp only [strVs,List.length_map]; exact ar309 om hl) ?_
  walk_at "g"
  refine q τ (.multiple g gs) ⟨rfl,⟨hg,?_,hA⟩,by show gs.length≤3; exact ar310 om hl,by simp [rowUses]⟩ (((x1.trans (Xp.of hM')).trans x2).trans xp) (lw.le (by exact ar311))
  rcases om with z | z | z
  ·exact .inl (List.eq_nil_of_length_eq_zero (by exact ar312 hl z))
  ·exact .inr ⟨by exact ar313 hl z,by exact ar314 hl z⟩
  ·exact .inr ⟨by exact ar315 hl z,by exact ar316 hl z⟩
 ·rw [show (tx "alternate"==(Str.ofString "chain").cps.toList)=false by decide +kernel]
  walk_at "g"
  refine (w_law_glyph pc h (by exact ar301 hn) fun σ1 g hg x1 h1=>?_).toW
  walk_at "g"
  rw [show (tx "alternate"==(Str.ofString "single").cps.toList)=false by decide +kernel]
  walk_at "g"
  rw [show (tx "alternate"==(Str.ofString "multiple").cps.toList)=false by decide +kernel]
  walk_at "g"
  rw [show (tx "alternate"==(Str.ofString "alternate").cps.toList)=true by decide +kernel]
  walk_at "g"
  refine (w_law_some (least:=1) (most:=3) pc h1 (by exact ar317 hn) (by decide) (by decide) (by decide) fun σ2 gs ok hz x2 h2=>?_).toW
  walk_at "g"
  exact q σ2 (.alternate g gs) ⟨rfl,⟨hg,ok⟩,by show gs.length≤3; exact ar318 hz,by simp [rowUses]⟩ (x1.trans x2) (h2.le (by exact ar311))
 ·rw [show (tx "ligature"==(Str.ofString "chain").cps.toList)=false by decide +kernel]
  walk_at "g"
  refine (w_law_glyph pc h (by exact ar301 hn) fun σ1 g hg x1 h1=>?_).toW
  walk_at "g"
  rw [show (tx "ligature"==(Str.ofString "single").cps.toList)=false by decide +kernel]
  walk_at "g"
  rw [show (tx "ligature"==(Str.ofString "multiple").cps.toList)=false by decide +kernel]
  walk_at "g"
  rw [show (tx "ligature"==(Str.ofString "alternate").cps.toList)=false by decide +kernel]
  walk_at "g"
  rw [show (tx "ligature"==(Str.ofString "ligature").cps.toList)=true by decide +kernel]
  walk_at "g"
  refine EV.compE (by decide +kernel) (fun _ _=>rfl) ?_ ?_
  ·walk_at "cap"
  refine IT.range1 rfl (by decide +kernel) (gn_range pc) rfl ?_
  walk_at "g"
  refine (w_draw (many:=2) pc h1 (by exact ar302 hn) (by decide) (by decide) fun σ2 d hd x2 h2=>?_).toW
  walk_at "g"
  refine xc1_3 (1+d) (by simp) (by exact ar267 hd) ?_
  refine glyphs_comp (m:=1+d) pc (fun _=>trivial) (by exact ar319 hd) (by exact ar307 hn) h2 (fun i x hx τ xp lw=>?_) fun D τ gs xp lw eD hl hA=>?_
  ·refine xc1_2 _ (CTg.nameE (by decide +kernel)) ?_
   refine im2 ?_ (rangeV_get hx)
   intro hi _
   walk_at "g"
   exact (w_law_glyph pc lw (by exact ar320 hn hd hi) fun σ' g hg x l=>⟨⟨g,rfl,hg⟩,x,l⟩).toW
  walk_at "g"
  refine CallW.tupList (.inl eD) (by delta sizeLine; simp only [strVs,List.length_map]; exact ar271 hd hl) ?_
  walk_at "g"
  refine Op2.addTup (by simp) (by simp [strVs]; intro z; rw [z] at hl; simp at hl; exact ar321 hl) (by delta sizeLine; simp [strVs]; exact ar322 hd hl) ?_
  walk_at "g"
  refine (w_law_glyph pc lw (by exact ar323 hn) fun σ3 g3 hg3 x3 h3=>?_).toW
  refine q σ3 (.ligature (g::gs) g3) ⟨rfl,⟨by simp; exact ar324 hl,by simp; exact ar325 hd hl,?_,hg3⟩,by show (g::gs).length≤3; simp; exact ar326 hd hl,by simp [rowUses]⟩ (((x1.trans x2).trans xp).trans x3) (h3.le (by exact ar327))
  intro a ha
  rcases List.mem_cons.mp ha with rfl | ha
  ·exact hg
  ·exact hA a ha
 ·rw [show (tx "adjust"==(Str.ofString "chain").cps.toList)=false by decide +kernel]
  walk_at "g"
  refine (w_law_glyph pc h (by exact ar301 hn) fun σ1 g hg x1 h1=>?_).toW
  walk_at "g"
  rw [show (tx "adjust"==(Str.ofString "single").cps.toList)=false by decide +kernel]
  walk_at "g"
  rw [show (tx "adjust"==(Str.ofString "multiple").cps.toList)=false by decide +kernel]
  walk_at "g"
  rw [show (tx "adjust"==(Str.ofString "alternate").cps.toList)=false by decide +kernel]
  walk_at "g"
  rw [show (tx "adjust"==(Str.ofString "ligature").cps.toList)=false by decide +kernel]
  walk_at "g"
  rw [show (tx "adjust"==(Str.ofString "adjust").cps.toList)=true by decide +kernel]
  walk_at "g"
  refine (w_law_worth pc h1 (by exact ar317 hn) fun σ2 w ow x2 h2=>?_).toW
  walk_at "g"
  exact q σ2 (.adjust g w) ⟨rfl,⟨hg,ow⟩,trivial,by simp [rowUses]⟩ (x1.trans x2) (h2.le (by exact ar328))
 ·rw [show (tx "pair"==(Str.ofString "chain").cps.toList)=false by decide +kernel]
  walk_at "g"
  refine (w_law_glyph pc h (by exact ar301 hn) fun σ1 g hg x1 h1=>?_).toW
  walk_at "g"
  rw [show (tx "pair"==(Str.ofString "single").cps.toList)=false by decide +kernel]
  walk_at "g"
  rw [show (tx "pair"==(Str.ofString "multiple").cps.toList)=false by decide +kernel]
  walk_at "g"
  rw [show (tx "pair"==(Str.ofString "alternate").cps.toList)=false by decide +kernel]
  walk_at "g"
  rw [show (tx "pair"==(Str.ofString "ligature").cps.toList)=false by decide +kernel]
  walk_at "g"
  rw [show (tx "pair"==(Str.ofString "adjust").cps.toList)=false by decide +kernel]
  walk_at "g"
  refine (w_law_glyph pc h1 (by exact ar302 hn) fun σ2 g2 hg2 x2 h2=>?_).toW
  walk_at "g"
  refine (w_law_worth pc h2 (by exact ar329 hn) fun σ3 w ow x3 h3=>?_).toW
  walk_at "g"
  exact q σ3 (.pair g g2 w) ⟨rfl,⟨hg,hg2,ow⟩,trivial,by simp [rowUses]⟩ ((x1.trans x2).trans x3) (h3.le (by exact ar330))
end
section
variable {c:Cx} {k:Nat} {σ σ₀:St} {Q:V→St→Prop}
theorem w_law_left (pc:PC c) {row:RowD} (q:Q (leftV row) σ):CallC c (k+1) (.ref 514) [rowV row] σ Q:=by
 revert pc q
 revert c; revert k; revert σ; revert Q; revert row
 walk_at "close 5"
 intro row Q σ k c pc q
 show CallC c _ _ [.tup [.str (kindT row),.tup (partsV row)]] σ Q
 walk_at "def 1"
 walk_at "g"
 refine TailW.tup (m:=0) (fun _ _=>rfl) (by decide) (by decide) rfl rfl ?_
 walk_at "g"
 rw [show (kindT row==(Str.ofString "chain").cps.toList)=isChain row from kind_chain row]
 cases hc:isChain row with
 | true =>
  walk_at "g"
  cases row with
  | chain w b i a=>exact q
  | _=>cases hc
 | false =>
  walk_at "g"
  refine TailW.tup (m:=0) (fun _ _=>rfl) (by decide) (by decide) rfl rfl ?_
  walk_at "g"
  rw [show (kindT row==(Str.ofString "pair").cps.toList)=_ from kind_pair row]
  have two:(partsV row).length < 2 ^ 24:=by cases row <;> simp [partsV]
  cases row with
  | chain w b i a=>cases hc
  | pair a b w =>
   walk_at "g"
   refine TailW.tup (m:=1) (fun _ _=>rfl) (by decide) (by decide) rfl rfl ?_
   walk_at "g"
   refine CutW.tup (by delta sizeLine; exact ar53 two) ?_
   rw [show (some (2:Int))=some ((2:Nat):Int) from rfl,cut_take _ 2 (by simp [partsV])]
   exact q
  | adjust a w =>
   walk_at "g"
   refine TailW.tup (m:=1) (fun _ _=>rfl) (by decide) (by decide) rfl rfl ?_
   walk_at "g"
   refine CutW.tup (by delta sizeLine; exact ar53 two) ?_
   rw [show (some (1:Int))=some ((1:Nat):Int) from rfl,cut_take _ 1 (by simp [partsV])]
   exact q
  | single a b =>
   walk_at "g"
   refine TailW.tup (m:=1) (fun _ _=>rfl) (by decide) (by decide) rfl rfl ?_
   walk_at "g"
   refine CutW.tup (by delta sizeLine; exact ar53 two) ?_
   rw [show (some (1:Int))=some ((1:Nat):Int) from rfl,cut_take _ 1 (by simp [partsV])]
   exact q
  | multiple a b =>
   walk_at "g"
   refine TailW.tup (m:=1) (fun _ _=>rfl) (by decide) (by decide) rfl rfl ?_
   walk_at "g"
   refine CutW.tup (by delta sizeLine; exact ar53 two) ?_
   rw [show (some (1:Int))=some ((1:Nat):Int) from rfl,cut_take _ 1 (by simp [partsV])]
   exact q
  | alternate a b =>
   walk_at "g"
   refine TailW.tup (m:=1) (fun _ _=>rfl) (by decide) (by decide) rfl rfl ?_
   walk_at "g"
   refine CutW.tup (by delta sizeLine; exact ar53 two) ?_
   rw [show (some (1:Int))=some ((1:Nat):Int) from rfl,cut_take _ 1 (by simp [partsV])]
   exact q
  | ligature a b =>
   walk_at "g"
   refine TailW.tup (m:=1) (fun _ _=>rfl) (by decide) (by decide) rfl rfl ?_
   walk_at "g"
   refine CutW.tup (by delta sizeLine; exact ar53 two) ?_
   rw [show (some (1:Int))=some ((1:Nat):Int) from rfl,cut_take _ 1 (by simp [partsV])]
   exact q
end
theorem flag_menu {d:Nat} (h:d < 4):∃ fl:Nat,(([0,8,65535,256]:List Int).map V.int)[d]?=some (.int fl)∧numOkB (numT fl) fl=true∧fl≤65535:=by
 have z:numOkB (numT (0:Nat)) (0:Nat)=true∧numOkB (numT (8:Nat)) (8:Nat)=true∧numOkB (numT (65535:Nat)) (65535:Nat)=true∧numOkB (numT (256:Nat)) (256:Nat)=true:=by decide +kernel
 match d,h with
 | 0,_=>exact ⟨0,rfl,z.1,by decide⟩
 | 1,_=>exact ⟨8,rfl,z.2.1,by decide⟩
 | 2,_=>exact ⟨65535,rfl,z.2.2.1,by decide⟩
 | 3,_=>exact ⟨256,rfl,z.2.2.2,by decide⟩
theorem head_of_kind {a b:RowD} (h:kindT a=kindT b) (hc:isChain a=false):rowHead a=rowHead b:=by
 cases a <;> cases b <;> first | rfl | (cases hc; done) | (exfalso; simp only [kindT] at h; exact absurd h (by decide +kernel))
theorem cut_tail {α:Type} (x:α) (l:List α):cutL (x::l) (some 1) none=l:=by
 unfold cutL clipN
 simp only [Option.elim]
 rw [show (1:Int)=((1:Nat):Int) from rfl,clip_nat (by simp)]
 simp
theorem V.depth_tup (vs:List V):(V.tup vs).py.depth=PyData.depthAll (V.pys vs)+1:=rfl
theorem depths_cons (v:V) (vs:List V):PyData.depthAll (V.pys (v::vs))=max v.py.depth (PyData.depthAll (V.pys vs)):=rfl
theorem depths_str:∀ ls:List (List Nat),PyData.depthAll (V.pys (strVs ls))≤2
 | []=>by show PyData.depthAll []≤2; simp [PyData.depthAll]
 | x::r=>by
  have ih:=depths_str r
  rw [show strVs (x::r)=V.str x::strVs r from rfl,depths_cons]
  have:(V.str x).py.depth≤2:=by show PyData.depth (.str (S x))≤2; simp [PyData.depth]
  exact ar331 ih this
theorem glyph_ch {g:List Nat} (h:g∈c_glyphs):chOk g=true:=by
 have:∀ g∈c_glyphs,chOk g=true:=by decide +kernel
 exact this g h
theorem left_one {a:List Nat} (h:chOk a=true):(V.tup [.str a]).ok=true∧(V.tup [.str a]).py.depth≤64:=by
 refine ⟨?_,?_⟩
 ·show ((V.str a).ok&&true)=true
  rw [ok_str h]
  rfl
 ·have:=depths_str [a]
  rw [V.depth_tup]
  show PyData.depthAll (V.pys (strVs [a]))+1≤64
  exact ar332 this
theorem left_ok {row:RowD} (ok:RowOk row) (hc:isChain row=false):(leftV row).ok=true∧(leftV row).py.depth≤64:=by
 cases row with
 | chain w b i a=>cases hc
 | single a b=>exact left_one (glyph_ch ok.1)
 | multiple a b=>exact left_one (glyph_ch ok.1)
 | alternate a b=>exact left_one (glyph_ch ok.1)
 | adjust a w=>exact left_one (glyph_ch ok.1)
 | ligature as b =>
  have ha:as.all chOk=true:=List.all_eq_true.mpr fun x hx=>glyph_ch (ok.2.2.1 x hx)
  show (V.tup [.tup (strVs as)]).ok=true∧(V.tup [.tup (strVs as)]).py.depth≤64
  refine ⟨?_,?_⟩
  ·show (V.oks (strVs as)&&true)=true
   rw [oks_strs ha]
   rfl
  ·have:=depths_str as
   rw [V.depth_tup,depths_cons,V.depth_tup]
   have e0:PyData.depthAll (V.pys [])=0:=by show PyData.depthAll []=0; simp [PyData.depthAll]
   exact ar333 this e0
 | pair a b w =>
  have ha:[a,b].all chOk=true:=List.all_eq_true.mpr fun x hx=>by
   simp only [List.mem_cons,List.not_mem_nil,or_false] at hx
   rcases hx with rfl | rfl
   ·exact glyph_ch ok.1
   ·exact glyph_ch ok.2.1
  show (V.tup (strVs [a,b])).ok=true∧(V.tup (strVs [a,b])).py.depth≤64
  refine ⟨oks_strs ha,?_⟩
  have:=depths_str [a,b]
  rw [V.depth_tup]
  exact ar332 this
theorem oks_of {vs:List V} (h:∀ v∈vs,v.ok=true):V.oks vs=true:=by
 induction vs with
 | nil=>rfl
 | cons v r ih =>
  show (v.ok&&V.oks r)=true
  rw [h v (List.mem_cons_self ..),ih fun x hx=>h x (List.mem_cons_of_mem _ hx)]; rfl
theorem chain_of_kind {a b:RowD} (h:kindT a=kindT b):isChain a=isChain b:=by rw [← kind_chain a,← kind_chain b,h]
theorem left_none (row:RowD):(leftV row).isNone=isChain row:=by cases row <;> rfl
theorem left_nostat (row:RowD):∀ w,leftV row≠.stat w:=by intro w h; cases row <;> cases h
theorem uses_small:∀ {row:RowD},RowSmall row→(rowUses row).length≤4:=by
 intro row h
 cases row with
 | chain w back ins ahead =>
  refine im6 ?_ (h)
  intro _ h2 _ _ h5 _
  show ((ins.map (·.2)).flatten).length≤4
  cases ins with
  | nil=>exact Nat.zero_le _
  | cons p r=>cases r with
   | nil=>have:=(h5 p (by simp)).2; simp; exact ar334 this
   | cons q r=>cases r with
    | nil =>
     have:=(h5 p (by simp)).2
     have:=(h5 q (by simp)).2
     simp
     exact ar335 (by assumption) this
    | cons=>simp at h2
 | _=>exact Nat.zero_le _
section
variable {c:Cx} {k:Nat} {σ σ₀:St} {Q:V→St→Prop}
set_option maxHeartbeats 4000000 in
theorem w_law_lookup (pc:PC c) {P C N:Addr} {n:Nat} {nms:List (List Nat)} {name:List Nat} (h:Lw σ P C n) (hn:n < 500000) (eN:σ N=some (.list (strVs nms))) (hN:Nms nms) (hnm:isName name=true)
  (q:∀ σ' l,l.name=name→LookOk l→l.rows.length≤2→(∀ row∈l.rows,RowSmall row)→(∀ u∈lookUses l,u∈nms)→Xp P σ σ'→Lw σ' P C (n+110)→Q (lookV l) σ'):CallC c (k+9) (.ref 519) [.ref P,.str name,.ref N] σ Q:=by
 revert pc h hn eN hN hnm q
 revert c; revert k; revert σ; revert Q; revert N; revert P; revert n; revert C nms name
 walk_at "close 10"
 intro C nms name n P N Q σ k c pc h hn eN hN hnm q
 walk_at "def 3"
 walk_at "g"
 refine (w_law_kinds pc fun σ1 L x1 eL=>?_).toW
 walk_at "g"
 have nL:=(h.ext x1).neL eL
 refine (w_draw (many:=8) pc (h.ext x1) (by exact ar336 hn) (by decide) (by decide) fun σ2 d hd x2 h2=>?_).toW
 obtain ⟨kd,hkd,okd⟩:∃ kd,(strVs kindsL)[d]?=some (.str kd)∧kd∈kindsL:=by
  have h8:d < kindsL.length:=hd
  exact xc1_2 (kindsL[d]) (by unfold strVs; rw [List.getElem?_map,List.getElem?_eq_getElem h8]; rfl) (List.getElem_mem _)
 refine TailW.list (fun _ _=>rfl) (.inl (x2 _ _ nL eL)) (by exact ar20) (by exact ar337 hd) (by rw [Int.toNat_natCast]; exact hkd) ?_
 walk_at "g"
 intro R hR
 have hR':=Ext.fresh (σ:=σ2) (o:=MObj.list []) hR
 refine im3 ?_ (h2.news hR)
 intro nP nC nG
 walk_at "g"
 refine SV.for (fun _ _=>rfl) ?_
 refine IT.range1 rfl (by decide +kernel) (gn_range pc) rfl ?_
 walk_at "g"
 refine (w_draw (many:=2) pc (h2.ext hR') (by exact ar338 hn) (by decide) (by decide) fun σ3 m hm x3 h3=>?_).toW
 walk_at "g"
 refine xc1_3 (1+m) (by simp) (by exact ar267 hm) ?_
 have xa:Xp P σ σ3:=(((Xp.of x1).trans x2).trans (Xp.of hR')).trans x3
 have nNP:=h.neL eN
 have hR0:σ R=none:=((Xp.of x1).trans x2).none nP hR
 refine xc1_4 (fun i ρ' σ'=>ρ' "pen"=some (.ref P)∧ρ' "names"=some (.ref N)∧ρ' "name"=some (.str name)∧ρ' "kind"=some (.str kd)∧ρ' "rows"=some (.ref R)∧Xp P σ σ'∧Lw σ' P C (n+1+1+50 * i)∧∃ rs,σ' R=some (.list (rs.map rowV))∧rs.length≤i∧(0 < i→rs≠[])∧(∀ r∈rs,LawRow nms kd r)∧∀ (j:Nat) row,rs[j]?=some row→RowFits (rs.take j) row) ⟨?_,?_,?_,?_,?_,xa,h3,[],by rw [x3 _ _ nP (upd_self _ _ _)]; rfl,by simp,fun z=>absurd z (by decide),by simp,by simp⟩ (fun _ _ _ _=>trivial) ?_ ?_
 ·walk_at "loc"
 ·walk_at "loc"
 ·walk_at "loc"
 ·walk_at "loc"
 ·walk_at "loc"
 ·intro i ρ' σ' x hx
  refine im8 ?_
  intro l1 l2 l3 l4 l5 xi lw
  refine xi1 ?_
  intro rs
  refine im5 ?_
  intro eR rz rne rok rfit
  refine im2 ?_ (rangeV_get hx)
  intro hi hq110
  obtain rfl:=hq110
  walk_at "g"
  refine (w_law_row pc lw (by exact ar339 hn hm hi) (xi _ _ nNP eN) hN okd fun σ4 row lr x4 h4=>?_).toW
  walk_at "st"
  walk_at "st"
  have eR4:=x4 _ _ nP eR
  have xi4:=xi.trans x4
  refine SV.mono (N:=fun ρ₂ σ₂=>ρ₂ "pen"=some (.ref P)∧ρ₂ "names"=some (.ref N)∧ρ₂ "name"=some (.str name)∧ρ₂ "kind"=some (.str kd)∧ρ₂ "rows"=some (.ref R)∧∃ row',ρ₂ "row"=some (rowV row')∧LawRow nms kd row'∧(∀ r0,rs[0]?=some r0→kindT row'=kindT r0∧rowHead row'=rowHead r0)∧Ext σ4 σ₂) (R:=_) ?_ ?_ (fun _ _ r=>r)
  ·walk_at "g"
   by_cases hk:kd=tx "chain"
   ·rw [show (kd==(Str.ofString "chain").cps.toList)=true by rw [hk]; decide +kernel]
    walk_at "g"
    intro E hE
    have hE':=Ext.fresh (σ:=σ4) (o:=MObj.list []) hE
    refine Op2.neNil (.inl (hE' _ _ eR4)) (.inl (upd_self _ _ _)) ?_
    cases rs with
    | nil =>
     rw [show (!(([]:List RowD).map rowV).isEmpty)=false from rfl]
     walk_at "g"
     refine ⟨?_,?_,?_,?_,?_,row,?_,lr,by simp,hE'⟩ <;> walk_at "loc"
    | cons r0 t =>
     rw [show (!((r0::t).map rowV).isEmpty)=true from rfl]
     have lr0:=rok r0 (List.mem_cons_self ..)
     obtain ⟨w0,b0,i0,a0,rfl⟩:∃ w0 b0 i0 a0,r0=.chain w0 b0 i0 a0:=by
      have:=kind_chain r0
      rw [lr0.kind,hk] at this
      cases r0 with
      | chain w b i a=>exact ⟨_,_,_,_,rfl⟩
      | _=>simp [isChain] at this
     obtain ⟨w1,b1,i1,a1,rfl⟩:∃ w1 b1 i1 a1,row=.chain w1 b1 i1 a1:=by
      have:=kind_chain row
      rw [lr.kind,hk] at this
      cases row with
      | chain w b i a=>exact ⟨_,_,_,_,rfl⟩
      | _=>simp [isChain] at this
     walk_at "g"
     refine TailW.list (j:=0) (x:=rowV (.chain w0 b0 i0 a0)) (fun _ _=>rfl) (.inl (hE' _ _ eR4)) (by decide) (by decide) rfl ?_
     walk_at "g"
     refine TailW.tup (m:=1) (fun _ _=>rfl) (by decide) (by decide) rfl rfl ?_
     walk_at "g"
     refine TailW.tup (m:=0) (fun _ _=>rfl) (by decide) (by decide) rfl rfl ?_
     walk_at "g"
     refine TailW.tup (m:=1) (fun _ _=>rfl) (by decide) (by decide) rfl rfl ?_
     walk_at "g"
     refine CutW.tup (by delta sizeLine; exact (by decide:5≤2 ^ 24)) ?_
     rw [show partsV (.chain w1 b1 i1 a1)=V.str w1::[setsV b1,setsV (i1.map (·.1)),setsV a1,.tup ((acts 0 i1).map actV)] from rfl,cut_tail]
     refine Op2.addTup (by simp) (by simp) (by delta sizeLine; exact (by decide:5≤2 ^ 24)) ?_
     walk_at "g"
     refine xc0_6 ?_ ?_ ?_ ?_ ?_ (xc1_4 (.chain w0 b1 i1 a1) ?_ ⟨hk.symm ▸ rfl,⟨lr0.ok.1,lr.ok.2⟩,lr.small,lr.uses⟩ (fun r hr=>by cases hr; exact ⟨rfl,rfl⟩) hE')
     ·walk_at "loc"
     ·walk_at "loc"
     ·walk_at "loc"
     ·walk_at "loc"
     ·walk_at "loc"
     ·rw [setL_same,hk]
      rfl
   ·rw [show (kd==(Str.ofString "chain").cps.toList)=false from beq_eq_false_iff_ne.mpr hk]
    walk_at "g"
    refine xc0_6 ?_ ?_ ?_ ?_ ?_ (xc1_4 row ?_ lr (fun r0 h0=>?_) (Ext.refl _))
    ·walk_at "loc"
    ·walk_at "loc"
    ·walk_at "loc"
    ·walk_at "loc"
    ·walk_at "loc"
    ·walk_at "loc"
    ·have e1:=(rok r0 (List.mem_of_getElem? h0)).kind
     have e2:kindT row=kindT r0:=by rw [lr.kind,e1]
     refine ⟨e2,head_of_kind e2 ?_⟩
     have:=kind_chain row
     rw [lr.kind] at this
     rw [← this]
     exact beq_eq_false_iff_ne.mpr hk
  ·intro ρ₂ σ₂
   refine im6 ?_
   intro k1 k2 k3 k4 k5
   refine xi1 ?_
   intro row'
   refine im4 ?_
   intro k6 lr' hd' x6
   have eR5:=x6 _ _ eR4
   have h5:=h4.ext x6
   have xi5:=xi4.trans (Xp.of x6)
   have lall:∀ r∈rs++[row'],LawRow nms kd r:=fun r hr=>by
    rcases List.mem_append.mp hr with z | z
    ·exact rok r z
    ·rw [List.mem_singleton.mp z]
     exact lr'
   have hfit:∀ {τ:St},Ext σ₂ τ→RowFits rs row'→(ρ₂ "pen"=some (.ref P)∧ρ₂ "names"=some (.ref N)∧ρ₂ "name"=some (.str name)∧ρ₂ "kind"=some (.str kd)∧ρ₂ "rows"=some (.ref R)∧Xp P σ (upM τ R (.list (rs.map rowV++[rowV row'])))∧Lw (upM τ R (.list (rs.map rowV++[rowV row']))) P C (n+1+1+50 * (i+1))∧∃ rs',upM τ R (.list (rs.map rowV++[rowV row'])) R=some (.list (rs'.map rowV))∧rs'.length≤i+1∧(0 < i+1→rs'≠[])∧(∀ r∈rs',LawRow nms kd r)∧∀ (j:Nat) row,rs'[j]?=some row→RowFits (rs'.take j) row):=fun {τ} xt ft=>by
    refine xc0_8 k1 k2 k3 k4 k5 ((xi5.trans (Xp.of xt)).bump hR0) (((h5.ext xt).put nP nC nG).le (by exact ar340)) (xc1_5 (rs++[row']) (by rw [upd_self,List.map_append]; rfl) (by simp; exact ar239 rz) (by simp) lall (fun j row hj=>?_))
    by_cases hlt:j < rs.length
    ·rw [List.getElem?_append_left hlt] at hj
     rw [List.take_append_of_le_length (by exact ar341 hlt)]; exact rfit j row hj
    ·rw [List.getElem?_append_right (by exact ar246 hlt)] at hj
     have hj0:j - rs.length=0:=by
      cases hq:j - rs.length with
      | zero=>rfl
      | succ m=>rw [hq] at hj; simp at hj
     rw [hj0] at hj
     cases hj
     rw [show j=rs.length by exact ar342 hlt hj0,List.take_left']
     ·exact ft
     ·rfl
   walk_at "g"
   refine (w_law_left pc ?_).toW
   walk_at "g"
   refine Op2.isNone (left_nostat row') ?_
   rw [left_none]
   cases hc:isChain row' with
   | true =>
    walk_at "g"
    refine xc1_2 _ (MethR.append (.inl eR5)) ?_
    walk_at "g"
    refine CallW.append eR5 (by delta sizeLine; rw [List.length_map]; exact ar343 hm rz hi) ?_
    refine ⟨rfl,?_⟩
    walk_at "g"
    exact hfit (Ext.refl _) ⟨hd',fun z=>by rw [hc] at z; cases z⟩
   | false =>
    walk_at "g"
    refine (w_law_left pc ?_).toW
    walk_at "g"
    refine EV.compE (by decide +kernel) (fun _ _=>rfl) ?_ ?_
    ·walk_at "cap"
    refine IT.list ?_
    walk_at "g"
    refine xc2_3 R (rs.map rowV) rfl (.inl eR5) ?_
    refine CompQ.list (rs.map leftV) (by simp) (by rw [List.length_map]; exact ar343 hm rz hi) (okList eR5) (fun i x y hx hy τ ex=>?_) fun D τ hD ex eD=>?_
    ·rw [List.getElem?_map] at hx hy
     cases hr:rs[i]? with
     | none=>rw [hr] at hx; cases hx
     | some r =>
     rw [hr] at hx hy
     cases hx; cases hy
     refine xc1_2 _ (CTg.nameE (by decide +kernel)) ?_
     walk_at "g"
     exact (w_law_left pc ⟨rfl,Ext.refl _⟩).toW
    have lo:=left_ok lr'.ok hc
    have oks:V.oks (rs.map leftV)=true:=oks_of fun v hv=>by
     refine xi1 ?_ (List.mem_map.mp hv)
     intro r
     refine im2 ?_
     intro hr hq111
     obtain rfl:=hq111
     refine (left_ok (rok r hr).ok ?_).1
     rw [← hc]
     exact chain_of_kind (by rw [(rok r hr).kind,lr'.kind])
    refine Op2.notInList (.inl eD) lo.1 oks lo.2 ?_
    cases hv:vin (leftV row') (rs.map leftV) with
    | false =>
     walk_at "g"
     refine xc1_2 _ (MethR.append (.inl (ex _ _ eR5))) ?_
     walk_at "g"
     refine CallW.append (ex _ _ eR5) (by delta sizeLine; rw [List.length_map]; exact ar343 hm rz hi) ?_
     refine ⟨rfl,?_⟩
     walk_at "g"
     exact hfit ex ⟨hd',fun _=>⟨lo.1,lo.2,oks,hv⟩⟩
    | true =>
     walk_at "g"
     refine xc0_8 k1 k2 k3 k4 k5 (xi5.trans (Xp.of ex)) ((h5.ext ex).le (by exact ar340)) (xc1_5 rs (ex _ _ eR5) (by exact ar224 rz) (fun _ z=>?_) rok rfit)
     rw [z] at hv
     cases hv
 ·intro ρ' σ'
  refine im8 ?_
  intro l1 l2 l3 l4 l5 xi lw
  refine xi1 ?_
  intro rs
  refine im5 ?_
  intro eR rz rne rok rfit
  rw [rangeV_len] at lw rz rne
  walk_at "g"
  intro M hM
  have hM':=Ext.fresh (σ:=σ') (o:=MObj.list (([0,8,65535,256]:List Int).map V.int)) hM
  refine im3 ?_ (lw.news hM)
  intro mP mC mG
  walk_at "g"
  refine (w_draw (many:=4) pc (lw.ext hM') (by exact ar344 hn hm) (by decide) (by decide) fun σ5 df hdf x5 h5=>?_).toW
  refine xi1 ?_ (flag_menu hdf)
  intro fl
  refine im3 ?_
  intro hfl ofl ofm
  refine TailW.list (fun _ _=>rfl) (.inl (x5 _ _ mP (upd_self _ _ _))) (by exact ar20) (by exact ar252 hdf) (by rw [Int.toNat_natCast]; exact hfl) ?_
  walk_at "g"
  refine CallW.tupList (.inl (x5 _ _ nP (hM' _ _ eR))) (by delta sizeLine; rw [List.length_map]; exact ar345 hm rz) ?_
  walk_at "g"
  have uses2:∀ u∈(rs.map rowUses).flatten,u∈nms:=fun u hu=>by
   refine xi1 ?_ (List.mem_flatten.mp hu)
   intro l
   refine im2 ?_
   intro hl hu
   refine xi1 ?_ (List.mem_map.mp hl)
   intro r
   refine im2 ?_
   intro hr hq112
   obtain rfl:=hq112
   exact (rok r hr).uses u hu
  have uz:((rs.map rowUses).flatten).length≤4 * rs.length:=by
   clear eR rz rne rfit uses2 
   induction rs with
   | nil=>exact Nat.zero_le _
   | cons r t ih =>
    have:=ih fun r' hr'=>rok r' (List.mem_cons_of_mem _ hr')
    have:=uses_small (rok r (List.mem_cons_self ..)).small
    rw [List.map_cons,List.flatten_cons,List.length_append,List.length_cons]
    exact ar346 (by assumption) this
  exact q σ5 ⟨name,fl,rs⟩ rfl ⟨hnm,ofl,ofm,rne (by exact ar347),by show rs.length < 100; exact ar348 hm rz,fun r hr=>(rok r hr).ok,rfit,by show ((rs.map rowUses).flatten).length < 50000; exact ar349 hm rz uz⟩ (by show rs.length≤2; exact ar350 hm rz) (fun r hr=>(rok r hr).small) uses2 ((xi.trans (Xp.of hM')).trans x5) (h5.le (by exact ar351 hm))
end
theorem str_menu {l:List (List Nat)} {d:Nat} (h:d < l.length):∃ w,(strVs l)[d]?=some (.str w)∧w∈l∧l[d]?=some w :=
 ⟨l[d],by unfold strVs; rw [List.getElem?_map,List.getElem?_eq_getElem h]; rfl,List.getElem_mem _,List.getElem?_eq_getElem h⟩
noncomputable def nms3:List (List Nat):=[tx "L0",tx "liga",tx "k.2"]
noncomputable def tagM:List (List Nat):=[tx "liga",tx "ss01",tx "k",tx "_x"]
noncomputable def scrM:List (List Nat):=[tx "DFLT",tx "latn",tx "arab"]
noncomputable def lanM:List (List Nat):=[tx "dflt",tx "DEU"]
structure LawLook (nms:List (List Nat)) (l:LookD):Prop where
 ok:LookOk l
 len:l.rows.length≤2
 small:∀ row∈l.rows,RowSmall row
 uses:∀ u∈lookUses l,u∈nms
structure LawFeat (nms:List (List Nat)) (f:FeatD):Prop where
 tag:f.tag∈tagM
 script:f.script∈scrM
 language:f.language∈lanM
 ne:f.uses≠[]
 len:f.uses.length≤2
 uses:∀ u∈f.uses,u∈nms
structure LawTree (ls:List LookD) (fs:List FeatD):Prop where
 names:∃ m,0 < m∧m≤3∧namesOf ls=nms3.take m
 looks:∀ l∈ls,LawLook (namesOf ls) l
 feats:∀ f∈fs,LawFeat (namesOf ls) f
 lenF:fs.length≤2
theorem nms3_take {m:Nat} (h0:0 < m) (h:m≤3):Nms (nms3.take m)∧(nms3.take m).length=m:=by
 have nm:∀ u∈nms3,isName u=true:=by decide +kernel
 have hl:(nms3.take m).length=m:=by rw [List.length_take]; show min m 3=m; exact ar352 h
 exact ⟨⟨fun e=>by rw [e] at hl; simp at hl; exact ar353 h0 hl,by exact ar354 h hl,fun u hu=>nm u (List.mem_of_mem_take hu)⟩,hl⟩
theorem collectI {α:Type} {f:α→V} {p:Nat→α→Prop}:∀ {ys:List V} (n:Nat),(∀ (i:Nat) y,ys[i]?=some y→∃ a,y=f a∧p (n+i) a)→∃ as:List α,ys=as.map f∧∀ (i:Nat) a,as[i]?=some a→p (n+i) a:=by
 intro ys
 induction ys with
 | nil =>
  intro _ _
  exact ⟨[],rfl,by simp⟩
 | cons y r ih =>
  intro n h
  refine xi1 ?_ (h 0 y rfl)
  intro a
  refine im2 ?_
  intro hq113
  obtain rfl:=hq113
  intro pa
  obtain ⟨as,rfl,ps⟩:=ih (n+1) fun i y e=>by
   have:=h (i+1) y e
   rw [show n+1+i=n+(i+1) by exact ar75]; exact this
  refine xc1_2 (a::as) rfl (fun i b hb=>?_)
  cases i with
  | zero=>cases hb; exact pa
  | succ i=>have:=ps i b hb; rw [show n+(i+1)=n+1+i by exact ar0]; exact this
section
variable {c:Cx} {k:Nat} {σ σ₀:St} {Q:V→St→Prop}
set_option maxHeartbeats 4000000 in
theorem w_law_told_tree (pc:PC c) {P C:Addr} {n:Nat} (h:Lw σ P C n) (hn:n < 1000)
  (q:∀ σ' ls fs,LawTree ls fs→Xp P σ σ'→Lw σ' P C (n+400)→Q (treeV ls fs) σ'):CallC c (k+11) (.ref 524) [.ref P] σ Q:=by
 revert pc h hn q
 revert c; revert k; revert σ; revert Q; revert P; revert n; revert C
 walk_at "close 7"
 intro C n P Q σ k c pc h hn q
 walk_at "def 1"
 walk_at "g"
 intro M hM
 have hM':=Ext.fresh (σ:=σ) (o:=MObj.list (strVs nms3)) hM
 refine im3 ?_ (h.news hM)
 intro nP nC nG
 walk_at "g"
 refine (w_draw (many:=3) pc (h.ext hM') (by exact ar355 hn) (by decide) (by decide) fun σ1 d hd x1 h1=>?_).toW
 walk_at "g"
 have eM1:σ1 M=some (.list (strVs nms3)):=x1 _ _ nP (upd_self _ _ _)
 refine CutW.list (.inl eM1) (by delta sizeLine; decide) fun N hN=>?_
 refine im2 ?_ (nms3_take (m:=1+d) (by exact ar347) (by exact ar356 hd))
 intro hNms hNl
 have ecut:cutL (strVs nms3) none (some (1+(d:Int)))=strVs (nms3.take (1+d)):=by
  rw [show (1:Int)+(d:Int)=((1+d:Nat):Int) by exact ar357,cut_take _ _ (by show 1+d≤3; exact ar356 hd)]
  unfold strVs; rw [List.map_take]
 rw [ecut]
 generalize hnms:nms3.take (1+d)=nms at hNms hNl
 have hN':=Ext.fresh (σ:=σ1) (o:=MObj.list (strVs nms)) hN
 refine im3 ?_ (h1.news hN)
 intro mP mC mG
 have h2:=h1.ext hN'
 have x2:Xp P σ (upM σ1 N (.list (strVs nms))):=((Xp.of hM').trans x1).trans (Xp.of hN')
 have eN:upM σ1 N (.list (strVs nms)) N=some (.list (strVs nms)):=upd_self _ _ _
 generalize upM σ1 N (.list (strVs nms))=σ2 at h2 x2 eN ⊢
 walk_at "g"
 refine EV.compE (by decide +kernel) (fun _ _=>rfl) ?_ ?_
 ·walk_at "cap"
 refine IT.list ?_
 walk_at "g"
 refine xc2_3 N (strVs nms) rfl (.inl eN) ?_
 refine CompQ.draw (P:=P) (C:=C) (n:=n+1) 110 (fun i v=>∃ l,v=lookV l∧(nms[i]?=some l.name∧LawLook nms l)) (by simp only [strVs,List.length_map]; exact ar358 hd hNl) h2 (fun τ xp=>.inl (xp _ _ mP eN)) (fun i x hx τ xp lw=>?_) fun D τ ys xp lw eD hl hA=>?_
 ·unfold strVs at hx
  rw [List.getElem?_map] at hx
  cases hr:nms[i]? with
  | none=>rw [hr] at hx; cases hx
  | some u =>
  rw [hr] at hx
  cases hx
  have hi:=(List.getElem?_eq_some_iff.mp hr).1
  refine xc1_2 _ (CTg.nameE (by decide +kernel)) ?_
  walk_at "g"
  exact (w_law_lookup pc lw (by exact ar359 hn hd hNl hi) (xp _ _ mP eN) hNms (hNms.name u (List.mem_of_getElem? hr)) fun σ' l e1 o1 o2 o3 o4 x l'=>⟨⟨l,rfl,by rw [e1],o1,o2,o3,o4⟩,x,l'⟩).toW
 have hl3:(strVs nms).length=nms.length:=by simp [strVs]
 rw [hl3] at hl lw
 refine xi1 ?_ (collectI (f:=lookV) (p:=fun i l=>nms[i]?=some l.name∧LawLook nms l) 0 fun i y e=>by rw [Nat.zero_add]; exact hA i y e)
 intro ls
 refine im2 ?_
 intro hq114
 obtain rfl:=hq114
 intro hls
 rw [List.length_map] at hl
 have hnam:namesOf ls=nms:=by
  refine List.ext_getElem? fun i=>?_
  unfold namesOf
  rw [List.getElem?_map]
  cases hi:ls[i]? with
  | none =>
   have:ls.length≤i:=List.getElem?_eq_none_iff.mp hi
   rw [show nms[i]?=none from List.getElem?_eq_none_iff.mpr (by exact ar360 hl this)]; rfl
  | some l=>have:=(hls i l hi).1; rw [Nat.zero_add] at this; rw [this]; rfl
 have hlook:∀ l∈ls,LawLook nms l:=fun l hm=>by
  refine xi1 ?_ (List.getElem?_of_mem hm)
  intro i hi
  exact (hls i l hi).2
 walk_at "g"
 refine CallW.tupList (.inl eD) (by delta sizeLine; rw [List.length_map]; exact ar361 hd hNl hl) ?_
 walk_at "g"
 intro F hF
 refine im3 ?_ (lw.news hF)
 intro fP fC fG
 have x3:=x2.trans xp
 have hF0:σ F=none:=x3.none fP hF
 have eN3:=xp _ _ mP eN
 have hFN:F≠N:=neO hF eN3
 have hF':=Ext.fresh (σ:=τ) (o:=MObj.list []) hF
 walk_at "g"
 refine SV.for (fun _ _=>rfl) ?_
 refine IT.range1 rfl (by decide +kernel) (gn_range pc) rfl ?_
 walk_at "g"
 refine (w_draw (many:=3) pc (lw.ext hF') (by exact ar362 hn hd hNl) (by decide) (by decide) fun σ4 mf hmf x4 h4=>?_).toW
 refine xc1_3 mf rfl (by exact ar260 hmf) ?_
 refine xc1_4 (fun i ρ' σ'=>ρ' "pen"=some (.ref P)∧ρ' "names"=some (.ref N)∧ρ' "lookups"=some (.tup (ls.map lookV))∧ρ' "features"=some (.ref F)∧Xp P σ σ'∧σ' N=some (.list (strVs nms))∧Lw σ' P C (n+1+nms.length * 110+1+6 * i)∧∃ fs,σ' F=some (.list (fs.map featV))∧fs.length≤i∧∀ f∈fs,LawFeat nms f) ⟨?_,?_,?_,?_,(x3.trans (Xp.of hF')).trans x4,x4 _ _ mP (hF' _ _ eN3),h4,[],by rw [x4 _ _ fP (upd_self _ _ _)]; rfl,by simp,by simp⟩ (fun _ _ _ _=>trivial) ?_ ?_
 ·walk_at "loc"
 ·walk_at "loc"
 ·walk_at "loc"
 ·walk_at "loc"
 ·intro i ρ' σ' x hx
  refine im8 ?_
  intro l1 l2 l3 l4 xi eNi lwi
  refine xi1 ?_
  intro fs
  refine im3 ?_
  intro eF fz fok
  refine im2 ?_ (rangeV_get hx)
  intro hi hq115
  obtain rfl:=hq115
  walk_at "g"
  intro A1 hA1
  have y1:=Ext.fresh (σ:=σ') (o:=MObj.list (strVs tagM)) hA1
  refine im3 ?_ (lwi.news hA1)
  intro aP _ _
  walk_at "g"
  refine (w_draw (many:=4) pc (lwi.ext y1) (by exact ar363 hn hd hNl hmf hi) (by decide) (by decide) fun τ1 d1 hd1 z1 g1=>?_).toW
  refine xi1 ?_ (str_menu (l:=tagM) hd1)
  intro tag
  refine im3 ?_
  intro ht mt _
  refine TailW.list (fun _ _=>rfl) (.inl (z1 _ _ aP (upd_self _ _ _))) (by exact ar20) (by exact ar252 hd1) (by rw [Int.toNat_natCast]; exact ht) ?_
  walk_at "g"
  intro A2 hA2
  have y2:=Ext.fresh (σ:=τ1) (o:=MObj.list (strVs scrM)) hA2
  refine im3 ?_ (g1.news hA2)
  intro bP _ _
  walk_at "g"
  refine (w_draw (many:=3) pc (g1.ext y2) (by exact ar364 hn hd hNl hmf hi) (by decide) (by decide) fun τ2 d2 hd2 z2 g2=>?_).toW
  refine xi1 ?_ (str_menu (l:=scrM) hd2)
  intro scr
  refine im3 ?_
  intro hs ms _
  refine TailW.list (fun _ _=>rfl) (.inl (z2 _ _ bP (upd_self _ _ _))) (by exact ar20) (by exact ar304 hd2) (by rw [Int.toNat_natCast]; exact hs) ?_
  walk_at "g"
  intro A3 hA3
  have y3:=Ext.fresh (σ:=τ2) (o:=MObj.list (strVs lanM)) hA3
  refine im3 ?_ (g2.news hA3)
  intro cP _ _
  walk_at "g"
  refine (w_draw (many:=2) pc (g2.ext y3) (by exact ar365 hn hd hNl hmf hi) (by decide) (by decide) fun τ3 d3 hd3 z3 g3=>?_).toW
  refine xi1 ?_ (str_menu (l:=lanM) hd3)
  intro lan
  refine im3 ?_
  intro hln mln _
  refine TailW.list (fun _ _=>rfl) (.inl (z3 _ _ cP (upd_self _ _ _))) (by exact ar20) (by exact ar258 hd3) (by rw [Int.toNat_natCast]; exact hln) ?_
  have xt:Xp P σ' τ3:=(((((Xp.of y1).trans z1).trans (Xp.of y2)).trans z2).trans (Xp.of y3)).trans z3
  walk_at "g"
  refine EV.compE (by decide +kernel) (fun _ _=>rfl) ?_ ?_
  ·walk_at "cap"
  refine IT.range1 rfl (by decide +kernel) (gn_range pc) rfl ?_
  walk_at "g"
  refine (w_draw (many:=2) pc g3 (by exact ar366 hn hd hNl hmf hi) (by decide) (by decide) fun τ4 mu hmu z4 g4=>?_).toW
  walk_at "g"
  refine xc1_3 (1+mu) (by simp) (by exact ar267 hmu) ?_
  have eN5:τ4 N=some (.list (strVs nms)):=z4 _ _ mP (xt _ _ mP eNi)
  refine CompQ.draw (P:=P) (C:=C) (n:=n+1+nms.length * 110+1+6 * i+1+1+1+1) 1 (fun _ v=>∃ u,v=.str u∧u∈nms) (by rw [rangeV_len]; exact ar367 hmu) g4 (fun _ _=>trivial) (fun j x hx τ5 xp5 lw5=>?_) fun D5 τ5 ys xp5 lw5 eD5 hl5 hA5=>?_
  ·refine im2 ?_ (rangeV_get hx)
   intro hj hq116
   obtain rfl:=hq116
   refine xc1_2 _ (CTg.nameE (by decide +kernel)) ?_
   walk_at "g"
   have eN6:=xp5 _ _ mP eN5
   refine CallW.lenList (.inl eN6) (by rw [hl3]; exact ar368 hd hNl) ?_
   walk_at "g"
   rw [hl3]
   refine (w_draw (many:=nms.length) pc lw5 (by exact ar369 hn hd hNl hmf hi hmu hj) (List.length_pos_iff.mpr hNms.ne) (by exact ar370 hd hNl) fun τ6 du hdu x6 h6=>?_).toW
   refine xi1 ?_ (str_menu hdu)
   intro u
   refine im3 ?_
   intro hu mu _
   exact TailW.list (fun _ _=>rfl) (.inl (x6 _ _ mP eN6)) (by exact ar20) (by exact ar371 hd hNl hdu) (by rw [Int.toNat_natCast]; exact hu) ⟨⟨u,rfl,mu⟩,x6,h6⟩
  rw [rangeV_len] at hl5 lw5
  refine xi1 ?_ (collect (f:=V.str) (p:=fun u=>u∈nms) fun i y e=>hA5 i y e)
  intro us
  refine im2 ?_
  intro hq117
  obtain rfl:=hq117
  intro hus
  rw [List.length_map] at hl5
  walk_at "g"
  refine CallW.tupList (.inl eD5) (by delta sizeLine; rw [List.length_map]; exact ar271 hmu hl5) ?_
  have xt2:Xp P σ' τ5:=(xt.trans z4).trans xp5
  have eF5:=xt2 _ _ fP eF
  walk_at "g"
  refine xc1_2 _ (MethR.append (.inl eF5)) ?_
  walk_at "g"
  refine CallW.append eF5 (by delta sizeLine; rw [List.length_map]; exact ar372 hmf fz hi) ?_
  refine ⟨rfl,?_⟩
  walk_at "g"
  refine xc0_8 ?_ ?_ ?_ ?_ ((xi.trans xt2).bump hF0) ?_ ((lw5.put fP fC fG).le (by exact ar373 hmu)) (xc1_3 (fs++[⟨tag,scr,lan,us⟩]) ?_ (by simp; exact ar239 fz) ?_)
  ·walk_at "loc"
  ·walk_at "loc"
  ·walk_at "loc"
  ·walk_at "loc"
  ·rw [upd_ne _ _ (Ne.symm hFN)]
   exact xt2 _ _ mP eNi
  ·rw [upd_self,List.map_append]
   rfl
  ·intro f hf
   rcases List.mem_append.mp hf with z | z
   ·exact fok f z
   ·rw [List.mem_singleton.mp z]
    exact ⟨mt,ms,mln,fun e=>by rw [show us=[] from e] at hl5; simp at hl5; exact ar321 hl5,by show us.length≤2; exact ar326 hmu hl5,hus⟩
 ·intro ρ' σ'
  refine im8 ?_
  intro l1 l2 l3 l4 xi eNi lwi
  refine xi1 ?_
  intro fs
  refine im3 ?_
  intro eF fz fok
  rw [rangeV_len] at lwi fz
  walk_at "g"
  refine CallW.tupList (.inl eF) (by delta sizeLine; rw [List.length_map]; exact ar374 hmf fz) ?_
  walk_at "g"
  exact q σ' ls fs ⟨⟨1+d,by exact ar347,by exact ar356 hd,by rw [hnam,hnms]⟩,by rw [hnam]; exact hlook,by rw [hnam]; exact fok,by exact ar375 hmf fz⟩ xi (lwi.le (by exact ar376 hd hNl hmf))
end
section
variable {c:Cx} {k:Nat} {sc:Scope} {ρ:Loc} {σ:St}
theorem EVs.mono:∀ {l:List Expr} {σ:St} {Q Q':List V→St→Prop},EVs c k sc ρ l σ Q→(∀ vs σ',Q vs σ'→Q' vs σ')→EVs c k sc ρ l σ Q'
 | [],_,_,_,h,kk=>kk _ _ h
 | _::r,_,_,_,h,kk=>EV.mono' h fun _ _ h'=>EVs.mono (l:=r) h' fun _ _ z=>kk _ _ z
theorem EV.listX {l:List Expr} {p:Pos} {Q:V→St→Prop} (hp:l.all plainE=true) (hn:l.length≤sizeLine) (h:EVs c k sc ρ l σ fun vs σ'=>∀ m σ'',Ext σ' σ''→σ'' m=some (.list vs)→Q (.ref m) σ''):EV c k (.List l p) sc ρ σ Q :=
 EV.list hp hn (EVs.mono h fun _ _ z m hm=>z m _ (Ext.fresh hm) (upd_self _ _ _))
theorem CallW.listTupX {vs:List V} {Q:V→St→Prop} (hf:vs.length≤sizeLine) (q:∀ m σ',Ext σ σ'→σ' m=some (.list vs)→Q (.ref m) σ'):CallW c k (.type "list") [.tup vs] σ Q :=
 CallW.listTup hf fun m hm=>q m _ (Ext.fresh hm) (upd_self _ _ _)
theorem Op2.addStrs {l m:Addr} {as bs:List (List Nat)} {Q:V→St→Prop} (e1:σ l=some (.list (strVs as))) (e2:σ m=some (.list (strVs bs))) (hsz:(as++bs).length≤2 ^ 24) (q:∀ l σ',Ext σ σ'→σ' l=some (.list (strVs (as++bs)))→Q (.ref l) σ') :
  Op2 c k (binaryOp .Add) (.ref l) (.ref m) σ Q :=
 Op2.addList (.inl e1) (.inl e2) (by delta sizeLine; simpa [strVs] using hsz) fun l hl=>q l _ (Ext.fresh hl) (by rw [upd_self,strVs_append])
end
section
variable {c:Cx} {k:Nat} {σ σ₀:St} {Q:V→St→Prop}
theorem setW_len (gs:List (List Nat)) (long:Bool):(setW gs long).length≤gs.length+2:=by
 unfold setW; split <;> simp
theorem w_law_set_words (pc:PC c) {gs:List (List Nat)} {long:Bool} (hz:gs.length < 1000) (q:∀ σ' D,Ext σ σ'→σ' D=some (.list (strVs (setW gs long)))→Q (.ref D) σ'):CallC c (k+1) (.ref 531) [.tup (strVs gs),.bool long] σ Q:=by
 revert pc hz q
 revert c; revert k; revert σ; revert Q; revert gs long
 walk_at "close 6"
 intro gs long Q σ k c pc hz q
 have hl:(strVs gs).length=gs.length:=by simp [strVs]
 walk_at "def 2"
 walk_at "st"
 walk_at "st"
 walk_at "st"
 refine TV.mono (Q:=fun b τ=>b=(gs.length==1&&!long)∧τ=σ) ?_ ?_
 ·walk_at "g"
  refine CallW.lenTup (by rw [hl]; exact ar77 hz) ?_
  walk_at "g"
  have e1:(((strVs gs).length:Int)==1)=(gs.length==1):=by rw [hl,Bool.eq_iff_iff,beq_iff_eq,beq_iff_eq]; exact ar377
  rw [e1]
  cases hg:gs.length==1 with
  | true=>walk_at "g"; cases long <;> walk_at "g" <;> exact ⟨rfl,rfl⟩
  | false=>walk_at "g"; exact ⟨rfl,rfl⟩
 intro _ _
 refine im2 ?_
 intro hq118
 obtain rfl:=hq118
 intro hq119
 obtain rfl:=hq119
 cases hb:(gs.length==1&&!long) with
 | true =>
  walk_at "g"
  refine CallW.listTupX (by delta sizeLine; rw [hl]; exact ar127 hz) fun D σ' x e=>q σ' D x ?_
  unfold setW; rw [if_pos hb]; exact e
 | false =>
  walk_at "g"
  intro A σ1 x1 e1
  walk_at "g"
  refine CallW.listTupX (by delta sizeLine; rw [hl]; exact ar127 hz) fun D σ2 x2 e2=>?_
  refine Op2.addStrs (as:=[tx "["]) (bs:=gs) (x2 _ _ e1) e2 (by simp; exact ar57 hz) fun E σ3 x3 e3=>?_
  walk_at "g"
  intro F σ4 x4 e4
  refine Op2.addStrs (as:=[tx "["]++gs) (bs:=[tx "]"]) (x4 _ _ e3) e4 (by simp; exact ar188 hz) fun G σ5 x5 e5=>?_
  refine q σ5 G ((((x1.trans x2).trans x3).trans x4).trans x5) ?_
  unfold setW; rw [if_neg (by rw [hb]; decide)]; exact e5
theorem veq3 (a b d:Int):veq (.tup [.int a,.int b,.int d]) (.tup [.int 0,.int 0,.int 0])=(a==0&&b==0&&d==0):=by
 show PyData.eqv (.tuple [.int a,.int b,.int d]) (.tuple [.int 0,.int 0,.int 0])=_
 simp [PyData.eqv,PyData.eqvAll,Bool.and_assoc]
theorem ints_ok (a b d:Int):(V.tup [.int a,.int b,.int d]).ok=true∧(V.tup [.int a,.int b,.int d]).py.depth≤64:=by
 refine ⟨rfl,?_⟩
 show PyData.depth (.tuple [.int a,.int b,.int d])≤64
 simp [PyData.depth,PyData.depthAll]
theorem numIn_log {i:Int} (h:numIn i=true):i.natAbs.log2 < 1920:=by
 simp only [numIn,Bool.and_eq_true,decide_eq_true_eq] at h
 by_cases h0:i.natAbs=0
 ·rw [h0]
  decide
 ·exact Nat.lt_trans ((Nat.log2_lt h0).2 (show _ < 2 ^ 17 by walk_at "o")) (by decide)
theorem w_law_worth_words (pc:PC c) {x:Worth} {long:Bool} (ok:worthOk x=true) (q:∀ σ' D,Ext σ σ'→σ' D=some (.list (strVs (worthW x long)))→Q (.ref D) σ'):CallC c (k+1) (.ref 536) [worthV x,.bool long] σ Q:=by
 revert pc ok q
 revert c; revert k; revert σ; revert Q; revert x long
 walk_at "close 6"
 intro x long Q σ k c pc ok q
 obtain ⟨a,b,d,e⟩:=x
 have ok':=ok
 simp only [worthOk,Bool.and_eq_true] at ok'
 refine im2 ?_ (ok')
 refine im2 ?_
 refine im2 ?_
 intro oa ob od oe
 show CallC c _ _ [.tup [.int a,.int b,.int d,.int e],.bool long] σ Q
 walk_at "def 2"
 walk_at "st"
 walk_at "st"
 refine TV.mono (Q:=fun r τ=>r=((a==0&&b==0&&e==0)&&!long)∧τ=σ) ?_ ?_
 ·walk_at "g"
  refine TailW.tup (m:=0) (fun _ _=>rfl) (by decide) (by decide) rfl rfl ?_
  walk_at "g"
  refine TailW.tup (m:=1) (fun _ _=>rfl) (by decide) (by decide) rfl rfl ?_
  walk_at "g"
  refine TailW.tup (m:=3) (fun _ _=>rfl) (by decide) (by decide) rfl rfl ?_
  walk_at "g"
  refine Op2.eqData (ints_ok _ _ _).1 (ints_ok _ _ _).1 (ints_ok _ _ _).2 ?_
  rw [veq3]
  walk_at "g"
  cases hg:(a==0&&b==0&&e==0) with
  | true=>walk_at "g"; cases long <;> walk_at "g" <;> exact ⟨rfl,rfl⟩
  | false=>walk_at "g"; exact ⟨rfl,rfl⟩
 intro _ _
 refine im2 ?_
 intro hq120
 obtain rfl:=hq120
 intro hq121
 obtain rfl:=hq121
 cases hb:((a==0&&b==0&&e==0)&&!long) with
 | true =>
  walk_at "g"
  refine TailW.tup (m:=2) (fun _ _=>rfl) (by decide) (by decide) rfl rfl ?_
  refine CallW.strInt (numIn_log od) ?_
  walk_at "g"
  intro D σ1 x1 e1
  refine q σ1 D x1 ?_
  unfold worthW; rw [if_pos hb]; exact e1
 | false =>
  walk_at "g"
  intro A σ1 x1 e1
  walk_at "g"
  refine EV.compE (by decide +kernel) (fun _ _=>rfl) ?_ ?_
  ·walk_at "cap"
  refine IT.tup ?_
  walk_at "g"
  refine xc1_2 _ rfl ?_
  refine CompQ.list (strVs [numT a,numT b,numT d,numT e]) rfl (by simp) (fun _ _=>trivial) (fun i u y hu hy τ ex=>?_) fun D τ hD ex eD=>?_
  ·obtain ⟨z,oz,rfl,rfl⟩:∃ z,numIn z=true∧u=.int z∧y=.str (numT z):=by
    match i,hu,hy with
    | 0,hu,hy=>cases hu; cases hy; exact ⟨a,oa,rfl,rfl⟩
    | 1,hu,hy=>cases hu; cases hy; exact ⟨b,ob,rfl,rfl⟩
    | 2,hu,hy=>cases hu; cases hy; exact ⟨d,od,rfl,rfl⟩
    | 3,hu,hy=>cases hu; cases hy; exact ⟨e,oe,rfl,rfl⟩
    | n+4,hu,hy=>cases hu
   refine xc1_2 _ (CTg.nameE (by decide +kernel)) ?_
   walk_at "g"
   exact CallW.strInt (numIn_log oz) ⟨rfl,Ext.refl _⟩
  refine Op2.addStrs (as:=[tx "<"]) (bs:=[numT a,numT b,numT d,numT e]) (ex _ _ e1) eD (by simp) fun E σ3 x3 e3=>?_
  walk_at "g"
  intro F σ4 x4 e4
  refine Op2.addStrs (as:=[tx "<",numT a,numT b,numT d,numT e]) (bs:=[tx ">"]) (x4 _ _ e3) e4 (by simp) fun G σ5 x5 e5=>?_
  refine q σ5 G ((((x1.trans ex).trans x3).trans x4).trans x5) ?_
  unfold worthW; rw [if_neg (by rw [hb]; decide)]; exact e5
end
theorem iteEqT {x y:List Nat} {A B:Prop} (h:(x==y)=true) (a:A):if (x==y)=true then A else B:=by rw [if_pos h]; exact a
theorem iteEqF {x y:List Nat} {A B:Prop} (h:(x==y)=false) (b:B):if (x==y)=true then A else B:=by rw [if_neg (by rw [h]; decide)]; exact b
theorem fm_take {α β:Type} (f:α→List β) (l:List α) (i:Nat):((l.take i).flatMap f).length≤(l.flatMap f).length:=by
 have:(l.flatMap f).length=((l.take i).flatMap f).length+((l.drop i).flatMap f).length:=by rw [← List.length_append,← List.flatMap_append,List.take_append_drop]
 exact ar378 this
theorem fm_snoc {α β:Type} (f:α→List β) {l:List α} {i:Nat} {x:α} (h:l[i]?=some x):(l.take (i+1)).flatMap f=(l.take i).flatMap f++f x:=by
 rw [List.take_add_one,h,List.flatMap_append]
 simp
theorem itemW_U (g:List (List Nat)) (long:Bool):itemW (mkU g) long=setW g long:=by simp [itemW,mkU]
theorem itemW_M (p:List (List Nat)×List (List Nat)) (long:Bool):itemW (mkM p) long=setW p.1 long++(tx "'"::useW p.2):=by simp [itemW,mkM]
noncomputable def insW (long:Bool) (p:List (List Nat)×List (List Nat)):List (List Nat):=setW p.1 long++(tx "'"::useW p.2)
theorem chainW (w:List Nat) (back:List (List (List Nat))) (ins:List (List (List Nat)×List (List Nat))) (ahead:List (List (List Nat))) (long:Bool) :
  rowW (.chain w back ins ahead) long=[w]++back.flatMap (setW · long)++ins.flatMap (insW long)++ahead.flatMap (setW · long)++[tx ";"]:=by
 unfold rowW rowHead rowIts rowLong rowTail itemsW chainIts
 simp only [List.flatMap_append,List.flatMap_map,itemW_U,itemW_M]
 simp
 rfl
theorem useW_snoc (a:List (List Nat)) (u:List Nat):useW (a++[u])=useW a++[tx "lookup",u]:=by simp [useW]
section
variable {c:Cx} {k:Nat} {σ σ₀:St} {Q:V→St→Prop}
set_option maxHeartbeats 4000000 in
theorem w_law_chain_words (pc:PC c) {w:List Nat} {back ahead:List (List (List Nat))} {ins:List (List (List Nat)×List (List Nat))} {long:Bool} (mb:∀ g∈back,g.length < 1000) (ma:∀ g∈ahead,g.length < 1000) (mi:∀ p∈ins,p.1.length < 1000) (nb:back.length < 1000∧ins.length < 1000∧ahead.length < 1000)
  (hz:(rowW (.chain w back ins ahead) long).length < 100000) (q:∀ σ' D,Ext σ σ'→σ' D=some (.list (strVs (rowW (.chain w back ins ahead) long)))→Q (.ref D) σ'):CallC c (k+2) (.ref 543) [rowV (.chain w back ins ahead),.bool long] σ Q:=by
 revert pc mb ma mi nb hz q
 revert c; revert k; revert σ; revert Q; revert w back ahead ins long
 walk_at "close 9"
 intro w back ahead ins long Q σ k c pc mb ma mi nb hz q
 rw [chainW] at hz q
 show CallC c _ _ [.tup [.str (tx "chain"),.tup [.str w,setsV back,setsV (ins.map (·.1)),setsV ahead,.tup ((acts 0 ins).map actV)]],.bool long] σ Q
 walk_at "def 2"
 walk_at "g"
 refine TailW.tup (m:=0) (fun _ _=>rfl) (by decide) (by decide) rfl rfl ?_
 walk_at "g"
 intro L0 σ0 x0 e0
 walk_at "g"
 simp only [List.length_append] at hz
 refine SV.for (fun _ _=>rfl) ?_
 refine IT.tup ?_
 walk_at "g"
 refine TailW.tup (m:=1) (fun _ _=>rfl) (by decide) (by decide) rfl rfl ?_
 refine xc1_2 _ rfl ?_
 let KS:Loc→Prop:=fun ρ'=>ρ' "parts"=some (.tup [.str w,setsV back,setsV (ins.map (·.1)),setsV ahead,.tup ((acts 0 ins).map actV)])∧ρ' "longs"=some (.bool long)
 let FD:List (List Nat)→Loc→St→Prop:=fun done ρ' σ'=>Ext σ σ'∧∃ L,ρ' "found"=some (.ref L)∧σ' L=some (.list (strVs done))
 refine xc1_4 (fun i ρ' σ'=>KS ρ'∧FD ([w]++(back.take i).flatMap (setW · long)) ρ' σ') ⟨⟨?_,?_⟩,x0,L0,?_,e0⟩ (fun _ _ _ _=>trivial) ?_ ?_
 ·walk_at "loc"
 ·walk_at "loc"
 ·walk_at "loc"
 ·intro i ρ' σ' x hx
  refine im3 ?_
  refine im2 ?_
  intro k1 k2 xσ
  refine xi1 ?_
  intro L
  refine im2 ?_
  intro l1 eL
  rw [List.getElem?_map] at hx
  cases hg:back[i]? with
  | none=>rw [hg] at hx; cases hx
  | some g =>
  rw [hg] at hx
  cases hx
  walk_at "g"
  refine (w_law_set_words pc (mb g (List.mem_of_getElem? hg)) fun σ1 D x1 eD=>?_).toW
  have ht:=fm_take (setW · long) back (i+1)
  rw [fm_snoc (setW · long) hg,List.length_append] at ht
  refine Op2.addStrs (x1 _ _ eL) eD (by simp only [List.length_append]; simp only [List.length_append,List.length_cons,List.length_nil] at hz ht ⊢; exact ar379 hz ht) fun L1 σ2 x2 eL1=>?_
  walk_at "g"
  refine xc0_3 ⟨?_,?_⟩ ((xσ.trans x1).trans x2) (xc1_2 L1 ?_ ?_)
  ·walk_at "loc"
  ·walk_at "loc"
  ·walk_at "loc"
  ·rw [eL1,fm_snoc (setW · long) hg,List.append_assoc]
 intro ρ1 σ1
 refine im3 ?_
 refine im2 ?_
 intro k1 k2 xσ1
 refine xi1 ?_
 intro L1
 refine im2 ?_
 intro l1 eL1
 rw [List.length_map,List.take_length] at eL1
 walk_at "st"
 refine SV.for (fun _ _=>rfl) ?_
 refine IT.enumT rfl (by decide +kernel) (gn_enumerate pc) rfl ?_
 walk_at "g"
 refine TailW.tup (m:=2) (fun _ _=>rfl) (by decide) (by decide) rfl rfl ?_
 refine xc1_2 _ rfl ?_
 refine xc1_4 (fun i ρ' σ'=>KS ρ'∧FD ([w]++back.flatMap (setW · long)++(ins.take i).flatMap (insW long)) ρ' σ') ⟨⟨k1,k2⟩,xσ1,L1,l1,by rw [eL1]; simp⟩ (fun _ _ _ _=>trivial) ?_ ?_
 ·intro i ρ' σ' x hx
  refine im3 ?_
  refine im2 ?_
  intro k1 k2 xσ
  refine xi1 ?_
  intro L
  refine im2 ?_
  intro l1 eL
  refine xi1 ?_ (enumV_get hx)
  intro y
  refine im2 ?_
  intro hy hq122
  obtain rfl:=hq122
  rw [List.getElem?_map,List.getElem?_map] at hy
  cases hp:ins[i]? with
  | none=>rw [hp] at hy; cases hy
  | some p =>
  rw [hp] at hy
  cases hy
  have hpm:=List.mem_of_getElem? hp
  have ht:=fm_take (insW long) ins (i+1)
  rw [fm_snoc (insW long) hp,List.length_append] at ht
  have hip:(insW long p).length=(setW p.1 long).length+1+(useW p.2).length:=by unfold insW; simp; exact ar0
  walk_at "g"
  refine (w_law_set_words pc (mi p hpm) fun σ2 D x2 eD=>?_).toW
  simp only [List.length_append,List.length_cons,List.length_nil] at hz
  refine Op2.addStrs (x2 _ _ eL) eD (by simp only [List.length_append,List.length_cons,List.length_nil]; exact ar380 hz ht hip) fun L2 σ3 x3 eL2=>?_
  walk_at "g"
  intro M σ4 x4 eM
  refine Op2.addStrs (bs:=[tx "'"]) (x4 _ _ eL2) eM (by simp only [List.length_append,List.length_cons,List.length_nil]; exact ar381 hz ht hip) fun L3 σ5 x5 eL3=>?_
  walk_at "g"
  refine SV.for (fun _ _=>rfl) ?_
  refine IT.tup ?_
  walk_at "g"
  refine TailW.tup (m:=4) (fun _ _=>rfl) (by decide) (by decide) rfl rfl ?_
  refine xc1_2 _ rfl ?_
  let used:Nat→List (List Nat):=fun j=>(((acts 0 ins).take j).filter fun q=>q.1==0+i).map (·.2)
  have hused:∀ j,(useW (used j)).length≤(useW p.2).length:=fun j=>by
   rw [useW_len,useW_len,← acts_filter ins 0 i p hp]
   have:(((acts 0 ins).take j).filter fun q=>q.1==0+i).length≤((acts 0 ins).filter fun q=>q.1==0+i).length:=((List.take_sublist j _).filter _).length_le
   simp only [used,List.length_map]
   exact ar382 this
  refine xc1_4 (fun j ρ₂ σ₂=>KS ρ₂∧ρ₂ "spot"=some (.int i)∧FD ([w]++back.flatMap (setW · long)++(ins.take i).flatMap (insW long)++setW p.1 long++[tx "'"]++useW (used j)) ρ₂ σ₂) ⟨⟨?_,?_⟩,?_,((((xσ.trans x2).trans x3).trans x4).trans x5),L3,?_,by rw [eL3]; simp [used,useW]⟩ (fun _ _ _ _=>trivial) ?_ ?_
  ·walk_at "loc"
  ·walk_at "loc"
  ·walk_at "loc"
  ·walk_at "loc"
  ·intro j ρ₂ σ₂ x hx
   refine im4 ?_
   refine im2 ?_
   intro k1 k2 k3 xσ2
   refine xi1 ?_
   intro L4
   refine im2 ?_
   intro l4 eL4
   rw [List.getElem?_map] at hx
   cases ha:(acts 0 ins)[j]? with
   | none=>rw [ha] at hx; cases hx
   | some a =>
   obtain ⟨ix,nm⟩:=a
   rw [ha] at hx
   cases hx
   have hu:=hused (j+1)
   show TgV c _ _ _ _ _ (V.tup [.int ix,.str nm]) _
   walk_at "g"
   have ei:((ix:Int)==(i:Int))=(ix==0+i):=by rw [Bool.eq_iff_iff,beq_iff_eq,beq_iff_eq]; exact ar383
   rw [ei]
   cases hb:(ix==0+i) with
   | true =>
    have eu:used (j+1)=used j++[nm]:=by simp only [used]; rw [List.take_add_one,ha,List.filter_append,List.map_append]; simp only [Option.toList,List.filter_cons,hb,List.filter_nil]; rfl
    rw [eu,useW_snoc,List.length_append] at hu
    walk_at "g"
    intro M2 σ6 x6 eM2
    refine Op2.addStrs (bs:=[tx "lookup",nm]) (x6 _ _ eL4) eM2 (by simp only [List.length_append,List.length_cons,List.length_nil] at hu ⊢; exact ar384 hz ht hip hu) fun L5 σ7 x7 eL5=>?_
    walk_at "g"
    refine ⟨⟨?_,?_⟩,?_,(xσ2.trans x6).trans x7,L5,?_,by rw [eL5,eu,useW_snoc]; simp⟩ <;> walk_at "loc"
   | false =>
    have eu:used (j+1)=used j:=by simp only [used]; rw [List.take_add_one,ha,List.filter_append,List.map_append]; simp only [Option.toList,List.filter_cons,hb,List.filter_nil]; simp
    walk_at "g"
    intro M2 σ6 x6 eM2
    refine Op2.addStrs (bs:=[]) (x6 _ _ eL4) eM2 (by rw [eu] at hu; simp only [List.length_append,List.length_cons,List.length_nil] at hu ⊢; exact ar385 hz ht hip hu) fun L5 σ7 x7 eL5=>?_
    walk_at "g"
    refine ⟨⟨?_,?_⟩,?_,(xσ2.trans x6).trans x7,L5,?_,by rw [eL5,eu]; simp⟩ <;> walk_at "loc"
  ·intro ρ₂ σ₂
   refine im4 ?_
   refine im2 ?_
   intro k1 k2 k3 xσ2
   refine xi1 ?_
   intro L4
   refine im2 ?_
   intro l4 eL4
   walk_at "g"
   refine xc0_3 ⟨k1,k2⟩ xσ2 (xc1_2 L4 l4 ?_)
   rw [eL4,fm_snoc (insW long) hp]
   have eu:used ((acts 0 ins).map actV).length=p.2:=by simp only [used]; rw [List.length_map,List.take_length]; exact acts_filter ins 0 i p hp
   rw [eu]
   simp [insW]
 intro ρ2 σ2
 refine im3 ?_
 refine im2 ?_
 intro k1 k2 xσ2
 refine xi1 ?_
 intro L2
 refine im2 ?_
 intro l2 eL2
 rw [enumV_len,List.length_map,List.length_map,List.take_length] at eL2
 walk_at "st"
 refine SV.for (fun _ _=>rfl) ?_
 refine IT.tup ?_
 walk_at "g"
 refine TailW.tup (m:=3) (fun _ _=>rfl) (by decide) (by decide) rfl rfl ?_
 refine xc1_2 _ rfl ?_
 refine xc1_4 (fun i ρ' σ'=>KS ρ'∧FD ([w]++back.flatMap (setW · long)++ins.flatMap (insW long)++(ahead.take i).flatMap (setW · long)) ρ' σ') ⟨⟨k1,k2⟩,xσ2,L2,l2,by rw [eL2]; simp⟩ (fun _ _ _ _=>trivial) ?_ ?_
 ·intro i ρ' σ' x hx
  refine im3 ?_
  refine im2 ?_
  intro k1 k2 xσ
  refine xi1 ?_
  intro L
  refine im2 ?_
  intro l1 eL
  rw [List.getElem?_map] at hx
  cases hg:ahead[i]? with
  | none=>rw [hg] at hx; cases hx
  | some g =>
  rw [hg] at hx
  cases hx
  walk_at "g"
  refine (w_law_set_words pc (ma g (List.mem_of_getElem? hg)) fun σ3 D x3 eD=>?_).toW
  have ht:=fm_take (setW · long) ahead (i+1)
  rw [fm_snoc (setW · long) hg,List.length_append] at ht
  refine Op2.addStrs (x3 _ _ eL) eD (by simp only [List.length_append,List.length_cons,List.length_nil] at hz ht ⊢; exact ar386 hz ht) fun L1 σ4 x4 eL1=>?_
  walk_at "g"
  refine xc0_3 ⟨?_,?_⟩ ((xσ.trans x3).trans x4) (xc1_2 L1 ?_ ?_)
  ·walk_at "loc"
  ·walk_at "loc"
  ·walk_at "loc"
  ·rw [eL1,fm_snoc (setW · long) hg]
   simp
 intro ρ3 σ3
 refine im3 ?_
 refine im2 ?_
 intro k1 k2 xσ3
 refine xi1 ?_
 intro L3
 refine im2 ?_
 intro l3 eL3
 rw [List.length_map,List.take_length] at eL3
 walk_at "g"
 intro M σ4 x4 eM
 refine Op2.addStrs (bs:=[tx ";"]) (x4 _ _ eL3) eM (by simp only [List.length_append,List.length_cons,List.length_nil] at hz ⊢; exact ar387 hz) fun L4 σ5 x5 eL4=>?_
 exact q σ5 L4 ((xσ3.trans x4).trans x5) eL4
end
section
variable {c:Cx} {k:Nat} {σ σ₀:St} {Q:V→St→Prop}
set_option maxHeartbeats 4000000 in
theorem w_law_row_words (pc:PC c) {row:RowD} {long:Bool} (ok:RowOk row) (sm:RowSmall row) (hz:(rowW row long).length < 100000) (q:∀ σ' D,Ext σ σ'→σ' D=some (.list (strVs (rowW row long)))→Q (.ref D) σ'):CallC c (k+2) (.ref 543) [rowV row,.bool long] σ Q:=by
 revert pc ok sm hz q
 revert c; revert k; revert σ; revert Q; revert row long
 walk_at "close 6"
 intro row long Q σ k c pc ok sm hz q
 cases row with
 | chain w b i a =>
  refine im6 ?_ (sm)
  intro s1 s2 s3 s4 s5 s6
  exact w_law_chain_words pc (fun g hg=>by have:=s4 g hg; exact ar290 this) (fun g hg=>by have:=s6 g hg; exact ar290 this) (fun p hp=>by have:=(s5 p hp).1; exact ar290 this) ⟨by exact ar290 s1,by exact ar290 s2,by exact ar290 s3⟩ hz q
 | adjust a w =>
  show CallC c _ _ [.tup [.str (tx "adjust"),.tup [.str a,worthV w]],.bool long] σ Q
  walk_at "def 2"
  walk_at "g"
  intro A σ1 x1 e1
  walk_at "g"
  refine CutW.tup (by delta sizeLine; simp) ?_
  walk_at "g"
  refine CallW.listTupX (vs:=strVs [a]) (by delta sizeLine; simp [strVs]) fun B σ2 x2 e2=>?_
  refine Op2.addStrs (as:=[tx "pos"]) (x2 _ _ e1) e2 (by simp) fun L1 σ3 x3 e3=>?_
  walk_at "g"
  refine TailW.tup (m:=1) (fun _ _=>rfl) (by decide) (by decide) rfl rfl ?_
  walk_at "g"
  refine (w_law_worth_words pc ok.2 fun σ4 D x4 e4=>?_).toW
  refine Op2.addStrs (x4 _ _ e3) e4 (by unfold worthW; split <;> simp) fun L2 σ5 x5 e5=>?_
  walk_at "g"
  intro M σ6 x6 e6
  refine Op2.addStrs (bs:=[tx ";"]) (x6 _ _ e5) e6 (by unfold worthW; split <;> simp) fun L3 σ7 x7 e7=>?_
  refine q σ7 L3 ((((((x1.trans x2).trans x3).trans x4).trans x5).trans x6).trans x7) ?_
  rw [e7]
  simp [rowW,rowHead,rowIts,rowLong,rowTail,itemsW,itemW,plainIt,setW]
 | pair a b w =>
  show CallC c _ _ [.tup [.str (tx "pair"),.tup [.str a,.str b,worthV w]],.bool long] σ Q
  walk_at "def 2"
  walk_at "g"
  intro A σ1 x1 e1
  walk_at "g"
  refine CutW.tup (by delta sizeLine; simp) ?_
  walk_at "g"
  refine CallW.listTupX (vs:=strVs [a,b]) (by delta sizeLine; simp [strVs]) fun B σ2 x2 e2=>?_
  refine Op2.addStrs (as:=[tx "pos"]) (x2 _ _ e1) e2 (by simp) fun L1 σ3 x3 e3=>?_
  walk_at "g"
  refine TailW.tup (m:=2) (fun _ _=>rfl) (by decide) (by decide) rfl rfl ?_
  walk_at "g"
  refine (w_law_worth_words pc ok.2.2 fun σ4 D x4 e4=>?_).toW
  refine Op2.addStrs (x4 _ _ e3) e4 (by unfold worthW; split <;> simp) fun L2 σ5 x5 e5=>?_
  walk_at "g"
  intro M σ6 x6 e6
  refine Op2.addStrs (bs:=[tx ";"]) (x6 _ _ e5) e6 (by unfold worthW; split <;> simp) fun L3 σ7 x7 e7=>?_
  refine q σ7 L3 ((((((x1.trans x2).trans x3).trans x4).trans x5).trans x6).trans x7) ?_
  rw [e7]
  simp [rowW,rowHead,rowIts,rowLong,rowTail,itemsW,itemW,plainIt,setW]
 | alternate a bs =>
  have hb:bs.length≤3:=sm
  show CallC c _ _ [.tup [.str (tx "alternate"),.tup [.str a,.tup (strVs bs)]],.bool long] σ Q
  walk_at "def 2"
  walk_at "g"
  refine TailW.tup (m:=0) (fun _ _=>rfl) (by decide) (by decide) rfl rfl ?_
  walk_at "g"
  intro A σ1 x1 e1
  walk_at "g"
  refine TailW.tup (m:=1) (fun _ _=>rfl) (by decide) (by decide) rfl rfl ?_
  walk_at "g"
  refine CallW.listTupX (by delta sizeLine; simp only [strVs,List.length_map]; exact ar388 hb) fun B σ2 x2 e2=>?_
  refine Op2.addStrs (as:=[tx "sub",a,tx "from",tx "["]) (x2 _ _ e1) e2 (by simp; exact ar389 hb) fun L1 σ3 x3 e3=>?_
  walk_at "g"
  intro M σ6 x6 e6
  refine Op2.addStrs (bs:=[tx "]",tx ";"]) (x6 _ _ e3) e6 (by simp; exact ar390 hb) fun L3 σ7 x7 e7=>?_
  refine q σ7 L3 ((((x1.trans x2).trans x3).trans x6).trans x7) ?_
  rw [e7]
  simp [rowW,rowHead,rowIts,rowLong,rowTail,itemsW,itemW,plainIt,setW]
 | ligature as b =>
  have hb:as.length≤3:=sm
  show CallC c _ _ [.tup [.str (tx "ligature"),.tup [.tup (strVs as),.str b]],.bool long] σ Q
  walk_at "def 2"
  walk_at "g"
  refine TailW.tup (m:=0) (fun _ _=>rfl) (by decide) (by decide) rfl rfl ?_
  walk_at "g"
  refine CallW.listTupX (by delta sizeLine; simp only [strVs,List.length_map]; exact ar388 hb) fun B σ1 x1 e1=>?_
  walk_at "g"
  refine TailW.tup (m:=1) (fun _ _=>rfl) (by decide) (by decide) rfl rfl ?_
  walk_at "g"
  intro R σ2 x2 e2
  walk_at "g"
  intro A σ3 x3 e3
  walk_at "g"
  refine Op2.addStrs (as:=[tx "sub"]) e3 (x3 _ _ (x2 _ _ e1)) (by simp; exact ar391 hb) fun L1 σ4 x4 e4=>?_
  walk_at "g"
  intro M σ5 x5 e5
  refine Op2.addStrs (bs:=[tx "by"]) (x5 _ _ e4) e5 (by simp; exact ar392 hb) fun L2 σ6 x6 e6=>?_
  have eR:σ6 R=some (.list (strVs [b])):=x6 _ _ (x5 _ _ (x4 _ _ (x3 _ _ e2)))
  walk_at "g"
  intro E σ7 x7 e7
  refine Op2.neNil (.inl (x7 _ _ eR)) (.inl e7) ?_
  walk_at "g"
  refine iteT ?_
  walk_at "g"
  refine Op2.addStrs (bs:=[b]) (x7 _ _ e6) (x7 _ _ eR) (by simp; exact ar393 hb) fun L3 σ8 x8 e8=>?_
  walk_at "g"
  intro M2 σ9 x9 e9
  refine Op2.addStrs (bs:=[tx ";"]) (x9 _ _ e8) e9 (by simp; exact ar389 hb) fun L4 σ10 x10 e10=>?_
  refine q σ10 L4 (((((((((x1.trans x2).trans x3).trans x4).trans x5).trans x6).trans x7).trans x8).trans x9).trans x10) ?_
  rw [e10]
  unfold rowW rowIts rowLong
  rw [plain_words]
  simp [rowHead,rowTail]
 | single a b =>
  show CallC c _ _ [.tup [.str (tx "single"),.tup [.str a,.str b]],.bool long] σ Q
  walk_at "def 2"
  walk_at "g"
  refine TailW.tup (m:=0) (fun _ _=>rfl) (by decide) (by decide) rfl rfl ?_
  walk_at "g"
  intro B σ1 x1 e1
  walk_at "g"
  refine TailW.tup (m:=1) (fun _ _=>rfl) (by decide) (by decide) rfl rfl ?_
  walk_at "g"
  intro R σ2 x2 e2
  walk_at "g"
  intro A σ3 x3 e3
  walk_at "g"
  refine Op2.addStrs (as:=[tx "sub"]) (bs:=[a]) e3 (x3 _ _ (x2 _ _ e1)) (by simp) fun L1 σ4 x4 e4=>?_
  walk_at "g"
  intro M σ5 x5 e5
  refine Op2.addStrs (bs:=[tx "by"]) (x5 _ _ e4) e5 (by simp) fun L2 σ6 x6 e6=>?_
  have eR:σ6 R=some (.list (strVs [b])):=x6 _ _ (x5 _ _ (x4 _ _ (x3 _ _ e2)))
  walk_at "g"
  intro E σ7 x7 e7
  refine Op2.neNil (.inl (x7 _ _ eR)) (.inl e7) ?_
  walk_at "g"
  refine iteT ?_
  walk_at "g"
  refine Op2.addStrs (bs:=[b]) (x7 _ _ e6) (x7 _ _ eR) (by simp) fun L3 σ8 x8 e8=>?_
  walk_at "g"
  intro M2 σ9 x9 e9
  refine Op2.addStrs (bs:=[tx ";"]) (x9 _ _ e8) e9 (by simp) fun L4 σ10 x10 e10=>?_
  refine q σ10 L4 (((((((((x1.trans x2).trans x3).trans x4).trans x5).trans x6).trans x7).trans x8).trans x9).trans x10) ?_
  rw [e10]
  simp [rowW,rowHead,rowIts,rowLong,rowTail,itemsW,itemW,plainIt,setW]
 | multiple a bs =>
  have hb:bs.length≤3:=sm
  show CallC c _ _ [.tup [.str (tx "multiple"),.tup [.str a,.tup (strVs bs)]],.bool long] σ Q
  walk_at "def 2"
  walk_at "g"
  refine TailW.tup (m:=0) (fun _ _=>rfl) (by decide) (by decide) rfl rfl ?_
  walk_at "g"
  intro B σ1 x1 e1
  walk_at "g"
  refine TailW.tup (m:=1) (fun _ _=>rfl) (by decide) (by decide) rfl rfl ?_
  walk_at "g"
  refine CallW.listTupX (by delta sizeLine; simp only [strVs,List.length_map]; exact ar388 hb) fun R σ2 x2 e2=>?_
  walk_at "g"
  intro A σ3 x3 e3
  walk_at "g"
  refine Op2.addStrs (as:=[tx "sub"]) (bs:=[a]) e3 (x3 _ _ (x2 _ _ e1)) (by simp) fun L1 σ4 x4 e4=>?_
  walk_at "g"
  intro M σ5 x5 e5
  refine Op2.addStrs (bs:=[tx "by"]) (x5 _ _ e4) e5 (by simp) fun L2 σ6 x6 e6=>?_
  have eR:σ6 R=some (.list (strVs bs)):=x6 _ _ (x5 _ _ (x4 _ _ (x3 _ _ e2)))
  walk_at "g"
  intro E σ7 x7 e7
  refine Op2.neNil (.inl (x7 _ _ eR)) (.inl e7) ?_
  walk_at "g"
  have rest:∀ σ8 R' (us:List (List Nat)),us.length≤3→Ext σ7 σ8→σ8 R'=some (.list (strVs us))→rowW (.multiple a bs) long=[tx "sub"]++[a]++[tx "by"]++us++[tx ";"]→Op2 c (k+1) (binaryOp .Add) (.ref L2) (.ref R') σ8 fun v τ=>∀ M2 τ',Ext τ τ'→τ' M2=some (.list (strVs [tx ";"]))→Op2 c (k+1) (binaryOp .Add) v (.ref M2) τ' Q:=fun σ8 R' us hu x8 e8 er=>by
   refine Op2.addStrs (x8 _ _ (x7 _ _ e6)) e8 (by simp; exact ar393 hu) fun L3 σ9 x9 e9 M2 σ10 x10 e10=>?_
   refine Op2.addStrs (x10 _ _ e9) e10 (by simp; exact ar389 hu) fun L4 σ11 x11 e11=>?_
   exact q σ11 L4 ((((((((((x1.trans x2).trans x3).trans x4).trans x5).trans x6).trans x7).trans x8).trans x9).trans x10).trans x11) (by rw [e11,er])
  cases bs with
  | nil =>
   refine iteF ?_
   walk_at "g"
   intro N σ8 x8 e8
   refine (rest σ8 N [tx "NULL"] (by simp) x8 e8 (by simp [rowW,rowHead,rowIts,rowLong,rowTail,itemsW,itemW,plainIt,setW])).mono fun v τ h=>?_
   walk_at "g"
   exact fun M2 τ' x e=>h M2 τ' x e
  | cons b r =>
   refine iteT ?_
   walk_at "g"
   refine (rest σ7 R (b::r) hb (Ext.refl _) (x7 _ _ eR) (by simp [rowW,rowHead,rowIts,rowLong,rowTail,itemsW,itemW,plainIt,setW])).mono fun v τ h=>?_
   walk_at "g"
   exact fun M2 τ' x e=>h M2 τ' x e
end
section
variable {c:Cx} {k:Nat} {σ σ₀:St} {Q:V→St→Prop}
theorem flag_log {l:LookD} (h:l.flag≤65535):(l.flag:Int).natAbs.log2 < 1920:=by
 by_cases h0:(l.flag:Int).natAbs=0
 ·rw [h0]
  decide
 ·exact Nat.lt_trans ((Nat.log2_lt h0).2 (show _ < 2 ^ 16 by exact ar183 h)) (by decide)
theorem rowsW_take (rs:List RowD) (long:Bool) {i:Nat} {row:RowD} (h:rs[i]?=some row):(rowsW (rs.take i) long++rowW row long)=rowsW (rs.take (i+1)) long∧(rowsW (rs.take (i+1)) long).length≤(rowsW rs long).length :=
 ⟨(fm_snoc (rowW · long) h).symm,fm_take (rowW · long) rs (i+1)⟩
theorem w_law_lookup_words (pc:PC c) {l:LookD} {long:Bool} (ok:LookOk l) (sm:∀ row∈l.rows,RowSmall row) (hz:(lookW l long).length < 100000) (q:∀ σ' D,Ext σ σ'→σ' D=some (.list (strVs (lookW l long)))→Q (.ref D) σ'):CallC c (k+3) (.ref 550) [lookV l,.bool long] σ Q:=by
 revert pc ok sm hz q
 revert c; revert k; revert σ; revert Q; revert l long
 walk_at "close 6"
 intro l long Q σ k c pc ok sm hz q
 have eW:lookW l long=[tx "lookup",l.name]++flagW l long++[tx "{"]++rowsW l.rows long++[tx "}"]:=by simp [lookW]
 rw [eW] at hz q
 have hf2:(flagW l long).length≤2:=by unfold flagW; split <;> simp
 show CallC c _ _ [.tup [.str l.name,.int l.flag,.tup (l.rows.map rowV)],.bool long] σ Q
 walk_at "def 2"
 walk_at "g"
 intro A σ1 x1 e1
 refine EV.mono' (Q:=fun b τ=>∃ B,b=.ref B∧Ext σ1 τ∧τ B=some (.list (strVs (flagW l long)))) ?_ ?_
 ·walk_at "st"
  refine TV.mono (Q:=fun r τ=>r=(decide (l.flag > 0)||long)∧τ=σ1) ?_ ?_
  ·walk_at "g"
   refine ite_dec (fun hh=>?_) (fun hh=>?_)
   ·rw [decide_eq_true (show l.flag > 0 by exact ar184 hh)]; exact ⟨rfl,rfl⟩
   ·rw [decide_eq_false (show ¬ l.flag > 0 by exact ar189 hh)]
    walk_at "g"
    cases long <;> walk_at "g" <;> exact ⟨rfl,rfl⟩
  intro _ _
  refine im2 ?_
  intro hq123
  obtain rfl:=hq123
  intro hq124
  obtain rfl:=hq124
  cases hb:(decide (l.flag > 0)||long) with
  | true =>
   walk_at "g"
   refine CallW.strInt (flag_log ok.flagM) ?_
   walk_at "g"
   intro B σ2 x2 e2
   refine xc1_3 B rfl x2 ?_
   unfold flagW; rw [if_pos hb]; exact e2
  | false =>
   walk_at "g"
   intro B σ2 x2 e2
   refine xc1_3 B rfl x2 ?_
   unfold flagW; rw [if_neg (by rw [hb]; decide)]; exact e2
 intro _ σ2
 refine xi1 ?_
 intro B
 refine im3 ?_
 intro hq125
 obtain rfl:=hq125
 intro x2 e2
 refine Op2.addStrs (as:=[tx "lookup",l.name]) (x2 _ _ e1) e2 (by simp; exact ar394 hf2) fun L0 σ3 x3 e3=>?_
 walk_at "g"
 intro M σ4 x4 e4
 refine Op2.addStrs (bs:=[tx "{"]) (x4 _ _ e3) e4 (by simp; exact ar395 hf2) fun L1 σ5 x5 e5=>?_
 walk_at "g"
 simp only [List.length_append,List.length_cons,List.length_nil] at hz
 refine SV.for (fun _ _=>rfl) ?_
 refine IT.tup ?_
 walk_at "g"
 refine xc1_2 _ rfl ?_
 refine xc1_4 (fun i ρ' σ'=>ρ' "longs"=some (.bool long)∧Ext σ σ'∧∃ L,ρ' "found"=some (.ref L)∧σ' L=some (.list (strVs ([tx "lookup",l.name]++flagW l long++[tx "{"]++rowsW (l.rows.take i) long)))) ⟨?_,(((x1.trans x2).trans x3).trans x4).trans x5,L1,?_,by rw [e5]; simp [rowsW]⟩ (fun _ _ _ _=>trivial) ?_ ?_
 ·walk_at "loc"
 ·walk_at "loc"
 ·intro i ρ' σ' x hx
  refine im3 ?_
  intro k1 xσ
  refine xi1 ?_
  intro L
  refine im2 ?_
  intro l1 eL
  rw [List.getElem?_map] at hx
  cases hr:l.rows[i]? with
  | none=>rw [hr] at hx; cases hx
  | some row =>
  rw [hr] at hx
  cases hx
  have hm:=List.mem_of_getElem? hr
  refine im2 ?_ (rowsW_take l.rows long hr)
  intro t1 t2
  have t3:=congrArg List.length t1
  rw [List.length_append] at t3
  walk_at "g"
  refine (w_law_row_words pc (ok.rows row hm) (sm row hm) (by exact ar396 hz t2 t3) fun σ6 D x6 e6=>?_).toW
  refine Op2.addStrs (x6 _ _ eL) e6 (by simp only [List.length_append,List.length_cons,List.length_nil]; exact ar397 hz t2 t3) fun L2 σ7 x7 e7=>?_
  walk_at "g"
  refine ⟨?_,(xσ.trans x6).trans x7,L2,?_,by rw [e7,List.append_assoc,t1]⟩ <;> walk_at "loc"
 ·intro ρ' σ'
  refine im3 ?_
  intro k1 xσ
  refine xi1 ?_
  intro L
  refine im2 ?_
  intro l1 eL
  rw [List.length_map,List.take_length] at eL
  walk_at "g"
  intro M2 σ6 x6 e6
  refine Op2.addStrs (bs:=[tx "}"]) (x6 _ _ eL) e6 (by simp only [List.length_append,List.length_cons,List.length_nil]; exact ar387 hz) fun L2 σ7 x7 e7=>?_
  exact q σ7 L2 ((xσ.trans x6).trans x7) e7
theorem w_law_feature_words (pc:PC c) {f:FeatD} {long:Bool} (hu:f.uses.length < 1000) (q:∀ σ' D,Ext σ σ'→σ' D=some (.list (strVs (featW f long)))→Q (.ref D) σ'):CallC c (k+1) (.ref 557) [featV f,.bool long] σ Q:=by
 revert pc hu q
 revert c; revert k; revert σ; revert Q; revert f long
 walk_at "close 6"
 intro f long Q σ k c pc hu q
 have eW:featW f long=[tx "feature",f.tag]++scrW f long++lanW f long++[tx "{"]++f.uses++[tx "}"]:=by simp [featW]
 rw [eW] at q
 have hs2:(scrW f long).length≤2:=by unfold scrW; split <;> simp
 have hl2:(lanW f long).length≤2:=by unfold lanW; split <;> simp
 show CallC c _ _ [.tup [.str f.tag,.str f.script,.str f.language,.tup (strVs f.uses)],.bool long] σ Q
 walk_at "def 2"
 walk_at "g"
 intro A σ1 x1 e1
 walk_at "st"
 walk_at "st"
 let KS:Loc→Prop:=fun ρ'=>ρ' "language"=some (.str f.language)∧ρ' "used"=some (.tup (strVs f.uses))∧ρ' "longs"=some (.bool long)
 let FD:List (List Nat)→Loc→St→Prop:=fun done ρ' σ'=>Ext σ σ'∧∃ L,ρ' "found"=some (.ref L)∧σ' L=some (.list (strVs done))
 refine SV.mono (N:=fun ρ₂ σ₂=>KS ρ₂∧FD ([tx "feature",f.tag]++scrW f long) ρ₂ σ₂) (R:=_) ?_ ?_ (fun _ _ r=>r)
 ·walk_at "st"
  refine TV.mono (Q:=fun r τ=>r=(f.script != tx "DFLT"||long)∧τ=σ1) ?_ ?_
  ·walk_at "g"
   cases hb:(f.script != (Str.ofString "DFLT").cps.toList) with
   | true=>walk_at "g"; exact ⟨rfl,rfl⟩
   | false=>walk_at "g"; cases long <;> walk_at "g" <;> exact ⟨rfl,rfl⟩
  intro _ _
  refine im2 ?_
  intro hq126
  obtain rfl:=hq126
  intro hq127
  obtain rfl:=hq127
  cases hb:(f.script != tx "DFLT"||long) with
  | true =>
   walk_at "g"
   intro B σ2 x2 e2
   refine Op2.addStrs (as:=[tx "feature",f.tag]) (bs:=[tx "script",f.script]) (x2 _ _ e1) e2 (by simp) fun L0 σ3 x3 e3=>?_
   walk_at "g"
   refine ⟨⟨?_,?_,?_⟩,(x1.trans x2).trans x3,L0,?_,by rw [e3]; unfold scrW; rw [if_pos hb]⟩ <;> walk_at "loc"
  | false =>
   walk_at "g"
   refine ⟨⟨?_,?_,?_⟩,x1,A,?_,by rw [e1]; unfold scrW; rw [if_neg (by rw [hb]; decide)]; rfl⟩ <;> walk_at "loc"
 intro ρ₂ σ2
 refine im3 ?_
 refine im3 ?_
 intro k1 k2 k3 x2
 refine xi1 ?_
 intro L2
 refine im2 ?_
 intro l2 e2
 walk_at "st"
 refine SV.mono (N:=fun ρ₂ σ₂=>KS ρ₂∧FD ([tx "feature",f.tag]++scrW f long++lanW f long) ρ₂ σ₂) (R:=_) ?_ ?_ (fun _ _ r=>r)
 ·walk_at "st"
  refine TV.mono (Q:=fun r τ=>r=(f.language != tx "dflt"||long)∧τ=σ2) ?_ ?_
  ·walk_at "g"
   cases hb:(f.language != (Str.ofString "dflt").cps.toList) with
   | true=>walk_at "g"; exact ⟨rfl,rfl⟩
   | false=>walk_at "g"; cases long <;> walk_at "g" <;> exact ⟨rfl,rfl⟩
  intro _ _
  refine im2 ?_
  intro hq128
  obtain rfl:=hq128
  intro hq129
  obtain rfl:=hq129
  cases hb:(f.language != tx "dflt"||long) with
  | true =>
   walk_at "g"
   intro B σ3 x3 e3
   refine Op2.addStrs (bs:=[tx "language",f.language]) (x3 _ _ e2) e3 (by simp; exact ar398 hs2) fun L0 σ4 x4 e4=>?_
   walk_at "g"
   refine ⟨⟨?_,?_,?_⟩,(x2.trans x3).trans x4,L0,?_,by rw [e4]; unfold lanW; rw [if_pos hb]⟩ <;> walk_at "loc"
  | false =>
   walk_at "g"
   refine xc0_3 ⟨k1,k2,k3⟩ x2 (xc1_2 L2 l2 (by rw [e2]; unfold lanW; rw [if_neg (by rw [hb]; decide),List.append_nil]))
 intro ρ₃ σ3
 refine im3 ?_
 refine im3 ?_
 intro k1 k2 k3 x3
 refine xi1 ?_
 intro L3
 refine im2 ?_
 intro l3 e3
 walk_at "g"
 intro M σ4 x4 e4
 refine Op2.addStrs (bs:=[tx "{"]) (x4 _ _ e3) e4 (by simp; exact ar399 hs2 hl2) fun L4 σ5 x5 e5=>?_
 walk_at "g"
 refine CallW.listTupX (by delta sizeLine; simp only [strVs,List.length_map]; exact ar127 hu) fun B σ6 x6 e6=>?_
 refine Op2.addStrs (x6 _ _ e5) e6 (by simp; exact ar400 hu hs2 hl2) fun L5 σ7 x7 e7=>?_
 walk_at "g"
 intro M2 σ8 x8 e8
 refine Op2.addStrs (bs:=[tx "}"]) (x8 _ _ e7) e8 (by simp; exact ar401 hu hs2 hl2) fun L6 σ9 x9 e9=>?_
 exact q σ9 L6 ((((((x3.trans x4).trans x5).trans x6).trans x7).trans x8).trans x9) e9
theorem w_law_words (pc:PC c) {ls:List LookD} {fs:List FeatD} {long:Bool} (okl:∀ l∈ls,LookOk l∧∀ row∈l.rows,RowSmall row) (okf:∀ f∈fs,f.uses.length < 1000) (hz:(looksW ls long++featsW fs long).length < 100000)
  (q:∀ σ' D,Ext σ σ'→σ' D=some (.list (strVs (looksW ls long++featsW fs long)))→Q (.ref D) σ'):CallC c (k+4) (.ref 564) [treeV ls fs,.bool long] σ Q:=by
 revert pc okl okf hz q
 revert c; revert k; revert σ; revert Q; revert ls fs long
 walk_at "close 7"
 intro ls fs long Q σ k c pc okl okf hz q
 show CallC c _ _ [.tup [.tup (ls.map lookV),.tup (fs.map featV)],.bool long] σ Q
 rw [List.length_append] at hz
 walk_at "def 2"
 walk_at "g"
 intro A σ1 x1 e1
 walk_at "g"
 let KS:Loc→Prop:=fun ρ'=>ρ' "tree"=some (.tup [.tup (ls.map lookV),.tup (fs.map featV)])∧ρ' "longs"=some (.bool long)
 let FD:List (List Nat)→Loc→St→Prop:=fun done ρ' σ'=>Ext σ σ'∧∃ L,ρ' "found"=some (.ref L)∧σ' L=some (.list (strVs done))
 refine SV.for (fun _ _=>rfl) ?_
 refine IT.tup ?_
 walk_at "g"
 refine TailW.tup (m:=0) (fun _ _=>rfl) (by decide) (by decide) rfl rfl ?_
 refine xc1_2 _ rfl ?_
 refine xc1_4 (fun i ρ' σ'=>KS ρ'∧FD ((ls.take i).flatMap (lookW · long)) ρ' σ') ⟨⟨?_,?_⟩,x1,A,?_,e1⟩ (fun _ _ _ _=>trivial) ?_ ?_
 ·walk_at "loc"
 ·walk_at "loc"
 ·walk_at "loc"
 ·intro i ρ' σ' x hx
  refine im3 ?_
  refine im2 ?_
  intro k1 k2 xσ
  refine xi1 ?_
  intro L
  refine im2 ?_
  intro l1 eL
  rw [List.getElem?_map] at hx
  cases hr:ls[i]? with
  | none=>rw [hr] at hx; cases hx
  | some l =>
  rw [hr] at hx
  cases hx
  have hm:=List.mem_of_getElem? hr
  have t1:=fm_snoc (lookW · long) hr
  have t2:=fm_take (lookW · long) ls (i+1)
  rw [t1,List.length_append] at t2
  have t4:(ls.flatMap (lookW · long)).length=(looksW ls long).length:=rfl
  walk_at "g"
  refine (w_law_lookup_words pc (okl l hm).1 (okl l hm).2 (by exact ar402 hz t2 t4) fun σ6 D x6 e6=>?_).toW
  refine Op2.addStrs (x6 _ _ eL) e6 (by simp only [List.length_append]; exact ar403 hz t2 t4) fun L2 σ7 x7 e7=>?_
  walk_at "g"
  refine ⟨⟨?_,?_⟩,(xσ.trans x6).trans x7,L2,?_,by rw [e7,t1]⟩ <;> walk_at "loc"
 intro ρ1 σ1
 refine im3 ?_
 refine im2 ?_
 intro k1 k2 xσ1
 refine xi1 ?_
 intro L1
 refine im2 ?_
 intro l1 eL1
 rw [List.length_map,List.take_length] at eL1
 walk_at "st"
 refine SV.for (fun _ _=>rfl) ?_
 refine IT.tup ?_
 walk_at "g"
 refine TailW.tup (m:=1) (fun _ _=>rfl) (by decide) (by decide) rfl rfl ?_
 refine xc1_2 _ rfl ?_
 refine xc1_4 (fun i ρ' σ'=>KS ρ'∧FD (looksW ls long++(fs.take i).flatMap (featW · long)) ρ' σ') ⟨⟨k1,k2⟩,xσ1,L1,l1,by rw [eL1]; simp [looksW]⟩ (fun _ _ _ _=>trivial) ?_ ?_
 ·intro i ρ' σ' x hx
  refine im3 ?_
  refine im2 ?_
  intro k1 k2 xσ
  refine xi1 ?_
  intro L
  refine im2 ?_
  intro l1 eL
  rw [List.getElem?_map] at hx
  cases hr:fs[i]? with
  | none=>rw [hr] at hx; cases hx
  | some f =>
  rw [hr] at hx
  cases hx
  have hm:=List.mem_of_getElem? hr
  have t1:=fm_snoc (featW · long) hr
  have t2:=fm_take (featW · long) fs (i+1)
  rw [t1,List.length_append] at t2
  have t4:(fs.flatMap (featW · long)).length=(featsW fs long).length:=rfl
  walk_at "g"
  refine (w_law_feature_words pc (okf f hm) fun σ6 D x6 e6=>?_).toW
  refine Op2.addStrs (x6 _ _ eL) e6 (by simp only [List.length_append]; exact ar404 hz t2 t4) fun L2 σ7 x7 e7=>?_
  walk_at "g"
  refine ⟨⟨?_,?_⟩,(xσ.trans x6).trans x7,L2,?_,by rw [e7,t1,List.append_assoc]⟩ <;> walk_at "loc"
 intro ρ2 σ2
 refine im3 ?_
 refine im2 ?_
 intro k1 k2 xσ2
 refine xi1 ?_
 intro L2
 refine im2 ?_
 intro l2 eL2
 rw [List.length_map,List.take_length] at eL2
 walk_at "g"
 exact q σ2 L2 xσ2 eL2
end
noncomputable def glue:List (List Nat)→List (List Nat)→List Nat
 | [],_=>[]
 | _::_,[]=>[]
 | w::ws,g::gs=>w++g++glue ws gs
theorem glue_snoc:∀ {a gs:List (List Nat)} {w g:List Nat},a.length=gs.length→glue (a++[w]) (gs++[g])=glue a gs++w++g
 := by
 intro a
 induction a with
 | nil=>intro gs w g h; cases gs with
  | nil=>show w++g++[]=[]++w++g; simp
  | cons=>cases h
 | cons x a ih=>intro gs w g h; cases gs with
  | nil=>cases h
  | cons y gs =>
   show x++y++glue (a++[w]) (gs++[g])=(x++y++glue a gs)++w++g
   rw [ih (by simpa using h)]; simp
noncomputable def leadM:List (List Nat):=[tx "",tx " ",tx "# lead }\n",tx "\n"]
noncomputable def gapM:List (List Nat):=[tx " ",tx "\n",tx "\t ",tx " # a ; { 'b\n",tx "\r\n",tx " # c }\r"]
noncomputable def finM:List (List Nat):=[tx "",tx "# the end"]
noncomputable def sigT:List Nat:=tx "{}[];'<>"
noncomputable def GapOk (ws:List (List Nat)) (j:Nat) (g:List Nat):Prop:=g∈gapM∨(g=[]∧∃ w w',ws[j]?=some w∧ws[j+1]?=some w'∧(strIn w sigT=true∨strIn w' sigT=true))
noncomputable def LawText (ws:List (List Nat)) (t:List Nat):Prop:=∃ lead fin gs,lead∈leadM∧fin∈finM∧gs.length=ws.length∧(∀ (j:Nat) g,gs[j]?=some g→GapOk ws j g)∧t=lead++glue ws gs++fin
theorem menu_len:(∀ l∈leadM,l.length≤20)∧(∀ l∈gapM,l.length≤20)∧∀ l∈finM,l.length≤20:=by decide +kernel
theorem GapOk.len {ws:List (List Nat)} {j:Nat} {g:List Nat} (h:GapOk ws j g):g.length≤20:=by
 rcases h with z | ⟨rfl,_⟩
 ·exact menu_len.2.1 g z
 ·simp
theorem glue_len {ws gs:List (List Nat)} (h1:∀ w∈ws,w.length≤20) (h2:∀ g∈gs,g.length≤20):(glue ws gs).length≤40 * ws.length:=by
 induction ws generalizing gs with
 | nil=>exact Nat.zero_le _
 | cons w ws ih=>cases gs with
  | nil=>exact Nat.zero_le _
  | cons g gs =>
  have:=ih (gs:=gs) (fun w hw=>h1 w (List.mem_cons_of_mem _ hw)) (fun g hg=>h2 g (List.mem_cons_of_mem _ hg))
  have a:=h1 w (List.mem_cons_self ..)
  have b:=h2 g (List.mem_cons_self ..)
  show (w++g++glue ws gs).length≤_
  simp only [List.length_append,List.length_cons]
  exact ar405 this a b
theorem LawText.len {ws:List (List Nat)} {t:List Nat} (h:LawText ws t) (hw:∀ w∈ws,w.length≤20):t.length≤40 * ws.length+40:=by
 revert h hw
 revert ws t
 walk_at "close 2"
 intro ws t h hw
 refine xi3 ?_ (h)
 intro lead fin gs
 refine im5 ?_
 intro h1 h2 h3 h4 hq130
 obtain rfl:=hq130
 have a:=menu_len.1 lead h1
 have b:=menu_len.2.2 fin h2
 have:=glue_len hw (gs:=gs) fun g hg=>by
  refine xi1 ?_ (List.getElem?_of_mem hg)
  intro j hj
  exact (h4 j g hj).len
 simp only [List.length_append]
 exact ar406 a b this
section
variable {c:Cx} {k:Nat} {σ σ₀:St} {Q:V→St→Prop}
set_option maxHeartbeats 4000000 in
theorem w_law_text (pc:PC c) {P C WL:Addr} {n:Nat} {ws:List (List Nat)} (h:Lw σ P C n) (hn:n < 10000) (eW:σ WL=some (.list (strVs ws))) (hWP:WL≠P) (hz:ws.length < 1000) (hw:∀ w∈ws,w.length≤20)
  (q:∀ σ' t,LawText ws t→Xp P σ σ'→Lw σ' P C (n+2000+2)→Q (.str t) σ'):CallC c (k+3) (.ref 571) [.ref P,.ref WL] σ Q:=by
 revert pc h hn eW hWP hz hw q
 revert c; revert k; revert σ; revert Q; revert P; revert n; revert C WL ws
 walk_at "close 9"
 intro C WL ws n P Q σ k c pc h hn eW hWP hz hw q
 have hwl:(strVs ws).length=ws.length:=by simp [strVs]
 walk_at "def 2"
 walk_at "g"
 intro M σ1 x1 e1
 have hMP:M≠P:=by
  rintro rfl
  refine im2 ?_ (h.ext x1)
  refine xi3 ?_
  intro cells s g
  refine im4 ?_
  intro a b d z f
  rw [a] at e1
  have e2:=Option.some.inj e1
  injection e2 with e2
  cases e2
 walk_at "g"
 refine (w_draw (many:=4) pc (h.ext x1) (by exact ar407 hn) (by decide) (by decide) fun σ2 d hd x2 h2=>?_).toW
 refine xi1 ?_ (str_menu (l:=leadM) hd)
 intro lead
 refine im3 ?_
 intro hld mld _
 refine TailW.list (vs:=strVs leadM) (fun _ _=>rfl) (.inl (x2 _ _ hMP e1)) (by exact ar20) (by exact ar252 hd) (by rw [Int.toNat_natCast]; exact hld) ?_
 have lld:=menu_len.1 lead mld
 have xa:Xp P σ σ2:=(Xp.of x1).trans x2
 walk_at "g"
 refine SV.for (fun _ _=>rfl) ?_
 refine IT.enumL rfl (by decide +kernel) (gn_enumerate pc) rfl ?_
 walk_at "g"
 refine xc2_3 WL _ rfl (.inl (xa _ _ hWP eW)) ?_
 refine xc1_4 (fun i ρ' σ'=>ρ' "pen"=some (.ref P)∧ρ' "words"=some (.ref WL)∧Xp P σ σ'∧Lw σ' P C (n+1+2 * i)∧∃ gs,ρ' "text"=some (.str (lead++glue (ws.take i) gs))∧i≤ws.length∧gs.length=i∧∀ (j:Nat) g,gs[j]?=some g→GapOk ws j g) ⟨?_,?_,xa,h2,[],?_,Nat.zero_le _,rfl,by simp⟩ (fun i ρ' σ' z=>.inl (z.2.2.1 _ _ hWP eW)) ?_ ?_
 ·walk_at "loc"
 ·walk_at "loc"
 ·rw [List.take_zero,show glue [] []=[] from rfl,List.append_nil]
  walk_at "loc"
 ·intro i ρ' σ' x hx
  refine im5 ?_
  intro l1 l2 xσ lw
  refine xi1 ?_
  intro gs
  refine im4 ?_
  intro l3 hi hgl hgs
  refine xi1 ?_ (enumV_get hx)
  intro y
  refine im2 ?_
  intro hy hq131
  obtain rfl:=hq131
  unfold strVs at hy
  rw [List.getElem?_map] at hy
  cases hr:ws[i]? with
  | none=>rw [hr] at hy; cases hy
  | some w =>
  rw [hr] at hy
  cases hy
  have hil:=(List.getElem?_eq_some_iff.mp hr).1
  have hwl2:=hw w (List.mem_of_getElem? hr)
  have htl:=glue_len (ws:=ws.take i) (gs:=gs) (fun w hm=>hw w (List.mem_of_mem_take hm)) fun g hg=>by
   refine xi1 ?_ (List.getElem?_of_mem hg)
   intro j hj
   exact (hgs j g hj).len
  have htk:(ws.take i).length=i:=by rw [List.length_take]; exact ar408 hil
  rw [htk] at htl
  walk_at "g"
  intro M2 σ3 x3 e3
  have hMP2:M2≠P:=by
   rintro rfl
   refine im2 ?_ (lw.ext x3)
   refine xi3 ?_
   intro cells s g
   refine im4 ?_
   intro a b d z f
   rw [a] at e3
   have e2:=Option.some.inj e3
   injection e2 with e2
   cases e2
  walk_at "g"
  refine (w_draw (many:=6) pc (lw.ext x3) (by exact ar409 hn hz hil) (by decide) (by decide) fun σ4 d4 hd4 x4 h4=>?_).toW
  refine xi1 ?_ (str_menu (l:=gapM) hd4)
  intro gap
  refine im3 ?_
  intro hgp mgp _
  refine TailW.list (vs:=strVs gapM) (fun _ _=>rfl) (.inl (x4 _ _ hMP2 e3)) (by exact ar20) (by exact ar410 hd4) (by rw [Int.toNat_natCast]; exact hgp) ?_
  have xb:Xp P σ σ4:=(xσ.trans (Xp.of x3)).trans x4
  have eW4:=xb _ _ hWP eW
  walk_at "st"
  walk_at "st"
  refine SV.mono (N:=fun ρ₂ σ₂=>ρ₂ "pen"=some (.ref P)∧ρ₂ "words"=some (.ref WL)∧ρ₂ "text"=some (.str (lead++glue (ws.take i) gs))∧ρ₂ "word"=some (.str w)∧Xp P σ σ₂∧Lw σ₂ P C (n+1+2 * (i+1))∧∃ g,ρ₂ "gap"=some (.str g)∧GapOk ws i g) (R:=_) ?_ ?_ (fun _ _ r=>r)
  ·walk_at "st"
   refine TV.mono (Q:=fun b τ=>Xp P σ τ∧Lw τ P C (n+1+2 * (i+1))∧(b=true→∃ w w',ws[i]?=some w∧ws[i+1]?=some w'∧(strIn w sigT=true∨strIn w' sigT=true))) ?_ ?_
   ·have no:Xp P σ σ4∧Lw σ4 P C (n+1+2 * (i+1))∧(false=true→∃ w w',ws[i]?=some w∧ws[i+1]?=some w'∧(strIn w sigT=true∨strIn w' sigT=true)):=⟨xb,h4.le (by exact ar411),fun z=>by cases z⟩
    walk_at "g"
    refine CallW.lenList (.inl eW4) (by rw [hwl]; exact ar77 hz) ?_
    rw [hwl]
    walk_at "g"
    refine ite_dec (fun hlt=>?_) (fun _=>no)
    have hlt':i+1 < ws.length:=by exact ar13 hlt
    have hr2:ws[i+1]?=some ws[i+1]:=List.getElem?_eq_getElem hlt'
    generalize ws[i+1]=w2 at hr2
    have draw:(strIn w sigT=true∨strIn w2 sigT=true)→∀ (QQ:V→St→Prop),(∀ τ d,Xp P σ τ→Lw τ P C (n+1+2 * (i+1))→QQ (.int ((d:Nat):Int)) τ)→CallW c (k+2) (.ref 470) [.ref P,.int 2] σ4 QQ:=fun _ QQ hq =>
     (w_draw (k:=k+1) (many:=2) pc h4 (by exact ar412 hn hz hi) (by decide) (by decide) fun σ5 d5 hd5 x5 h5=>hq σ5 d5 (xb.trans x5) (h5.le (by exact ar413))).toW
    walk_at "g"
    cases hs:strIn w (Str.ofString "{}[];'<>").cps.toList with
    | true =>
     walk_at "g"
     refine draw (.inl hs) _ fun τ d xτ lτ=>?_
     walk_at "g"
     cases hd0:(((d:Nat):Int)==0) <;> walk_at "g" <;> exact ⟨xτ,lτ,fun _=>⟨w,w2,hr,hr2,.inl hs⟩⟩
    | false =>
     walk_at "g"
     refine TailW.list (x:=.str w2) (fun _ _=>rfl) (.inl eW4) (by exact ar414) (by exact ar415 hz hi) (by rw [show ((i:Int)+1).toNat=i+1 by exact ar416]; unfold strVs; rw [List.getElem?_map,hr2]; rfl) ?_
     walk_at "g"
     cases hs2:strIn w2 (Str.ofString "{}[];'<>").cps.toList with
     | true =>
      walk_at "g"
      refine draw (.inr hs2) _ fun τ d xτ lτ=>?_
      walk_at "g"
      cases hd0:(((d:Nat):Int)==0) <;> walk_at "g" <;> exact ⟨xτ,lτ,fun _=>⟨w,w2,hr,hr2,.inr hs2⟩⟩
     | false =>
      walk_at "g"
      exact no
   ·intro b τ
    refine im3 ?_
    intro xτ lτ hb
    cases b with
    | true =>
     walk_at "g"
     refine ⟨?_,?_,?_,?_,xτ,lτ,(Str.ofString "").cps.toList,?_,.inr ⟨cs_empty,hb rfl⟩⟩ <;> walk_at "loc"
    | false =>
     walk_at "g"
     refine ⟨?_,?_,?_,?_,xτ,lτ,gap,?_,.inl mgp⟩ <;> walk_at "loc"
  ·intro ρ₂ σ₂
   refine im7 ?_
   intro k1 k2 k3 k4 xσ2 lw2
   refine xi1 ?_
   intro g
   refine im2 ?_
   intro k5 hg
   have hgl2:=hg.len
   walk_at "g"
   refine Op2.addStr (by delta sizeLine; simp only [List.length_append]; exact ar417 hz lld hi hwl2 htl) ?_
   walk_at "g"
   refine Op2.addStr (by delta sizeLine; simp only [List.length_append]; exact ar418 hz lld hi hwl2 htl hgl2) ?_
   walk_at "g"
   have etk:ws.take (i+1)=ws.take i++[w]:=by rw [List.take_add_one,hr]; rfl
   refine xc0_5 ?_ ?_ xσ2 lw2 (xc1_4 (gs++[g]) ?_ hil (by simp [hgl]) (fun j g' hj=>?_))
   ·walk_at "loc"
   ·walk_at "loc"
   ·rw [etk,glue_snoc (by rw [htk,hgl]),← List.append_assoc,← List.append_assoc]; walk_at "loc"
   ·by_cases hlt:j < gs.length
    ·rw [List.getElem?_append_left hlt] at hj
     exact hgs j g' hj
    ·rw [List.getElem?_append_right (by exact ar246 hlt)] at hj
     have hj0:j - gs.length=0:=by
      cases hq:j - gs.length with
      | zero=>rfl
      | succ m=>rw [hq] at hj; simp at hj
     rw [hj0] at hj
     cases hj
     rw [show j=i by exact ar247 hgl hlt hj0]; exact hg
 ·intro ρ' σ'
  refine im5 ?_
  intro l1 l2 xσ lw
  refine xi1 ?_
  intro gs
  refine im4 ?_
  intro l3 hi hgl hgs
  rw [enumV_len,hwl] at lw hgl
  rw [enumV_len,hwl,List.take_length] at l3
  have htl:=glue_len (ws:=ws) (gs:=gs) hw fun g hg=>by
   refine xi1 ?_ (List.getElem?_of_mem hg)
   intro j hj
   exact (hgs j g hj).len
  walk_at "g"
  intro M2 σ3 x3 e3
  have hMP2:M2≠P:=by
   rintro rfl
   refine im2 ?_ (lw.ext x3)
   refine xi3 ?_
   intro cells s g
   refine im4 ?_
   intro a b d z f
   rw [a] at e3
   have e2:=Option.some.inj e3
   injection e2 with e2
   cases e2
  walk_at "g"
  refine (w_draw (many:=2) pc (lw.ext x3) (by exact ar419 hn hz) (by decide) (by decide) fun σ4 d4 hd4 x4 h4=>?_).toW
  refine xi1 ?_ (str_menu (l:=finM) hd4)
  intro fin
  refine im3 ?_
  intro hfn mfn _
  refine TailW.list (vs:=strVs finM) (fun _ _=>rfl) (.inl (x4 _ _ hMP2 e3)) (by exact ar20) (by exact ar258 hd4) (by rw [Int.toNat_natCast]; exact hfn) ?_
  have lfn:=menu_len.2.2 fin mfn
  refine Op2.addStr (by delta sizeLine; simp only [List.length_append]; exact ar420 hz lld htl lfn) ?_
  exact q σ4 _ ⟨lead,fin,gs,mld,mfn,hgl,hgs,rfl⟩ ((xσ.trans (Xp.of x3)).trans x4) (h4.le (by exact ar421 hz))
end
noncomputable def dense (t:List Nat):List Nat:=t.filter fun x=>!Unicode.isSpace x
noncomputable def stFlat (st:KWd.St):List Nat:=(st.1.map (·.cps.toList)).flatten++st.2.cps.toList
theorem step_flat (st:KWd.St) (x:Nat):stFlat (KWd.step st x)=stFlat st++dense [x]:=by
 obtain ⟨ws,r⟩:=st
 unfold KWd.step dense
 cases hx:Unicode.isSpace x with
 | true =>
  simp only [if_true]
  split
  ·simp [hx]
  ·simp [stFlat,hx,Str.empty]
 | false =>
  simp [stFlat,hx,Str.cps_append]
theorem scan_flat:∀ (l:List Nat) (st:KWd.St),stFlat (l.foldl KWd.step st)=stFlat st++dense l
 | [],st=>by simp [dense]
 | x::l,st=>by
  rw [List.foldl_cons,scan_flat l,step_flat,List.append_assoc]
  dsimp only [dense]
  rw [← List.filter_append]
  rfl
theorem fin_flat (st:KWd.St):((KWd.fin st).map (·.cps.toList)).flatten=stFlat st:=by
 unfold KWd.fin stFlat
 split
 ·rename_i h
  rw [KWd.len0 h]
  simp [Str.empty]
 ·simp
theorem words_flat (t:List Nat):(wordsL t).flatten=dense t:=by
 unfold wordsL
 rw [KWd.words_scan,fin_flat]
 unfold KWd.scan
 rw [scan_flat]
 simp [stFlat,Str.empty]
theorem joinL_nil:∀ ls:List (List Nat),joinL [] ls=ls.flatten
 | []=>rfl
 | [x]=>(List.append_nil x).symm
 | x::y::r=>by show x++[]++joinL [] (y::r)=_; rw [joinL_nil (y::r)]; simp
theorem flat_len (ls:List (List Nat)):(ls.map List.length).sum=ls.flatten.length:=by rw [List.length_flatten]
section
variable {c:Cx} {k:Nat} {σ σ₀:St} {Q:V→St→Prop}
theorem w_law_bare (pc:PC c) {t:List Nat} (ht:t.length < 1000000) (q:∀ σ',Ext σ σ'→Q (.str (dense t)) σ'):CallC c (k+1) (.ref 578) [.str t] σ Q:=by
 walk_at "def 1"
 walk_at "g"
 refine xc1_2 _ MethR.join ?_
 walk_at "g"
 refine xc1_2 _ MethR.split ?_
 walk_at "g"
 refine CallW.split (by delta sizeLine; exact ar143 ht) ?_ fun m hm=>?_
 ·have h1:=(StrLaws.sw_weight (S t)).1
  have h2:=StrLaws.len_le_wsum (Builtin.Str.spaceWords (S t) ((S t).length+1))
  have h3:(S t).length=t.length:=by simp [Str.length]
  delta sizeLine
  exact ar422 ht h1 h2 h3
 walk_at "g"
 rw [cs_empty]
 have hd:(dense t).length≤t.length:=List.length_filter_le ..
 refine CallW.joinList (.inl (upd_self _ _ _)) (by rw [flat_len,words_flat,sizeLine_is]; simp; exact ar423 ht hd) ?_
 rw [joinL_nil,words_flat]
 exact q _ (Ext.fresh hm)
end
noncomputable def alnum:List Nat:=c_LETTERS++c_FIGURES
noncomputable def Brk (r:List Nat):Prop:=∀ y s,r=y::s→y ∉ alnum
theorem Brk.nil:Brk []:=fun _ _ h=>by cases h
theorem Brk.cons {y:Nat} {s:List Nat} (h:y ∉ alnum):Brk (y::s):=fun y' s' e=>by cases e; exact h
noncomputable def TokS (s:List Nat) (ws:List (List Nat)):Prop:=∀ t a,t.drop a=s→a≤t.length→∃ W,TokAt t (skipTo t a) W∧W.map (·.1)=ws
noncomputable def SkG (g:List Nat):Prop:=∀ r,sk false (g++r)=g.length+sk false r
theorem SkG.nil:SkG []:=fun r=>by simp
theorem skG_blank {x:Nat} {g:List Nat} (h:x∈c_BLANKS) (hg:SkG g):SkG (x::g):=fun r=>by
 rw [List.cons_append,sk_blank h,hg r,List.length_cons]
 exact ar424
theorem sk_comment:∀ (m r:List Nat) {e:Nat},(∀ x∈m,x ∉ c_LINE_ENDS)→e∈c_LINE_ENDS→sk true (m++e::r)=m.length+1+sk false r
 | [],r,e,_,he=>by rw [List.nil_append,sk_end he]; simp
 | x::m,r,e,h,he=>by
  rw [List.cons_append,sk_in (h x (List.mem_cons_self ..)),sk_comment m r (fun y hy=>h y (List.mem_cons_of_mem _ hy)) he,List.length_cons]; exact ar424
theorem skG_comment {m g:List Nat} {e:Nat} (h:∀ x∈m,x ∉ c_LINE_ENDS) (he:e∈c_LINE_ENDS) (hg:SkG g):SkG (35::(m++e::g)):=fun r=>by
 have:(35::(m++e::g))++r=35::(m++e::(g++r)):=by simp
 rw [this,sk_hash (by decide +kernel) rfl,sk_comment m _ h he,hg r]
 simp only [List.length_cons,List.length_append]
 exact ar425
theorem sk_comment_end:∀ (m:List Nat),(∀ x∈m,x ∉ c_LINE_ENDS)→sk true m=m.length
 | [],_=>rfl
 | x::m,h=>by
  rw [sk_in (h x (List.mem_cons_self ..)),sk_comment_end m (fun y hy=>h y (List.mem_cons_of_mem _ hy)),List.length_cons]; exact ar426
theorem drop_add {t g r:List Nat} {a:Nat} (h:t.drop a=g++r):t.drop (a+g.length)=r:=by
 rw [← List.drop_drop,h]
 simp
theorem drop_len {t s:List Nat} {a:Nat} (h:t.drop a=s) (ha:a≤t.length):a+s.length=t.length:=by
 have:=congrArg List.length h
 rw [List.length_drop] at this
 exact ar427 ha this
theorem TokS.nil:TokS [] [[]]:=fun t a h ha=>by
 have hl:=drop_len h ha
 have e:skipTo t a=a:=by unfold skipTo; rw [h]; rfl
 rw [e]
 exact xc1_2 _ (.fin (by simp at hl; exact ar428 hl)) rfl
theorem TokS.fin {m:List Nat} (h:∀ x∈m,x ∉ c_LINE_ENDS):TokS (35::m) [[]]:=fun t a hd ha=>by
 have hl:=drop_len hd ha
 have e:skipTo t a=t.length:=by
  unfold skipTo
  rw [hd,sk_hash (by decide +kernel) rfl,sk_comment_end m h]
  simp at hl
  exact ar429 hl
 rw [e]
 exact xc1_2 _ (.fin (Nat.le_refl _)) rfl
theorem TokS.gap {g r:List Nat} {ws:List (List Nat)} (hg:SkG g) (h:TokS r ws):TokS (g++r) ws:=fun t a hd ha=>by
 have hd2:=drop_add hd
 have hl:=drop_len hd ha
 rw [List.length_append] at hl
 have e:skipTo t a=skipTo t (a+g.length):=by
  unfold skipTo; rw [hd,hd2,hg r]; exact ar76
 rw [e]
 exact h t _ hd2 (by exact ar430 hl)
noncomputable def WEnd (w r:List Nat):Prop:=∃ x w',w=x::w'∧x ∉ c_BLANKS∧x≠35∧∀ t a,t.drop a=w++r→wordEnd t a x=some (a+w.length)
theorem TokS.word {w r:List Nat} {ws:List (List Nat)} (hw:WEnd w r) (h:TokS r ws):TokS (w++r) (w::ws):=fun t a hd ha=>by
 refine xi2 ?_ (hw)
 intro x w'
 refine im4 ?_
 intro hq132
 obtain rfl:=hq132
 intro h1 h2 h3
 have hd2:=drop_add hd
 have hl:=drop_len hd ha
 rw [List.length_append] at hl
 refine xi1 ?_ (h t _ hd2 (by exact ar430 hl))
 intro W
 refine im2 ?_
 intro hW eW
 have e:skipTo t a=a:=by
  unfold skipTo
  rw [hd,List.cons_append,sk_stop h1 h2]
  rfl
 have hx:t[a]?=some x:=by
  have:(t.drop a)[0]?=some x:=by rw [hd]; rfl
  rw [List.getElem?_drop] at this
  simpa using this
 rw [e]
 refine xc1_2 _ (.word hx (h3 t a hd) (by simp) (by exact ar430 hl) hW) ?_
 rw [List.map_cons,eW]
 show (t.drop a).take (a+(x::w').length - a)::ws=_
 rw [hd,show a+(x::w').length - a=(x::w').length by exact ar431,List.take_left']
 rfl
theorem tw_all:∀ {w r S:List Nat},(∀ x∈w,x∈S)→(∀ y s,r=y::s→y ∉ S)→((w++r).takeWhile (·∈S)).length=w.length
 := by
 intro w
 induction w with
 | nil =>
  intro r S _ h
  cases r with
  | nil=>rfl
  | cons y s =>
   rw [List.nil_append,List.takeWhile_cons,decide_eq_false (h y s rfl)]
   rfl
 | cons x w ih =>
  intro r S h1 h2
  rw [List.cons_append,List.takeWhile_cons,decide_eq_true (h1 x (List.mem_cons_self ..))]
  simp only [if_true,List.length_cons]
  rw [ih (fun y hy=>h1 y (List.mem_cons_of_mem _ hy)) h2]
theorem runEnd_all {t w r S:List Nat} {a:Nat} (hd:t.drop a=w++r) (h1:∀ x∈w,x∈S) (h2:∀ y s,r=y::s→y ∉ S):runEnd t a S=a+w.length:=by
 unfold runEnd; rw [hd,tw_all h1 h2]
noncomputable def wordy:List Nat→Bool
 | []=>false
 | x::r=>decide (x∈c_LETTERS)&&r.all fun y=>decide (y∈alnum)
noncomputable def numy:List Nat→Bool
 | []=>false
 | x::r=>(decide (x∈c_FIGURES)&&r.all fun y=>decide (y∈c_FIGURES))||(x==45&&!r.isEmpty&&r.all fun y=>decide (y∈c_FIGURES))
noncomputable def signy:List Nat→Bool
 | []=>false
 | [x]=>decide (x∈c_SIGNS)
 | _::_::_=>false
theorem chars_apart:(∀ x∈c_LETTERS,x ∉ c_BLANKS∧x≠35)∧(∀ x∈c_FIGURES,x ∉ c_BLANKS∧x≠35∧x ∉ c_LETTERS)∧(∀ x∈c_SIGNS,x ∉ c_BLANKS∧x≠35∧x ∉ c_LETTERS∧x ∉ c_FIGURES∧x≠45∧x ∉ alnum)∧(∀ x∈c_BLANKS,x ∉ alnum)∧(45 ∉ c_BLANKS∧45 ∉ c_LETTERS∧45 ∉ c_FIGURES∧45 ∉ c_SIGNS∧45≠35):=by decide +kernel
theorem wordy_end {w r:List Nat} (h:wordy w=true) (hr:Brk r):WEnd w r:=by
 cases w with
 | nil=>cases h
 | cons x w' =>
  simp only [wordy,Bool.and_eq_true,decide_eq_true_eq,List.all_eq_true] at h
  refine im2 ?_ (h)
  intro h1 h2
  refine xc2_4 x w' rfl ((chars_apart.1 x h1).1) ((chars_apart.1 x h1).2) (fun t a hd=>?_)
  unfold wordEnd
  rw [if_pos h1,show c_LETTERS++c_FIGURES=alnum from rfl,runEnd_all hd (fun y hy=>?_) hr]
  rcases List.mem_cons.mp hy with rfl | hy
  ·exact List.mem_append_left _ h1
  ·exact h2 y hy
theorem numy_end {w r:List Nat} (h:numy w=true) (hr:Brk r):WEnd w r:=by
 have hr':∀ y s,r=y::s→y ∉ c_FIGURES:=fun y s e hy=>hr y s e (List.mem_append_right _ hy)
 cases w with
 | nil=>cases h
 | cons x w' =>
  simp only [numy,Bool.or_eq_true,Bool.and_eq_true,decide_eq_true_eq,List.all_eq_true,beq_iff_eq,Bool.not_eq_true'] at h
  rcases h with ⟨h1,h2⟩ | ⟨⟨rfl,h1⟩,h2⟩
  ·have ap:=chars_apart.2.1 x h1
   refine xc2_4 x w' rfl ap.1 ap.2.1 (fun t a hd=>?_)
   unfold wordEnd
   rw [if_neg ap.2.2,if_pos h1,runEnd_all hd (fun y hy=>?_) hr']
   rcases List.mem_cons.mp hy with rfl | hy
   ·exact h1
   ·exact h2 y hy
  ·have ap:=chars_apart.2.2.2.2
   refine xc2_4 45 w' rfl ap.1 ap.2.2.2.2 (fun t a hd=>?_)
   unfold wordEnd
   have hd2:t.drop (a+1)=w'++r:=drop_add (g:=[45]) hd
   have e:=runEnd_all hd2 h2 hr'
   have hp:0 < w'.length:=by cases w' with | nil=>cases h1 | cons=>simp
   rw [if_neg ap.2.1,if_neg ap.2.2.1,e,if_pos ⟨rfl,by exact ar432 hp⟩,List.length_cons]
   congr 1; exact ar75
theorem signy_one {w:List Nat} (h:signy w=true):∃ x,w=[x]∧x∈c_SIGNS:=by
 cases w with
 | nil=>cases h
 | cons x t=>cases t with
  | nil=>exact ⟨x,rfl,of_decide_eq_true h⟩
  | cons=>cases h
theorem signy_end {w r:List Nat} (h:signy w=true):WEnd w r:=by
 obtain ⟨x,rfl,h1⟩:=signy_one h
 have ap:=chars_apart.2.2.1 x h1
 refine xc2_4 x [] rfl ap.1 ap.2.1 (fun t a hd=>?_)
 unfold wordEnd
 rw [if_neg ap.2.2.1,if_neg ap.2.2.2.1,if_neg (fun z=>ap.2.2.2.2.1 z.1),if_pos h1]; rfl
theorem signy_brk {w r:List Nat} (h:signy w=true):Brk (w++r):=by
 obtain ⟨x,rfl,h1⟩:=signy_one h
 exact Brk.cons (chars_apart.2.2.1 x h1).2.2.2.2.2
noncomputable def Wk (w:List Nat):Prop:=wordy w=true∨numy w=true∨signy w=true
theorem Wk.endB {w r:List Nat} (h:Wk w) (hr:Brk r):WEnd w r:=by
 rcases h with h | h | h
 ·exact wordy_end h hr
 ·exact numy_end h hr
 ·exact signy_end h
theorem strIn_mem {w hay:List Nat} (h:strIn w hay=true):∀ x∈w,x∈hay:=by
 unfold strIn at h
 rw [StrLaws.found_iff] at h
 refine xi1 ?_ (h)
 intro i
 refine im2 ?_
 intro _ h2
 rw [StrLaws.subAt_eq] at h2
 intro x hx
 have e:(hay.drop i).take w.length=w:=by simpa [Str.length] using h2
 rw [← e] at hx
 exact List.mem_of_mem_drop (List.mem_of_mem_take hx)
theorem Wk.sign {w:List Nat} (h:Wk w) (hs:strIn w sigT=true):signy w=true:=by
 have hm:=strIn_mem hs
 have hsig:sigT=c_SIGNS:=rfl
 rcases h with h | h | h
 ·cases w with
  | nil=>cases h
  | cons x r =>
   simp only [wordy,Bool.and_eq_true,decide_eq_true_eq] at h
   exact absurd h.1 (chars_apart.2.2.1 x (hsig ▸ hm x (List.mem_cons_self ..))).2.2.1
 ·cases w with
  | nil=>cases h
  | cons x r =>
   have ap:=chars_apart.2.2.1 x (hsig ▸ hm x (List.mem_cons_self ..))
   simp only [numy,Bool.or_eq_true,Bool.and_eq_true,decide_eq_true_eq,beq_iff_eq] at h
   rcases h with h | h
   ·exact absurd h.1 ap.2.2.2.1
   ·exact absurd h.1.1 ap.2.2.2.2.1
 ·exact h
theorem gapM_ok:∀ g∈gapM,SkG g∧∃ x s,g=x::s∧x∈c_BLANKS:=by
 intro g hg
 simp only [gapM,List.mem_cons,List.not_mem_nil,or_false] at hg
 rcases hg with rfl | rfl | rfl | rfl | rfl | rfl
 ·exact ⟨skG_blank (by decide +kernel) SkG.nil,32,_,rfl,by decide +kernel⟩
 ·exact ⟨skG_blank (by decide +kernel) SkG.nil,10,_,rfl,by decide +kernel⟩
 ·exact ⟨skG_blank (by decide +kernel) (skG_blank (by decide +kernel) SkG.nil),9,_,rfl,by decide +kernel⟩
 ·exact ⟨skG_blank (x:=32) (by decide +kernel) (skG_comment (m:=tx " a ; { 'b") (by decide +kernel) (by decide +kernel) SkG.nil),32,_,rfl,by decide +kernel⟩
 ·exact ⟨skG_blank (by decide +kernel) (skG_blank (by decide +kernel) SkG.nil),13,_,rfl,by decide +kernel⟩
 ·exact ⟨skG_blank (x:=32) (by decide +kernel) (skG_comment (m:=tx " c }") (by decide +kernel) (by decide +kernel) SkG.nil),32,_,rfl,by decide +kernel⟩
theorem leadM_ok:∀ g∈leadM,SkG g:=by
 intro g hg
 simp only [leadM,List.mem_cons,List.not_mem_nil,or_false] at hg
 rcases hg with rfl | rfl | rfl | rfl
 ·exact SkG.nil
 ·exact skG_blank (by decide +kernel) SkG.nil
 ·exact skG_comment (m:=tx " lead }") (by decide +kernel) (by decide +kernel) SkG.nil
 ·exact skG_blank (by decide +kernel) SkG.nil
theorem finM_ok:∀ g∈finM,TokS g [[]]:=by
 intro g hg
 simp only [finM,List.mem_cons,List.not_mem_nil,or_false] at hg
 rcases hg with rfl | rfl
 ·exact TokS.nil
 ·exact TokS.fin (m:=tx " the end") (by decide +kernel)
theorem glue_toks {fin:List Nat} (hf:fin∈finM):∀ {ws gs:List (List Nat)},gs.length=ws.length→(∀ w∈ws,Wk w)→(∀ (j:Nat) g,gs[j]?=some g→GapOk ws j g)→TokS (glue ws gs++fin) (ws++[[]]):=by
 intro ws
 induction ws with
 | nil=>exact fun _ _ _=>finM_ok fin hf
 | cons w ws IH =>
  intro gs hl hw hg
  cases gs with
  | nil=>cases hl
  | cons g gs =>
  have ih:=IH (gs:=gs) (by simpa using hl) (fun w hw'=>hw w (List.mem_cons_of_mem _ hw')) fun j g' hj=>by
   rcases hg (j+1) g' hj with z | ⟨z,w1,w2,e1,e2,e3⟩
   ·exact .inl z
   ·exact .inr ⟨z,w1,w2,e1,e2,e3⟩
  have hww:=hw w (List.mem_cons_self ..)
  have e:glue (w::ws) (g::gs)++fin=w++(g++(glue ws gs++fin)):=by show (w++g++glue ws gs)++fin=_; simp
  rw [e,List.cons_append]
  rcases hg 0 g rfl with z | ⟨rfl,w1,w2,e1,e2,e3⟩
  ·refine im2 ?_ (gapM_ok g z)
   intro sg
   refine xi2 ?_
   intro x s
   refine im2 ?_
   intro hq133
   obtain rfl:=hq133
   intro hx
   exact TokS.word (hww.endB (Brk.cons (chars_apart.2.2.2.1 x hx))) (TokS.gap sg ih)
  ·cases e1
   rw [List.nil_append]
   refine TokS.word ?_ ih
   rcases e3 with e3 | e3
   ·exact signy_end (hww.sign e3)
   ·cases ws with
    | nil=>cases e2
    | cons w2 ws'=>cases gs with
     | nil=>simp at hl
     | cons g' gs' =>
     cases e2
     refine hww.endB ?_
     have:glue (w2::ws') (g'::gs')++fin=w2++(g'++glue ws' gs'++fin):=by show (w2++g'++glue ws' gs')++fin=_; simp
     rw [this]
     exact signy_brk ((hw w2 (by simp)).sign e3)
theorem LawText.toks {ws:List (List Nat)} {t:List Nat} (h:LawText ws t) (hw:∀ w∈ws,Wk w):TokS t (ws++[[]]):=by
 refine xi3 ?_ (h)
 intro lead fin gs
 refine im5 ?_
 intro h1 h2 h3 h4 hq134
 obtain rfl:=hq134
 rw [List.append_assoc]
 exact TokS.gap (leadM_ok lead h1) (glue_toks h2 h3 hw h4)
theorem TokS.at {t:List Nat} {ws:List (List Nat)} (h:TokS t ws):∃ W,TokAt t (skipTo t 0) W∧W.map (·.1)=ws:=h t 0 rfl (Nat.zero_le _)
noncomputable def gwB (w:List Nat):Bool:=(wordy w||numy w||signy w)&&decide (w.length≤20)
theorem gw_wk {w:List Nat} (h:gwB w=true):Wk w:=by
 simp only [gwB,Bool.and_eq_true,Bool.or_eq_true] at h
 rcases h.1 with (h | h) | h
 ·exact .inl h
 ·exact .inr (.inl h)
 ·exact .inr (.inr h)
theorem gw_len {w:List Nat} (h:gwB w=true):w.length≤20:=by
 simp only [gwB,Bool.and_eq_true,decide_eq_true_eq] at h
 exact h.2
theorem fig_mem {n:Nat} (h0:48≤n) (h1:n≤57):n∈c_FIGURES:=by
 have:∀ n,n < 58→48≤n→n∈c_FIGURES:=by decide +kernel
 exact this n (by exact ar433 h1) h0
theorem digit_fig {ch:Char} (h:ch.isDigit=true):ch.toNat∈c_FIGURES:=by
 unfold Char.isDigit at h
 simp only [Bool.and_eq_true,decide_eq_true_eq] at h
 exact fig_mem (by have:=h.1; exact this) (by have:=h.2; exact this)
theorem digs_all (m:Nat):∃ x r,(Nat.toDigits 10 m).map Char.toNat=x::r∧x∈c_FIGURES∧∀ y∈r,y∈c_FIGURES:=by
 have hne:=tDigits_len_ge 10 m
 have hall:∀ y∈(Nat.toDigits 10 m).map Char.toNat,y∈c_FIGURES:=fun y hy=>by
  refine xi1 ?_ (List.mem_map.mp hy)
  intro ch
  refine im2 ?_
  intro hch hq135
  obtain rfl:=hq135
  exact digit_fig (Nat.isDigit_of_mem_toDigits (by decide) (by decide) hch)
 cases e:(Nat.toDigits 10 m).map Char.toNat with
 | nil =>
  have:=congrArg List.length e
  rw [List.length_map,List.length_nil] at this
  exact (ar434 hne this).elim
 | cons x r =>
  rw [e] at hall
  exact xc2_3 x r rfl (hall x (List.mem_cons_self ..)) (fun y hy=>hall y (List.mem_cons_of_mem _ hy))
theorem numT_numy (i:Int):numy (numT i)=true:=by
 unfold numT
 cases i with
 | ofNat m =>
  rw [text_ofNat]
  refine xi2 ?_ (digs_all m)
  intro x r
  refine im3 ?_
  intro e h1 h2
  show numy ((Nat.toDigits 10 m).map Char.toNat)=true
  rw [e]
  simp only [numy,decide_eq_true h1,Bool.true_and,Bool.or_eq_true,List.all_eq_true,decide_eq_true_eq]
  exact .inl h2
 | negSucc m =>
  rw [signs_ofString]
  show numy ((("-"++Nat.repr (m+1)):String).toList.map Char.toNat)=true
  rw [String.toList_append,Nat.toList_repr,List.map_append]
  refine xi2 ?_ (digs_all (m+1))
  intro x r
  refine im3 ?_
  intro e h1 h2
  rw [e]
  show numy (45::(x::r))=true
  simp only [numy,Bool.or_eq_true,Bool.and_eq_true,List.all_eq_true,decide_eq_true_eq]
  refine .inr ⟨⟨rfl,rfl⟩,fun y hy=>?_⟩
  rcases List.mem_cons.mp hy with rfl | hy
  ·exact h1
  ·exact h2 y hy
theorem numOk_len {w:List Nat} {i:Int} (h:numOkB w i=true):w.length≤6:=by
 simp only [numOkB,Bool.and_eq_true,decide_eq_true_eq] at h
 exact h.1.1.2
theorem gw_num {i:Int} (h:numOkB (numT i) i=true):gwB (numT i)=true:=by
 unfold gwB
 rw [numT_numy,decide_eq_true (by have:=numOk_len h; exact ar435 this)]; simp
theorem gw_numIn {i:Int} (h:numIn i=true):gwB (numT i)=true:=by
 simp only [numIn,Bool.and_eq_true] at h
 exact gw_num h.1.1
noncomputable def Gws (ws:List (List Nat)):Prop:=∀ w∈ws,gwB w=true
theorem Gws.nil:Gws []:=fun _ h=>by cases h
theorem Gws.cons {w:List Nat} {ws:List (List Nat)} (h:gwB w=true) (k:Gws ws):Gws (w::ws):=fun x hx=>by
 rcases List.mem_cons.mp hx with rfl | hx
 ·exact h
 ·exact k x hx
theorem Gws.app {a b:List (List Nat)} (h:Gws a) (k:Gws b):Gws (a++b):=fun x hx=>by
 rcases List.mem_append.mp hx with hx | hx
 ·exact h x hx
 ·exact k x hx
theorem Gws.flat {α:Type} {f:α→List (List Nat)} {l:List α} (h:∀ a∈l,Gws (f a)):Gws (l.flatMap f):=fun x hx=>by
 refine xi1 ?_ (List.mem_flatMap.mp hx)
 intro a
 refine im2 ?_
 intro ha hx
 exact h a ha x hx
theorem gw_consts:(gwB (tx "sub")&&gwB (tx "by")&&gwB (tx "NULL")&&gwB (tx "from")&&gwB (tx "pos")&&gwB (tx "lookup")&&gwB (tx "flag")&&gwB (tx "feature")&&gwB (tx "script")&&gwB (tx "language")&&gwB (tx "[")&&gwB (tx "]")&&gwB (tx "{")&&gwB (tx "}")&&gwB (tx "<")&&gwB (tx ">")&&gwB (tx ";")&&gwB (tx "'"))=true:=by decide +kernel
theorem gw_glyph {g:List Nat} (h:g∈c_glyphs):gwB g=true:=by
 have:∀ g∈c_glyphs,gwB g=true:=by decide +kernel
 exact this g h
theorem gw_menus:(∀ w∈nms3,gwB w=true)∧(∀ w∈tagM,gwB w=true)∧(∀ w∈scrM,gwB w=true)∧∀ w∈lanM,gwB w=true:=by decide +kernel
theorem gws_set {gs:List (List Nat)} (h:∀ g∈gs,g∈c_glyphs) (long:Bool):Gws (setW gs long):=by
 have hg:Gws gs:=fun g hg=>gw_glyph (h g hg)
 have cs:=gw_consts
 simp only [Bool.and_eq_true] at cs
 unfold setW
 split
 ·exact hg
 ·exact Gws.cons (by decide +kernel) (hg.app (Gws.cons (by decide +kernel) Gws.nil))
theorem gws_worth {w:Worth} (h:worthOk w=true) (long:Bool):Gws (worthW w long):=by
 simp only [worthOk,Bool.and_eq_true] at h
 refine im2 ?_ (h)
 refine im2 ?_
 refine im2 ?_
 intro h1 h2 h3 h4
 unfold worthW
 split
 ·exact Gws.cons (gw_numIn h3) Gws.nil
 ·exact Gws.cons (by decide +kernel) (Gws.cons (gw_numIn h1) (Gws.cons (gw_numIn h2) (Gws.cons (gw_numIn h3) (Gws.cons (gw_numIn h4) (Gws.cons (by decide +kernel) Gws.nil)))))
theorem gws_row:∀ {row:RowD} (long:Bool),RowOk row→(∀ u∈rowUses row,gwB u=true)→Gws (rowW row long)
 | .single a b,long,ok,_=>by
  show Gws (tx "sub"::([a]++([tx "by",b]++[tx ";"])))
  exact Gws.cons (by decide +kernel) (Gws.cons (gw_glyph ok.1) (Gws.cons (by decide +kernel) (Gws.cons (gw_glyph ok.2) (Gws.cons (by decide +kernel) Gws.nil))))
 | .multiple a [],long,ok,_=>by
  show Gws (tx "sub"::([a]++([tx "by",tx "NULL"]++[tx ";"])))
  exact Gws.cons (by decide +kernel) (Gws.cons (gw_glyph ok.1) (Gws.cons (by decide +kernel) (Gws.cons (by decide +kernel) (Gws.cons (by decide +kernel) Gws.nil))))
 | .multiple a (b::bs),long,ok,_=>by
  show Gws (tx "sub"::([a]++((tx "by"::b::bs)++[tx ";"])))
  exact Gws.cons (by decide +kernel) (Gws.cons (gw_glyph ok.1) (Gws.cons (by decide +kernel) (Gws.app (a:=b::bs) (fun g hg=>gw_glyph (ok.2.2 g hg)) (Gws.cons (by decide +kernel) Gws.nil))))
 | .alternate a bs,long,ok,_=>by
  show Gws (tx "sub"::([a]++((tx "from"::tx "["::(bs++[tx "]"]))++[tx ";"])))
  exact Gws.cons (by decide +kernel) (Gws.cons (gw_glyph ok.1) (Gws.cons (by decide +kernel) (Gws.cons (by decide +kernel) (Gws.app (Gws.app (fun g hg=>gw_glyph (ok.2.1 g hg)) (Gws.cons (by decide +kernel) Gws.nil)) (Gws.cons (by decide +kernel) Gws.nil)))))
 | .ligature as b,long,ok,_=>by
  have e:rowW (.ligature as b) long=tx "sub"::(as++([tx "by",b]++[tx ";"])):=by unfold rowW rowIts rowLong; rw [plain_words]; rfl
  rw [e]
  exact Gws.cons (by decide +kernel) (Gws.app (fun g hg=>gw_glyph (ok.2.2.1 g hg)) (Gws.cons (by decide +kernel) (Gws.cons (gw_glyph ok.2.2.2) (Gws.cons (by decide +kernel) Gws.nil))))
 | .adjust a w,long,ok,_=>by
  show Gws (tx "pos"::a::(worthW w long++[tx ";"]))
  exact Gws.cons (by decide +kernel) (Gws.cons (gw_glyph ok.1) (Gws.app (gws_worth ok.2 long) (Gws.cons (by decide +kernel) Gws.nil)))
 | .pair a b w,long,ok,_=>by
  show Gws (tx "pos"::a::b::(worthW w long++[tx ";"]))
  exact Gws.cons (by decide +kernel) (Gws.cons (gw_glyph ok.1) (Gws.cons (gw_glyph ok.2.1) (Gws.app (gws_worth ok.2.2 long) (Gws.cons (by decide +kernel) Gws.nil))))
 | .chain w back ins ahead,long,ok,hu=>by
  rw [chainW]
  refine im5 ?_ (ok)
  intro o1 o2 o3 o4 _
  refine Gws.app (Gws.app (Gws.app (Gws.app (Gws.cons ?_ Gws.nil) (Gws.flat fun g hg=>gws_set (o2 g hg).1 long)) (Gws.flat fun p hp=>?_)) (Gws.flat fun g hg=>gws_set (o4 g hg).1 long)) (Gws.cons (by decide +kernel) Gws.nil)
  ·rcases o1 with rfl | rfl <;> decide +kernel
  ·unfold insW
   refine Gws.app (gws_set (o3 p hp).1.1 long) (Gws.cons (by decide +kernel) (Gws.flat fun u hu'=>Gws.cons (by decide +kernel) (Gws.cons (hu u ?_) Gws.nil)))
   exact List.mem_flatten.mpr ⟨p.2,List.mem_map_of_mem hp,hu'⟩
theorem gws_look {nms:List (List Nat)} {l:LookD} (h:LawLook nms l) (hn:∀ u∈nms,gwB u=true) (hm:l.name∈nms) (long:Bool):Gws (lookW l long):=by
 unfold lookW
 refine Gws.cons (by decide +kernel) (Gws.cons (hn _ hm) (Gws.app ?_ (Gws.cons (by decide +kernel) (Gws.app (Gws.flat fun row hr=>gws_row long (h.ok.rows row hr) fun u hu=>hn u (h.uses u ?_)) (Gws.cons (by decide +kernel) Gws.nil)))))
 ·unfold flagW
  split
  ·exact Gws.cons (by decide +kernel) (Gws.cons (gw_num h.ok.flagN) Gws.nil)
  ·exact Gws.nil
 ·exact List.mem_flatten.mpr ⟨_,List.mem_map_of_mem hr,hu⟩
theorem gws_feat {nms:List (List Nat)} {f:FeatD} (h:LawFeat nms f) (hn:∀ u∈nms,gwB u=true) (long:Bool):Gws (featW f long):=by
 unfold featW
 refine Gws.cons (by decide +kernel) (Gws.cons (gw_menus.2.1 _ h.tag) (Gws.app ?_ (Gws.app ?_ (Gws.cons (by decide +kernel) (Gws.app (fun u hu=>hn u (h.uses u hu)) (Gws.cons (by decide +kernel) Gws.nil))))))
 ·unfold scrW
  split
  ·exact Gws.cons (by decide +kernel) (Gws.cons (gw_menus.2.2.1 _ h.script) Gws.nil)
  ·exact Gws.nil
 ·unfold lanW
  split
  ·exact Gws.cons (by decide +kernel) (Gws.cons (gw_menus.2.2.2 _ h.language) Gws.nil)
  ·exact Gws.nil
theorem LawTree.gn {ls:List LookD} {fs:List FeatD} (h:LawTree ls fs):∀ u∈namesOf ls,gwB u=true:=fun u hu=>by
 refine xi1 ?_ (h.names)
 intro m
 refine im3 ?_
 intro _ _ e
 rw [e] at hu
 exact gw_menus.1 u (List.mem_of_mem_take hu)
theorem LawTree.gws {ls:List LookD} {fs:List FeatD} (h:LawTree ls fs) (long:Bool):Gws (looksW ls long++featsW fs long) :=
 Gws.app (Gws.flat fun l hl=>gws_look (h.looks l hl) h.gn (List.mem_map_of_mem hl) long) (Gws.flat fun f hf=>gws_feat (h.feats f hf) h.gn long)
theorem fm_len {α β:Type} {f:α→List β} {B:Nat}:∀ {l:List α},(∀ a∈l,(f a).length≤B)→(l.flatMap f).length≤B * l.length
 | [],_=>by simp
 | a::l,h=>by
  have:=fm_len (l:=l) fun x hx=>h x (List.mem_cons_of_mem _ hx)
  have:=h a (List.mem_cons_self ..)
  rw [List.flatMap_cons,List.length_append,List.length_cons,Nat.mul_add]
  exact ar436 (by assumption) this
theorem rowW_len:∀ {row:RowD} (long:Bool),RowSmall row→(rowW row long).length≤60
 | .single a b,long,_=>by show (tx "sub"::([a]++([tx "by",b]++[tx ";"]))).length≤60; simp
 | .multiple a [],long,_=>by show (tx "sub"::([a]++([tx "by",tx "NULL"]++[tx ";"]))).length≤60; simp
 | .multiple a (b::bs),long,sm=>by
  have h:(b::bs).length≤3:=sm
  show (tx "sub"::([a]++((tx "by"::b::bs)++[tx ";"]))).length≤60
  simp at h ⊢
  exact ar437 h
 | .alternate a bs,long,sm=>by
  have h:bs.length≤3:=sm
  show (tx "sub"::([a]++((tx "from"::tx "["::(bs++[tx "]"]))++[tx ";"]))).length≤60
  simp
  exact ar438 h
 | .ligature as b,long,sm=>by
  have h:as.length≤3:=sm
  have e:rowW (.ligature as b) long=tx "sub"::(as++([tx "by",b]++[tx ";"])):=by unfold rowW rowIts rowLong; rw [plain_words]; rfl
  rw [e]
  simp
  exact ar439 h
 | .adjust a w,long,_=>by
  show (tx "pos"::([a]++(worthW w long++[tx ";"]))).length≤60
  unfold worthW; split <;> simp
 | .pair a b w,long,_=>by
  show (tx "pos"::([a,b]++(worthW w long++[tx ";"]))).length≤60
  unfold worthW; split <;> simp
 | .chain w back ins ahead,long,sm=>by
  refine im6 ?_ (sm)
  intro s1 s2 s3 s4 s5 s6
  rw [chainW]
  have a1:=fm_len (f:=(setW · long)) (B:=4) (l:=back) fun g hg=>by have:=setW_len g long; have:=s4 g hg; exact ar440 (by assumption) this
  have a3:=fm_len (f:=(setW · long)) (B:=4) (l:=ahead) fun g hg=>by have:=setW_len g long; have:=s6 g hg; exact ar440 (by assumption) this
  have a2:=fm_len (f:=insW long) (B:=9) (l:=ins) fun p hp=>by
   have:=setW_len p.1 long
   have:=(s5 p hp).1
   have:=(s5 p hp).2
   have:=useW_len p.2
   unfold insW; rw [List.length_append,List.length_cons]; exact ar441 (by assumption) (by assumption) (by assumption) this
  simp only [List.length_append,List.length_cons,List.length_nil]
  exact ar442 s1 s2 s3 a1 a3 a2
theorem lookW_len {nms:List (List Nat)} {l:LookD} (h:LawLook nms l) (long:Bool):(lookW l long).length≤130:=by
 have a:=fm_len (f:=(rowW · long)) (B:=60) (l:=l.rows) fun row hr=>rowW_len long (h.small row hr)
 have b:=h.len
 have d:(flagW l long).length≤2:=by unfold flagW; split <;> simp
 have e:(rowsW l.rows long).length≤60 * l.rows.length:=a
 unfold lookW
 simp only [List.length_append,List.length_cons,List.length_nil]
 exact ar443 b d e
theorem featW_len {nms:List (List Nat)} {f:FeatD} (h:LawFeat nms f) (long:Bool):(featW f long).length≤12:=by
 have b:=h.len
 have hs2:(scrW f long).length≤2:=by unfold scrW; split <;> simp
 have hl2:(lanW f long).length≤2:=by unfold lanW; split <;> simp
 unfold featW
 simp only [List.length_append,List.length_cons,List.length_nil]
 exact ar444 b hs2 hl2
theorem LawTree.lenL {ls:List LookD} {fs:List FeatD} (h:LawTree ls fs):ls.length≤3∧0 < ls.length:=by
 refine xi1 ?_ (h.names)
 intro m
 refine im3 ?_
 intro h0 h3 e
 have:=congrArg List.length e
 rw [(nms3_take h0 h3).2] at this
 unfold namesOf at this
 rw [List.length_map] at this
 exact ar445 h0 h3 this
theorem LawTree.wordsLen {ls:List LookD} {fs:List FeatD} (h:LawTree ls fs) (long:Bool):(looksW ls long++featsW fs long).length≤420:=by
 have a:=fm_len (f:=(lookW · long)) (B:=130) (l:=ls) fun l hl=>lookW_len (h.looks l hl) long
 have b:=fm_len (f:=(featW · long)) (B:=12) (l:=fs) fun f hf=>featW_len (h.feats f hf) long
 have a':(looksW ls long).length≤130 * ls.length:=a
 have b':(featsW fs long).length≤12 * fs.length:=b
 have:=h.lenL
 have:=h.lenF
 rw [List.length_append]
 exact ar446 a' b' (by assumption) this
theorem LawTree.ok {ls:List LookD} {fs:List FeatD} (h:LawTree ls fs):TreeOk ls fs:=by
 refine xi1 ?_ (h.names)
 intro m
 refine im3 ?_
 intro h0 h3 e
 have hn3:nms3.Nodup∧(∀ u∈nms3,isName u=true∧chOk u=true)∧(∀ w∈tagM,isName w=true∧w.length≤4)∧(∀ w∈scrM,isName w=true∧w.length≤4)∧∀ w∈lanM,isName w=true∧w.length≤4:=by decide +kernel
 have hnm:∀ u∈namesOf ls,u∈nms3:=fun u hu=>List.mem_of_mem_take (e ▸ hu)
 have:=h.lenL
 have:=h.lenF
 refine ⟨fun l hl=>(h.looks l hl).ok,fun f hf=>?_,by rw [e]; exact hn3.1.sublist (List.take_sublist _ _),fun l hl=>(hn3.2.1 _ (hnm _ (List.mem_map_of_mem hl))).2,fun l hl=>(h.looks l hl).uses,fun f hf=>(h.feats f hf).uses,by exact ar447 (by assumption),by exact ar448 this,fun l hl=>?_⟩
 ·have q:=h.feats f hf
  exact ⟨hn3.2.2.1 _ q.tag,hn3.2.2.2.1 _ q.script,hn3.2.2.2.2 _ q.language,q.ne,by have:=q.len; exact ar290 this,fun u hu=>(hn3.2.1 _ (hnm _ (q.uses u hu))).1⟩
 ·have q:=h.looks l hl
  have a:=fm_len (f:=rowUses) (B:=4) (l:=l.rows) fun row hr=>uses_small (q.small row hr)
  have b:=q.len
  unfold lookUses
  rw [← List.flatMap_def]
  exact ar449 a b
structure Pc (s:List Nat) (ws:List (List Nat)):Prop where
 tok:∀ r us,Brk r→TokS r us→TokS (s++r) (ws++us)
 dn:dense s=ws.flatten
structure Pf (s:List Nat) (ws:List (List Nat)):Prop where
 tok:∀ r us,TokS r us→TokS (s++r) (ws++us)
 dn:dense s=ws.flatten
noncomputable def hdB:List Nat→Bool
 | []=>false
 | y::_=>!decide (y∈alnum)
theorem hdB_app {s t:List Nat} (h:hdB s=true):hdB (s++t)=true:=by
 cases s with
 | nil=>cases h
 | cons y r=>exact h
theorem hdB_brk {s:List Nat} (h:hdB s=true):Brk s:=by
 cases s with
 | nil=>cases h
 | cons y r=>exact Brk.cons (by simpa [hdB] using h)
theorem dense_app (a b:List Nat):dense (a++b)=dense a++dense b:=List.filter_append ..
theorem Pf.pc {s:List Nat} {u:List (List Nat)} (h:Pf s u):Pc s u:=⟨fun r us _ k=>h.tok r us k,h.dn⟩
theorem Pf.app {s t:List Nat} {u v:List (List Nat)} (a:Pf s u) (b:Pf t v):Pf (s++t) (u++v) :=
 ⟨fun r us k=>by rw [List.append_assoc,List.append_assoc]; exact a.tok _ _ (b.tok _ _ k),by rw [dense_app,a.dn,b.dn,List.flatten_append]⟩
theorem Pf.appc {s t:List Nat} {u v:List (List Nat)} (a:Pf s u) (b:Pc t v):Pc (s++t) (u++v) :=
 ⟨fun r us k h=>by rw [List.append_assoc,List.append_assoc]; exact a.tok _ _ (b.tok _ _ k h),by rw [dense_app,a.dn,b.dn,List.flatten_append]⟩
theorem Pc.appf {s t:List Nat} {u v:List (List Nat)} (a:Pc s u) (b:Pf t v) (h:hdB t=true):Pf (s++t) (u++v) :=
 ⟨fun r us k=>by rw [List.append_assoc,List.append_assoc]; exact a.tok _ _ (hdB_brk (hdB_app h)) (b.tok _ _ k),by rw [dense_app,a.dn,b.dn,List.flatten_append]⟩
theorem Pc.app {s t:List Nat} {u v:List (List Nat)} (a:Pc s u) (b:Pc t v) (h:hdB t=true):Pc (s++t) (u++v) :=
 ⟨fun r us k h'=>by rw [List.append_assoc,List.append_assoc]; exact a.tok _ _ (hdB_brk (hdB_app h)) (b.tok _ _ k h'),by rw [dense_app,a.dn,b.dn,List.flatten_append]⟩
theorem Pc.nil:Pc [] []:=⟨fun r us _ h=>h,rfl⟩
theorem no_space:∀ x∈45::(alnum++c_SIGNS),Unicode.isSpace x=false:=by decide +kernel
theorem wk_chars {w:List Nat} (h:Wk w):∀ x∈w,x∈45::(alnum++c_SIGNS):=by
 intro x hx
 rcases h with h | h | h
 ·cases w with
  | nil=>cases hx
  | cons y r =>
   simp only [wordy,Bool.and_eq_true,decide_eq_true_eq,List.all_eq_true] at h
   refine List.mem_cons_of_mem _ (List.mem_append_left _ ?_)
   rcases List.mem_cons.mp hx with rfl | hx
   ·exact List.mem_append_left _ h.1
   ·exact h.2 x hx
 ·cases w with
  | nil=>cases hx
  | cons y r =>
   simp only [numy,Bool.or_eq_true,Bool.and_eq_true,decide_eq_true_eq,List.all_eq_true,beq_iff_eq] at h
   rcases List.mem_cons.mp hx with rfl | hx
   ·rcases h with h | h
    ·exact List.mem_cons_of_mem _ (List.mem_append_left _ (List.mem_append_right _ h.1))
    ·rw [h.1.1]
     exact List.mem_cons_self ..
   ·have:x∈c_FIGURES:=h.elim (fun h=>h.2 x hx) (fun h=>h.2 x hx)
    exact List.mem_cons_of_mem _ (List.mem_append_left _ (List.mem_append_right _ this))
 ·match w,h with
  | [y],h =>
   rw [List.mem_singleton.mp hx]
   exact List.mem_cons_of_mem _ (List.mem_append_right _ (by simpa [signy] using h))
theorem dense_wk {w:List Nat} (h:Wk w):dense w=w:=by
 dsimp only [dense]
 rw [List.filter_eq_self]
 intro x hx
 rw [no_space x (wk_chars h x hx)]
 rfl
theorem Pc.word {w:List Nat} (h:gwB w=true):Pc w [w] :=
 ⟨fun r us hr k=>TokS.word ((gw_wk h).endB hr) k,by rw [dense_wk (gw_wk h)]; simp⟩
theorem Pf.sign {w:List Nat} (h:signy w=true):Pf w [w] :=
 ⟨fun r us k=>TokS.word (signy_end h) k,by rw [dense_wk (.inr (.inr h))]; simp⟩
noncomputable def blanky (g:List Nat):Bool:=g.all fun x=>decide (x∈c_BLANKS)
theorem skG_all:∀ {g:List Nat},blanky g=true→SkG g
 | [],_=>SkG.nil
 | x::g,h=>by
  simp only [blanky,List.all_cons,Bool.and_eq_true,decide_eq_true_eq] at h
  exact skG_blank h.1 (skG_all h.2)
theorem blank_space:∀ x∈c_BLANKS,Unicode.isSpace x=true:=by decide +kernel
theorem Pf.blank {g:List Nat} (h:blanky g=true):Pf g [] :=
 ⟨fun r us k=>TokS.gap (skG_all h) k,by
  dsimp only [dense]
  rw [List.filter_eq_nil_iff.mpr]
  ·rfl
  intro x hx
  simp only [blanky,List.all_eq_true,decide_eq_true_eq] at h
  rw [blank_space x (h x hx)]
  decide⟩
theorem Pf.wb {w g s:List Nat} (h:gwB w=true) (hg:blanky g=true) (hb:hdB g=true) (e:s=w++g):Pf s [w]:=by
 rw [e]
 exact (Pc.word h).appf (Pf.blank hg) hb
theorem Pf.bwb {f w g s:List Nat} (hf:blanky f=true) (h:gwB w=true) (hg:blanky g=true) (hb:hdB g=true) (e:s=f++(w++g)):Pf s [w]:=by
 rw [e]
 exact (Pf.blank hf).app (Pf.wb h hg hb rfl)
theorem p_sub:Pf (tx "sub ") [tx "sub"]:=Pf.wb (g:=tx " ") (by decide +kernel) (by decide +kernel) (by decide +kernel) rfl
theorem p_pos:Pf (tx "pos ") [tx "pos"]:=Pf.wb (g:=tx " ") (by decide +kernel) (by decide +kernel) (by decide +kernel) rfl
theorem p_lookup:Pf (tx "lookup ") [tx "lookup"]:=Pf.wb (g:=tx " ") (by decide +kernel) (by decide +kernel) (by decide +kernel) rfl
theorem p_feature:Pf (tx "feature ") [tx "feature"]:=Pf.wb (g:=tx " ") (by decide +kernel) (by decide +kernel) (by decide +kernel) rfl
theorem p_by:Pf (tx " by ") [tx "by"]:=Pf.bwb (f:=tx " ") (g:=tx " ") (by decide +kernel) (by decide +kernel) (by decide +kernel) (by decide +kernel) rfl
theorem p_flag:Pf (tx " flag ") [tx "flag"]:=Pf.bwb (f:=tx " ") (g:=tx " ") (by decide +kernel) (by decide +kernel) (by decide +kernel) (by decide +kernel) rfl
theorem p_script:Pf (tx " script ") [tx "script"]:=Pf.bwb (f:=tx " ") (g:=tx " ") (by decide +kernel) (by decide +kernel) (by decide +kernel) (by decide +kernel) rfl
theorem p_language:Pf (tx " language ") [tx "language"]:=Pf.bwb (f:=tx " ") (g:=tx " ") (by decide +kernel) (by decide +kernel) (by decide +kernel) (by decide +kernel) rfl
theorem p_from:Pf (tx " from [") [tx "from",tx "["]:=(Pf.bwb (f:=tx " ") (w:=tx "from") (g:=tx " ") (by decide +kernel) (by decide +kernel) (by decide +kernel) (by decide +kernel) rfl).app (Pf.sign (w:=tx "[") (by decide +kernel))
theorem p_close:Pf (tx "];") [tx "]",tx ";"]:=(Pf.sign (w:=tx "]") (by decide +kernel)).app (Pf.sign (w:=tx ";") (by decide +kernel))
theorem p_semi:Pf (tx ";") [tx ";"]:=Pf.sign (by decide +kernel)
theorem p_sp:Pf (tx " ") []:=Pf.blank (by decide +kernel)
theorem p_nl:Pf (tx "\n") []:=Pf.blank (by decide +kernel)
theorem p_in:Pf (tx "    ") []:=Pf.blank (by decide +kernel)
theorem p_open:Pf (tx " {") [tx "{"]:=p_sp.app (Pf.sign (w:=tx "{") (by decide +kernel))
theorem p_openb:Pf (tx " { ") [tx "{"]:=p_open.app p_sp
theorem p_end:Pf (tx "}") [tx "}"]:=Pf.sign (by decide +kernel)
theorem p_endb:Pf (tx " }") [tx "}"]:=p_sp.app p_end
theorem p_quote:Pf (tx "'") [tx "'"]:=Pf.sign (by decide +kernel)
theorem p_sq:Pf (tx "[") [tx "["]:=Pf.sign (by decide +kernel)
theorem p_sqe:Pf (tx "]") [tx "]"]:=Pf.sign (by decide +kernel)
theorem p_lt:Pf (tx "<") [tx "<"]:=Pf.sign (by decide +kernel)
theorem p_gt:Pf (tx ">") [tx ">"]:=Pf.sign (by decide +kernel)
theorem hd_consts:(hdB (tx " by ")&&hdB (tx ";")&&hdB (tx " from [")&&hdB (tx "];")&&hdB (tx " ")&&hdB (tx "]")&&hdB (tx ">")&&hdB (tx "'")&&hdB (tx " flag ")&&hdB (tx " {")&&hdB (tx " script ")&&hdB (tx " language ")&&hdB (tx " { ")&&hdB (tx " }")&&hdB (tx "\n"))=true:=by decide +kernel
theorem joinPc:∀ (ps:List (List Nat×List (List Nat))),(∀ p∈ps,Pc p.1 p.2)→Pc (joinL (tx " ") (ps.map (·.1))) (ps.flatMap (·.2))
 | [],_=>Pc.nil
 | [p],h=>by have:=h p (List.mem_cons_self ..); simpa [joinL] using this
 | p::q::r,h=>by
  have ih:=joinPc (q::r) fun x hx=>h x (List.mem_cons_of_mem _ hx)
  have h1:=((h p (List.mem_cons_self ..)).appf p_sp (by decide +kernel)).appc ih
  rw [List.append_nil] at h1
  exact h1
theorem joinWords {ws:List (List Nat)} (h:Gws ws):Pc (joinL (tx " ") ws) ws:=by
 have:=joinPc (ws.map fun w=>(w,[w])) fun p hp=>by
  refine xi1 ?_ (List.mem_map.mp hp)
  intro w
  refine im2 ?_
  intro hw hq136
  obtain rfl:=hq136
  exact Pc.word (h w hw)
 rw [List.map_map,List.flatMap_map] at this
 have e1:ws.map ((fun x:List Nat×List (List Nat)=>x.1) ∘ fun w=>(w,[w]))=ws:=by rw [show ((fun x:List Nat×List (List Nat)=>x.1) ∘ fun w:List Nat=>(w,[w]))=id from rfl,List.map_id]
 have e2:(ws.flatMap fun w=>[w])=ws:=by simp
 rw [e1] at this
 rw [show (ws.flatMap fun a=>(a,[a]).2)=ws.flatMap fun w=>[w] from rfl,e2] at this
 exact this
theorem joinPf:∀ (ps:List (List Nat×List (List Nat))),(∀ p∈ps,Pf p.1 p.2)→Pf (joinL (tx "\n") (ps.map (·.1))) (ps.flatMap (·.2))
 | [],_=>⟨fun r us h=>h,rfl⟩
 | [p],h=>by have:=h p (List.mem_cons_self ..); simpa [joinL] using this
 | p::q::r,h=>by
  have ih:=joinPf (q::r) fun x hx=>h x (List.mem_cons_of_mem _ hx)
  have h1:=((h p (List.mem_cons_self ..)).app p_nl).app ih
  rw [List.append_nil] at h1
  exact h1
theorem set_pc {gs:List (List Nat)} (h:∀ g∈gs,g∈c_glyphs):Pc (setT gs) (setW gs false):=by
 have hg:Gws gs:=fun g hg=>gw_glyph (h g hg)
 have big:Pc (tx "["++joinL (tx " ") gs++tx "]") (tx "["::(gs++[tx "]"])):=by
  have:=((p_sq.appc (joinWords hg)).appf p_sqe (by decide +kernel)).pc
  simpa using this
 match gs,h,hg,big with
 | [],_,_,big=>exact big
 | [g],_,hg,_=>exact Pc.word (hg g (by simp))
 | a::b::r,_,_,big =>
  have e:setW (a::b::r) false=tx "["::((a::b::r)++[tx "]"]):=by unfold setW; rw [if_neg (by simp)]
  rw [e]
  exact big
theorem worth_pc {w:Worth} (h:worthOk w=true):Pc (worthT w) (worthW w false):=by
 have h':=h
 simp only [worthOk,Bool.and_eq_true] at h'
 refine im2 ?_ (h')
 refine im2 ?_
 refine im2 ?_
 intro h1 h2 h3 h4
 unfold worthT worthW
 rw [show ((w.1==0&&w.2.1==0&&w.2.2.2==0)&&!false)=(w.1==0&&w.2.1==0&&w.2.2.2==0) by simp]
 split
 ·exact Pc.word (gw_numIn h3)
 ·have:=((p_lt.appc (joinWords (Gws.cons (gw_numIn h1) (Gws.cons (gw_numIn h2) (Gws.cons (gw_numIn h3) (Gws.cons (gw_numIn h4) Gws.nil)))))).appf p_gt (by decide +kernel)).pc
  simpa using this
theorem row_pf:∀ {row:RowD},RowOk row→(∀ u∈rowUses row,gwB u=true)→Pf (rowT row) (rowW row false)
 | .single a b,ok,_=>((((p_sub.appc (Pc.word (gw_glyph ok.1))).appf p_by (by decide +kernel)).appc (Pc.word (gw_glyph ok.2))).appf p_semi (by decide +kernel))
 | .multiple a [],ok,_=>((((p_sub.appc (Pc.word (gw_glyph ok.1))).appf p_by (by decide +kernel)).appc (Pc.word (w:=tx "NULL") (by decide +kernel))).appf p_semi (by decide +kernel))
 | .multiple a (b::bs),ok,_=>by
  have:=((((p_sub.appc (Pc.word (gw_glyph ok.1))).appf p_by (by decide +kernel)).appc (joinWords (ws:=b::bs) fun g hg=>gw_glyph (ok.2.2 g hg))).appf p_semi (by decide +kernel))
  have e:rowT (.multiple a (b::bs))=tx "sub "++a++tx " by "++joinL (tx " ") (b::bs)++tx ";":=by show tx "sub "++a++tx " by "++(if (b::bs).length > 0 then _ else _)++tx ";"=_; rw [if_pos (by simp)]
  rw [e]
  simpa [rowW,rowHead,rowIts,rowLong,rowTail,itemsW,itemW,plainIt,setW] using this
 | .alternate a bs,ok,_=>by
  have:=((((p_sub.appc (Pc.word (gw_glyph ok.1))).appf p_from (by decide +kernel)).appc (joinWords (ws:=bs) fun g hg=>gw_glyph (ok.2.1 g hg))).appf p_close (by decide +kernel))
  simpa [rowT,rowW,rowHead,rowIts,rowLong,rowTail,itemsW,itemW,plainIt,setW] using this
 | .ligature as b,ok,_=>by
  have:=((((p_sub.appc (joinWords (ws:=as) fun g hg=>gw_glyph (ok.2.2.1 g hg))).appf p_by (by decide +kernel)).appc (Pc.word (gw_glyph ok.2.2.2))).appf p_semi (by decide +kernel))
  have e:rowW (.ligature as b) false=[tx "sub"]++as++[tx "by"]++[b]++[tx ";"]:=by unfold rowW rowIts rowLong; rw [plain_words]; simp [rowHead,rowTail]
  rw [e]
  exact this
 | .adjust a w,ok,_=>by
  have:=((((p_pos.appc (joinWords (ws:=[a]) (Gws.cons (gw_glyph ok.1) Gws.nil))).appf p_sp (by decide +kernel)).appc (worth_pc ok.2)).appf p_semi (by decide +kernel))
  simpa [rowT,rowW,rowHead,rowIts,rowLong,rowTail,itemsW,itemW,plainIt,setW] using this
 | .pair a b w,ok,_=>by
  have:=((((p_pos.appc (joinWords (ws:=[a,b]) (Gws.cons (gw_glyph ok.1) (Gws.cons (gw_glyph ok.2.1) Gws.nil)))).appf p_sp (by decide +kernel)).appc (worth_pc ok.2.2)).appf p_semi (by decide +kernel))
  simpa [rowT,rowW,rowHead,rowIts,rowLong,rowTail,itemsW,itemW,plainIt,setW] using this
 | .chain w back ins ahead,ok,hu=>by
  refine im5 ?_ (ok)
  intro o1 o2 o3 o4 _
  have hw:gwB w=true:=by rcases o1 with rfl | rfl <;> decide +kernel
  let ps:List (List Nat×List (List Nat)):=(w,[w])::(back.map (fun g=>(setT g,setW g false))++(ins.flatMap (fun p=>(setT p.1++tx "'",setW p.1 false++[tx "'"])::p.2.map fun u=>(useT u,[tx "lookup",u]))++ahead.map (fun g=>(setT g,setW g false))))
  have hp:=joinPc ps fun p hp=>by
   rcases List.mem_cons.mp hp with rfl | hp
   ·exact Pc.word hw
   rcases List.mem_append.mp hp with hp | hp
   ·refine xi1 ?_ (List.mem_map.mp hp)
    intro g
    refine im2 ?_
    intro hg hq137
    obtain rfl:=hq137
    exact set_pc (o2 g hg).1
   rcases List.mem_append.mp hp with hp | hp
   ·refine xi1 ?_ (List.mem_flatMap.mp hp)
    intro q
    refine im2 ?_
    intro hq hp
    rcases List.mem_cons.mp hp with rfl | hp
    ·exact ((set_pc (o3 q hq).1.1).appf p_quote (by decide +kernel)).pc
    ·refine xi1 ?_ (List.mem_map.mp hp)
     intro u
     refine im2 ?_
     intro hu' hq138
     obtain rfl:=hq138
     exact p_lookup.appc (Pc.word (hu u (List.mem_flatten.mpr ⟨q.2,List.mem_map_of_mem hq,hu'⟩)))
   ·refine xi1 ?_ (List.mem_map.mp hp)
    intro g
    refine im2 ?_
    intro hg hq139
    obtain rfl:=hq139
    exact set_pc (o4 g hg).1
  have e1:ps.map (·.1)=chainP w back ins ahead:=by
   simp only [ps,chainP,insT,List.map_cons,List.map_append,List.map_map,List.map_flatMap]
   rfl
  have e2:ps.flatMap (·.2)=[w]++back.flatMap (setW · false)++ins.flatMap (insW false)++ahead.flatMap (setW · false):=by
   have e3:∀ us:List (List Nat),(us.map fun u=>(useT u,[tx "lookup",u])).flatMap (·.2)=useW us:=fun us=>by rw [List.flatMap_map]; rfl
   simp only [ps,List.flatMap_cons,List.flatMap_append,List.flatMap_map,List.flatMap_assoc,e3]
   simp [useW]
   rfl
  rw [e1,e2] at hp
  have:=hp.appf p_semi (by decide +kernel)
  rw [chainW]
  exact this
theorem look_lines {nms:List (List Nat)} {l:LookD} (h:LawLook nms l) (hn:∀ u∈nms,gwB u=true) (hm:l.name∈nms):∃ ps:List (List Nat×List (List Nat)),ps.map (·.1)=lookT l∧ps.flatMap (·.2)=lookW l false∧∀ p∈ps,Pf p.1 p.2:=by
 revert h hn hm
 revert nms l
 walk_at "close 2"
 intro nms l h hn hm
 refine xc1_3 ((tx "lookup "++l.name++flagT l++tx " {",[tx "lookup"]++[l.name]++flagW l false++[tx "{"])::(l.rows.map (fun row=>(tx "    "++rowT row,rowW row false))++[(tx "}",[tx "}"])])) ?_ ?_ (fun p hp=>?_)
 ·simp [lookT,Function.comp_def]
 ·simp [lookW,rowsW,List.flatMap_map]
 ·rcases List.mem_cons.mp hp with rfl | hp
  ·have h1:=p_lookup.appc (Pc.word (hn _ hm))
   have h2:Pc (tx "lookup "++l.name++flagT l) ([tx "lookup"]++[l.name]++flagW l false):=by
    unfold flagT flagW
    by_cases z:l.flag > 0
    ·rw [if_pos z,if_pos (by rw [decide_eq_true z]; rfl)]
     have:=(h1.appf p_flag (by decide +kernel)).appc (Pc.word (gw_num h.ok.flagN))
     simpa using this
    ·rw [if_neg z,if_neg (by rw [decide_eq_false z]; decide)]
     simpa using h1
   exact h2.appf p_open (by decide +kernel)
  rcases List.mem_append.mp hp with hp | hp
  ·refine xi1 ?_ (List.mem_map.mp hp)
   intro row
   refine im2 ?_
   intro hr hq140
   obtain rfl:=hq140
   exact p_in.app (row_pf (h.ok.rows row hr) fun u hu=>hn u (h.uses u (List.mem_flatten.mpr ⟨_,List.mem_map_of_mem hr,hu⟩)))
  ·rw [List.mem_singleton.mp hp]
   exact p_end
theorem feat_pf {nms:List (List Nat)} {f:FeatD} (h:LawFeat nms f) (hn:∀ u∈nms,gwB u=true):Pf (featT f) (featW f false):=by
 revert h hn
 revert nms f
 walk_at "close 2"
 intro nms f h hn
 have h1:=p_feature.appc (Pc.word (gw_menus.2.1 _ h.tag))
 have h2:Pc (tx "feature "++f.tag++scrT f) ([tx "feature"]++[f.tag]++scrW f false):=by
  unfold scrT scrW
  rw [Bool.or_false]
  split
  ·have:=(h1.appf p_script (by decide +kernel)).appc (Pc.word (gw_menus.2.2.1 _ h.script))
   simpa using this
  ·simpa using h1
 have h3:Pc (tx "feature "++f.tag++scrT f++lanT f) ([tx "feature"]++[f.tag]++scrW f false++lanW f false):=by
  unfold lanT lanW
  rw [Bool.or_false]
  split
  ·have:=(h2.appf p_language (by decide +kernel)).appc (Pc.word (gw_menus.2.2.2 _ h.language))
   simpa using this
  ·simpa using h2
 have:=((h3.appf p_openb (by decide +kernel)).appc (joinWords (ws:=f.uses) fun u hu=>hn u (h.uses u hu))).appf p_endb (by decide +kernel)
 unfold featT
 simpa [featW] using this
theorem pairs_flat {α:Type} {f:α→List (List Nat)} {g:α→List (List Nat)}:∀ {l:List α},(∀ a∈l,∃ ps:List (List Nat×List (List Nat)),ps.map (·.1)=f a∧ps.flatMap (·.2)=g a∧∀ p∈ps,Pf p.1 p.2) →
  ∃ ps:List (List Nat×List (List Nat)),ps.map (·.1)=l.flatMap f∧ps.flatMap (·.2)=l.flatMap g∧∀ p∈ps,Pf p.1 p.2:=by
 intro l
 induction l with
 | nil =>
  intro _
  exact ⟨[],rfl,rfl,fun _ h=>by cases h⟩
 | cons a l ih =>
  intro h
  refine xi1 ?_ (h a (List.mem_cons_self ..))
  intro p1
  refine im3 ?_
  intro e1 e2 e3
  refine xi1 ?_ (ih fun x hx=>h x (List.mem_cons_of_mem _ hx))
  intro p2
  refine im3 ?_
  intro d1 d2 d3
  refine xc1_3 (p1++p2) (by rw [List.map_append,e1,d1,List.flatMap_cons]) (by rw [List.flatMap_append,e2,d2,List.flatMap_cons]) (fun p hp=>?_)
  rcases List.mem_append.mp hp with hp | hp
  ·exact e3 p hp
  ·exact d3 p hp
theorem tree_pf {ls:List LookD} {fs:List FeatD} (h:LawTree ls fs):Pf (treeT ls fs) (looksW ls false++featsW fs false):=by
 revert h
 revert ls fs
 walk_at "close 2"
 intro ls fs h
 refine xi1 ?_ (pairs_flat (f:=lookT) (g:=(lookW · false)) (l:=ls) fun l hl=>look_lines (h.looks l hl) h.gn (List.mem_map_of_mem hl))
 intro p1
 refine im3 ?_
 intro e1 e2 e3
 let p2:List (List Nat×List (List Nat)):=fs.map fun f=>(featT f,featW f false)
 have:=joinPf (p1++p2) fun p hp=>by
  rcases List.mem_append.mp hp with hp | hp
  ·exact e3 p hp
  ·refine xi1 ?_ (List.mem_map.mp hp)
   intro f
   refine im2 ?_
   intro hf hq141
   obtain rfl:=hq141
   exact feat_pf (h.feats f hf) h.gn
 rw [List.map_append,e1,List.flatMap_append,e2] at this
 have d1:p2.map (·.1)=fs.map featT:=by simp [p2,Function.comp_def]
 have d2:p2.flatMap (·.2)=featsW fs false:=by simp [p2,featsW,List.flatMap_map]
 rw [d1,d2] at this
 have:=this.app p_nl
 rw [List.append_nil] at this
 exact this
theorem tree_toks {ls:List LookD} {fs:List FeatD} (h:LawTree ls fs):TokS (treeT ls fs) (looksW ls false++featsW fs false++[[]]):=by
 have:=(tree_pf h).tok [] [[]] TokS.nil
 rw [List.append_nil] at this
 exact this
theorem tree_dense {ls:List LookD} {fs:List FeatD} (h:LawTree ls fs):dense (treeT ls fs)=(looksW ls false++featsW fs false).flatten:=(tree_pf h).dn
theorem joinL_le {sep:List Nat} {B:Nat}:∀ {ls:List (List Nat)},(∀ x∈ls,x.length≤B)→(joinL sep ls).length≤ls.length * (B+sep.length)
 | [],_=>Nat.zero_le _
 | [x],h=>by
  have:=h x (List.mem_cons_self ..)
  show x.length≤1 * _
  simp
  exact ar450 this
 | x::y::r,h=>by
  have h1:=h x (List.mem_cons_self ..)
  have h2:=joinL_le (sep:=sep) (B:=B) (ls:=y::r) fun z hz=>h z (List.mem_cons_of_mem _ hz)
  show (x++sep++joinL sep (y::r)).length≤_
  rw [List.length_append,List.length_append,List.length_cons,Nat.succ_mul]
  exact ar451 h1 h2
theorem joinL_le' {sep:List Nat} {B N:Nat} {ls:List (List Nat)} (h:∀ x∈ls,x.length≤B) (hn:ls.length≤N):(joinL sep ls).length≤N * (B+sep.length) :=
 Nat.le_trans (joinL_le h) (Nat.mul_le_mul_right _ hn)
theorem sp1:(tx " ").length=1:=rfl
theorem glyph_len {g:List Nat} (h:g∈c_glyphs):g.length≤5:=(glyph_not h).2.2.2.2.2
theorem setT_len {gs:List (List Nat)} (h:∀ g∈gs,g∈c_glyphs) (hn:gs.length≤3):(setT gs).length≤20:=by
 have big:(tx "["++joinL (tx " ") gs++tx "]").length≤20:=by
  have:=joinL_le' (sep:=tx " ") (B:=5) (N:=3) (ls:=gs) (fun g hg=>glyph_len (h g hg)) hn
  rw [sp1] at this
  rw [List.length_append,List.length_append,show (tx "[").length=1 from rfl,show (tx "]").length=1 from rfl]
  exact ar452 this
 match gs,h,big with
 | [],_,big=>exact big
 | [g],h,_=>have:=glyph_len (h g (by simp)); show g.length≤20; exact ar453 this
 | a::b::r,_,big=>exact big
theorem numT_len {i:Int} (h:numIn i=true):(numT i).length≤6:=by
 simp only [numIn,Bool.and_eq_true] at h
 exact numOk_len h.1.1
theorem worthT_len {w:Worth} (h:worthOk w=true):(worthT w).length≤32:=by
 have h':=h
 simp only [worthOk,Bool.and_eq_true] at h'
 refine im2 ?_ (h')
 refine im2 ?_
 refine im2 ?_
 intro h1 h2 h3 h4
 unfold worthT
 split
 ·have:=numT_len h3
  exact ar454 this
 ·have:=joinL_le' (sep:=tx " ") (B:=6) (N:=4) (ls:=[numT w.1,numT w.2.1,numT w.2.2.1,numT w.2.2.2]) (fun x hx=>by
   simp only [List.mem_cons,List.not_mem_nil,or_false] at hx
   rcases hx with rfl | rfl | rfl | rfl
   ·exact numT_len h1
   ·exact numT_len h2
   ·exact numT_len h3
   ·exact numT_len h4) (by simp)
  rw [sp1] at this
  rw [List.length_append,List.length_append,show (tx "<").length=1 from rfl,show (tx ">").length=1 from rfl]
  exact ar455 this
theorem lits_len:(tx "sub ").length=4∧(tx "pos ").length=4∧(tx " by ").length=4∧(tx ";").length=1∧(tx "NULL").length=4∧(tx " from [").length=7∧(tx "];").length=2∧(tx "lookup ").length=7∧(tx "'").length=1∧(tx " flag ").length=6∧(tx " {").length=2∧(tx "    ").length=4∧(tx "}").length=1∧(tx " script ").length=8∧(tx " language ").length=10∧(tx "feature ").length=8∧(tx " { ").length=3∧(tx " }").length=2∧(tx "\n").length=1:=by decide +kernel
theorem rowT_len:∀ {row:RowD},RowOk row→RowSmall row→(∀ u∈rowUses row,gwB u=true)→(rowT row).length≤400
 | .single a b,ok,_,_=>by
  refine im5 ?_ (lits_len)
  intro l1 l2 l3 l4 _
  have:=glyph_len ok.1
  have:=glyph_len ok.2
  simp only [rowT,List.length_append]
  exact ar456 l1 l3 l4 (by assumption) this
 | .multiple a bs,ok,sm,_=>by
  refine im6 ?_ (lits_len)
  intro l1 l2 l3 l4 l5 _
  have h1:=glyph_len ok.1
  have h2:(if bs.length > 0 then joinL (tx " ") bs else tx "NULL").length≤18:=by
   split
   ·have:=joinL_le' (sep:=tx " ") (B:=5) (N:=3) (ls:=bs) (fun g hg=>glyph_len (ok.2.2 g hg)) sm
    rw [sp1] at this
    exact ar457 this
   ·exact ar458 l5
  simp only [rowT,List.length_append]
  exact ar459 l1 l3 l4 h1 h2
 | .alternate a bs,ok,sm,_=>by
  refine im8 ?_ (lits_len)
  intro l1 l2 l3 l4 l5 l6 l7 _
  have h1:=glyph_len ok.1
  have:=joinL_le' (sep:=tx " ") (B:=5) (N:=3) (ls:=bs) (fun g hg=>glyph_len (ok.2.1 g hg)) sm
  rw [sp1] at this
  simp only [rowT,List.length_append]
  exact ar460 l1 l6 l7 h1 this
 | .ligature as b,ok,sm,_=>by
  refine im5 ?_ (lits_len)
  intro l1 l2 l3 l4 _
  have h1:=glyph_len ok.2.2.2
  have:=joinL_le' (sep:=tx " ") (B:=5) (N:=3) (ls:=as) (fun g hg=>glyph_len (ok.2.2.1 g hg)) sm
  rw [sp1] at this
  simp only [rowT,List.length_append]
  exact ar461 l1 l3 l4 h1 this
 | .adjust a w,ok,_,_=>by
  refine im5 ?_ (lits_len)
  intro l1 l2 l3 l4 _
  have:=joinL_le' (sep:=tx " ") (B:=5) (N:=2) (ls:=[a]) (fun g hg=>by rw [List.mem_singleton.mp hg]; exact glyph_len ok.1) (by simp)
  rw [sp1] at this
  have:=worthT_len ok.2
  have:=sp1
  simp only [rowT,List.length_append]
  exact ar462 l2 l4 (by assumption) (by assumption) this
 | .pair a b w,ok,_,_=>by
  refine im5 ?_ (lits_len)
  intro l1 l2 l3 l4 _
  have:=joinL_le' (sep:=tx " ") (B:=5) (N:=2) (ls:=[a,b]) (fun g hg=>by
   simp only [List.mem_cons,List.not_mem_nil,or_false] at hg
   rcases hg with rfl | rfl
   ·exact glyph_len ok.1
   ·exact glyph_len ok.2.1) (by simp)
  rw [sp1] at this
  have:=worthT_len ok.2.2
  have:=sp1
  simp only [rowT,List.length_append]
  exact ar462 l2 l4 (by assumption) (by assumption) this
 | .chain w back ins ahead,ok,sm,hu=>by
  refine im8 ?_ (lits_len)
  intro l1 l2 l3 l4 l5 l6 l7
  refine im3 ?_
  intro l8 l9 _
  refine im6 ?_ (sm)
  intro s1 s2 s3 s4 s5 s6
  refine im5 ?_ (ok)
  intro o1 o2 o3 o4 _
  have hcount:(chainP w back ins ahead).length≤11:=by
   have:=fm_len (f:=insT1) (B:=3) (l:=ins) fun p hp=>by
    have:=(s5 p hp).2
    unfold insT1
    rw [List.length_cons,List.length_map]
    exact ar463 this
   have e:(insT ins).length≤3 * ins.length:=this
   unfold chainP
   simp only [List.length_cons,List.length_append,List.length_map]
   exact ar464 s1 s2 s3 e
  have hw:w.length≤30:=by rcases o1 with rfl | rfl <;> decide +kernel
  have hall:∀ x∈chainP w back ins ahead,x.length≤30:=fun x hx=>by
   rcases List.mem_cons.mp hx with rfl | hx
   ·exact hw
   rcases List.mem_append.mp hx with hx | hx
   ·refine xi1 ?_ (List.mem_map.mp hx)
    intro g
    refine im2 ?_
    intro hg hq142
    obtain rfl:=hq142
    have:=setT_len (o2 g hg).1 (by have:=s4 g hg; exact ar465 this)
    exact ar466 this
   rcases List.mem_append.mp hx with hx | hx
   ·refine xi1 ?_ (List.mem_flatMap.mp hx)
    intro p
    refine im2 ?_
    intro hp hx
    rcases List.mem_cons.mp hx with rfl | hx
    ·have:=setT_len (o3 p hp).1.1 (by have:=(s5 p hp).1; exact ar465 this)
     rw [List.length_append]
     exact ar467 l9 this
    ·refine xi1 ?_ (List.mem_map.mp hx)
     intro u
     refine im2 ?_
     intro hu' hq143
     obtain rfl:=hq143
     have:=gw_len (hu u (List.mem_flatten.mpr ⟨p.2,List.mem_map_of_mem hp,hu'⟩))
     unfold useT
     rw [List.length_append]
     exact ar468 l8 this
   ·refine xi1 ?_ (List.mem_map.mp hx)
    intro g
    refine im2 ?_
    intro hg hq144
    obtain rfl:=hq144
    have:=setT_len (o4 g hg).1 (by have:=s6 g hg; exact ar465 this)
    exact ar466 this
  have:=joinL_le' (sep:=tx " ") hall hcount
  rw [sp1] at this
  simp only [rowT,List.length_append]
  exact ar469 l4 this
theorem lookT_len {nms:List (List Nat)} {l:LookD} (h:LawLook nms l) (hn:∀ u∈nms,gwB u=true) (hm:l.name∈nms):(lookT l).length≤4∧∀ x∈lookT l,x.length≤410:=by
 revert h hn hm
 revert nms l
 walk_at "close 2"
 intro nms l h hn hm
 refine im8 ?_ (lits_len)
 intro l1 l2 l3 l4 l5 l6 l7
 refine im7 ?_
 intro l8 l9 l10 l11 l12 l13 _
 refine ⟨?_,fun x hx=>?_⟩
 ·have:=h.len
  unfold lookT
  simp only [List.length_cons,List.length_append,List.length_map,List.length_nil]
  exact ar470 this
 ·rcases List.mem_cons.mp hx with rfl | hx
  ·have h1:=gw_len (hn _ hm)
   have h2:(flagT l).length≤12:=by
    unfold flagT
    split
    ·have:=numOk_len h.ok.flagN
     rw [List.length_append]
     exact ar471 l10 this
    ·simp
   simp only [List.length_append]
   exact ar472 l8 l11 h1 h2
  rcases List.mem_append.mp hx with hx | hx
  ·refine xi1 ?_ (List.mem_map.mp hx)
   intro row
   refine im2 ?_
   intro hr hq145
   obtain rfl:=hq145
   have:=rowT_len (h.ok.rows row hr) (h.small row hr) fun u hu=>hn u (h.uses u (List.mem_flatten.mpr ⟨_,List.mem_map_of_mem hr,hu⟩))
   rw [List.length_append]
   exact ar473 l12 this
  ·rw [List.mem_singleton.mp hx]
   exact ar474 l13
theorem featT_len {nms:List (List Nat)} {f:FeatD} (h:LawFeat nms f) (hn:∀ u∈nms,gwB u=true):(featT f).length≤200:=by
 revert h hn
 revert nms f
 walk_at "close 2"
 intro nms f h hn
 refine im8 ?_ (lits_len)
 intro l1 l2 l3 l4 l5 l6 l7
 refine im8 ?_
 intro l8 l9 l10 l11 l12 l13 l14
 refine im5 ?_
 intro l15 l16 l17 l18 _
 have h1:=gw_len (gw_menus.2.1 _ h.tag)
 have h2:=gw_len (gw_menus.2.2.1 _ h.script)
 have h3:=gw_len (gw_menus.2.2.2 _ h.language)
 have h4:(scrT f).length≤28:=by unfold scrT; split <;> simp only [List.length_append,List.length_nil] <;> walk_at "o"
 have h5:(lanT f).length≤30:=by unfold lanT; split <;> simp only [List.length_append,List.length_nil] <;> walk_at "o"
 have:=joinL_le' (sep:=tx " ") (B:=20) (N:=2) (ls:=f.uses) (fun u hu=>gw_len (hn u (h.uses u hu))) h.len
 rw [sp1] at this
 simp only [featT,List.length_append]
 exact ar475 l16 l17 l18 h1 h4 h5 this
theorem tree_len {ls:List LookD} {fs:List FeatD} (h:LawTree ls fs):(treeT ls fs).length < 80000:=by
 revert h
 revert ls fs
 walk_at "close 2"
 intro ls fs h
 have h1:=h.lenL
 have h2:=h.lenF
 have hc:(linesT ls fs).length≤14:=by
  have:=fm_len (f:=lookT) (B:=4) (l:=ls) fun l hl=>(lookT_len (h.looks l hl) h.gn (List.mem_map_of_mem hl)).1
  unfold linesT
  rw [List.length_append,List.length_map]
  exact ar476 h1 h2 this
 have:=joinL_le' (sep:=tx "\n") (B:=410) (ls:=linesT ls fs) (fun x hx=>by
  rcases List.mem_append.mp hx with hx | hx
  ·refine xi1 ?_ (List.mem_flatMap.mp hx)
   intro l
   refine im2 ?_
   intro hl hx
   exact (lookT_len (h.looks l hl) h.gn (List.mem_map_of_mem hl)).2 x hx
  ·refine xi1 ?_ (List.mem_map.mp hx)
   intro f
   refine im2 ?_
   intro hf hq146
   obtain rfl:=hq146
   have:=featT_len (h.feats f hf) h.gn
   exact ar477 this) hc
 have e:(tx "\n").length=1:=rfl
 rw [e] at this
 unfold treeT
 rw [List.length_append]
 exact ar478 this e
theorem wk_ch {w:List Nat} (h:Wk w):chOk w=true:=by
 have:∀ x∈45::(alnum++c_SIGNS),x < 0x110000:=by decide +kernel
 exact List.all_eq_true.mpr fun x hx=>decide_eq_true (this x (wk_chars h x hx))
theorem toks_facts {ws:List (List Nat)} {W:List (List Nat×Nat)} (hg:Gws ws) (hn:ws.length≤420) (e:W.map (·.1)=ws++[[]]):W.length < 2 ^ 24∧∀ p∈W,chOk p.1=true∧p.1.length < 2 ^ 24:=by
 refine ⟨?_,fun p hp=>?_⟩
 ·have:=congrArg List.length e
  rw [List.length_map,List.length_append,List.length_singleton] at this
  exact ar479 hn this
 ·have hm:p.1∈ws++[[]]:=e ▸ List.mem_map_of_mem hp
  rcases List.mem_append.mp hm with hm | hm
  ·have:=gw_len (hg _ hm)
   exact ⟨wk_ch (gw_wk (hg _ hm)),by exact ar480 this⟩
  ·rw [List.mem_singleton.mp hm]
   exact ⟨rfl,by decide⟩
section
variable {prog:Program} {w:World} {A:Around} {E:Value→Shared→Prop} {s:Shared}
theorem miss_list_keys:typeLookup (.type "list") "keys"=pure none:=am_miss_of_fast (by kernel_rfl)
theorem plain_dloop:plainId "dict.update.loop"=true:=by decide +kernel
theorem entry_dloop:entryFor table "dict.update.loop"=some Builtin.«dict.update.loop»:=entryFor_of_tree (by kernel_rfl)
theorem pairItems_tup {a:Addr} {its:List Value} {n:Nat} {Q:List Value→Shared→Prop} (g:s.heap.get? a=some (tupO its n)) (h:Q its s):wpAny (model prog w) A (Builtin.Dict.pairItems (.ref a)) Q E s:=by
 have hT:s.TypeIs (.ref a) "tuple":=⟨_,g,rfl⟩
 unfold Builtin.Dict.pairItems
 obtain ⟨hp,gg,d,tk,os⟩:=s
 repeat (any_goals (first | assumption | wp_step))
theorem getAttr?_miss_list {a:Addr} {o:Obj} {xs:Array Value} {k:Nat} {name:Str} {Q:Option Value→Shared→Prop}
  (hx:s.heap.get? a=some o) (hc:o.cls=.type "list") (hdat:o.data=.seq xs k) (hd:o.dict=none) (hmiss:typeLookup (.type "list") name=pure none) (hname:(["__module__","__name__","__qualname__","__doc__","__annotations__"]:List Str).contains name=false) (hA:A.handled=none)
  (h:∀ h' tk e,Heap.NewExcOf s.heap h' e "AttributeError"→Q none { s with heap:=h',toks:=tk }) (hsz:name.length+100≤sizeLine) :
  wpAny (model prog w) A (getAttr? (.ref a) name) Q E s:=by
 revert hx hc hdat hd hmiss hname hA h hsz
 revert k; revert A; revert s; revert Q; revert E; revert prog w a o xs name
 walk_at "close 11"
 intro prog w a o xs name E Q s A k hx hc hdat hd hmiss hname hA h hsz
 obtain ⟨c,dct,dat,sl⟩:=o
 simp only at hc hdat hd
 subst hc hdat hd
 obtain ⟨hp,g,d,tk,os⟩:=s
 have hT:∀ tk',(⟨hp,g,d,tk',os⟩:Shared).TypeIs (.ref a) "list":=fun _=>⟨_,hx,rfl⟩
 have f1:=sub_AttributeError
 have f3:=F.slot_list_getattribute.lookup
 have f4:=F.slot_list_getattribute.bind (.ref a)
 have f5:=am_list_getattr_none
 unfold getAttr? getAttrBy? getAttrBy
 repeat (any_goals (first | assumption | exact hT _ | ((with_reducible show wpAny _ _ (call (Value.builtin "list.__getattribute__") _ _) _ _ _); refine call_meets F.slot_list_getattribute (hT _) am_entry_list_getattribute (F.args_list_getattribute_2 _ _) (meets_getattribute_miss_list a xs k sl name _ hmiss hname hsz) ⟨hx,hA,fun h' tk' e hx'=>?_⟩) | wp_step))
 refine xi2 ?_ (hx'.there)
 intro t' u' he
 show wpAny _ _ (getattributeRaised _ _ _ _ _ _ _) _ _ _
 unfold getattributeRaised
 repeat (any_goals (first | assumption | wp_step))
 exact h _ _ _ hx'.of
theorem DictOf.at {knd:KeyKind prog w Str} {h h':Heap} {D:Addr} {kvs:List (Str×Value)} (d:h.DictOf knd D kvs) (k:∀ o,h.get? D=some o→h'.get? D=some o):h'.DictOf knd D kvs:=by
 refine xi3 ?_ (d)
 intro o es ep
 refine im2 ?_
 intro ho r
 exact xc3_2 o es ep (k o ho) r
theorem dict_loop {items:List Value} {kvs:List (Str×Value)} {n0:Nat} {D I l:Addr} {R:Result→Shared→Prop} (hh:A.handled=none) (nd:(kvs.map (·.1)).Nodup) (hz:kvs.length≤1000) (hlen:items.length=kvs.length) (hlI:l≠I) (hlD:l≠D) (hDI:D≠I) :
  ∀ (m i:Nat) (s:Shared),m+i=kvs.length→s.heap.IsListIter I l i→s.heap.get? l=some (listO items n0)→s.heap.DictOf (strKind prog w) D (kvs.take i) →
   (∀ (j:Nat) p,kvs[j]?=some p→∃ a k n,items[j]?=some (.ref a)∧s.heap.get? a=some (tupO [.str p.1 k,p.2] n)) →
   (∀ h' t',h'.DictOf (strKind prog w) D kvs→(∀ b o,b≠D→b≠I→s.heap.get? b=some o→h'.get? b=some o)→R (.ok (.ret .none)) { s with heap:=h',toks:=t' }) →
   codeAny (model prog w) A (.builtin "dict.update.loop" ⟨[.ref D,.ref I,rawInt i,.none],[]⟩) R s:=by
 intro m
 induction m with
 | zero =>
  intro i s hm it hl dd ps fin
  refine codeAny_builtin entry_dloop ?_
  rw [Around.under_plainId plain_dloop]
  unfold Builtin.«dict.update.loop»
  refine wpAny_bind (wpAny_pyNext_list_end hh it (IsL_of hl) (by rw [arr_get,List.getElem?_eq_none_iff]; exact ar481 hlen hm) fun h' ex=>?_)
  rw [List.take_of_length_le (by exact ar482 hm)] at dd
  obtain ⟨hp,gg,d,tk,os⟩:=s
  repeat (any_goals (first | assumption | wp_step))
  exact fin h' tk (DictOf.at dd fun o e=>ex D o hDI e) fun b o _ hb e=>ex b o hb e
 | succ m IH =>
  intro i s hm it hl dd ps fin
  refine codeAny_builtin entry_dloop ?_
  rw [Around.under_plainId plain_dloop]
  unfold Builtin.«dict.update.loop»
  have hi:i < kvs.length:=by exact ar483 hm
  refine xi3 ?_ (ps i _ (List.getElem?_eq_getElem hi))
  intro a k n
  refine im2 ?_
  intro e1 e2
  refine wpAny_bind (wpAny_pyNext_list_item it (IsL_of hl) (x:=.ref a) (by rw [arr_get]; exact e1) fun h' it' hs=>?_)
  have keepI:∀ b o,b≠I→s.heap.get? b=some o→h'.get? b=some o:=fun b o hb e=>by rw [get_same hs hb]; exact e
  have itI:∃ o,s.heap.get? I=some o∧∃ vs,o.data=.fields vs:=by
   refine xi1 ?_ (it)
   intro o
   refine im3 ?_
   intro ho _ hd
   exact xc1_2 o ho (xc1_1 _ hd)
  have tupI:∀ b its n,s.heap.get? b=some (tupO its n)→b≠I:=fun b its n e z=>by
   refine xi1 ?_ (itI)
   intro o
   refine im2 ?_
   intro ho
   refine xi1 ?_
   intro vs hd
   rw [z,ho] at e
   cases e
   cases hd
  have tupD:∀ b its n,s.heap.get? b=some (tupO its n)→b≠D:=fun b its n e z=>by
   refine xi3 ?_ (dd)
   intro o es ep
   refine im4 ?_
   intro ho hc hd _
   rw [z,ho] at e
   cases e
   cases hd
  have g':=keepI a _ (tupI a _ _ e2) e2
  have dd':h'.DictOf (strKind prog w) D (kvs.take i):=DictOf.at dd fun o e=>keepI D o hDI e
  show wpAny _ _ (holding [Value.ref a] _ >>= _) _ _ _
  refine wpAny_bind (wpAny_holding ?_)
  refine wpAny_bind (wpAny_tryCatch (pairItems_tup (s:={ s with heap:=h' }) g' ?_))
  show wpAny _ _ (holding [Value.str kvs[i].1 k,kvs[i].2] (dictSet D (Value.str kvs[i].1 k) kvs[i].2)) _ _ _
  refine wpAny_holding (wpAny_dictSet_pairs (knd:=strKind prog w) (k:=kvs[i].1) (by show ((kvs[i].1==kvs[i].1)=true); simp) dd' (fun h2 dd2 hs2=>?_) (by delta sizeLine; rw [List.length_take]; exact ar484 hz))
  have keepD:∀ b o,b≠D→b≠I→s.heap.get? b=some o→h2.get? b=some o:=fun b o hb hb' e=>by rw [get_same hs2 hb]; exact keepI b o hb' e
  have hst:stored (kvs.take i) kvs[i].1 kvs[i].2=kvs.take (i+1):=by
   unfold stored
   rw [if_neg,List.take_add_one,List.getElem?_eq_getElem hi]
   ·rfl
   rw [List.any_eq_true]
   refine xi1 ?_
   intro x
   refine im2 ?_
   intro hx he
   refine xi1 ?_ (List.getElem?_of_mem hx)
   intro j hj
   have hji:j < i:=by
    have:=(List.getElem?_eq_some_iff.mp hj).1
    rw [List.length_take] at this
    exact ar485 this
   rw [List.getElem?_take_of_lt hji] at hj
   have h1:(kvs.map (·.1))[j]?=some x.1:=by rw [List.getElem?_map,hj]; rfl
   have h2:(kvs.map (·.1))[i]?=some kvs[i].1:=by rw [List.getElem?_map,List.getElem?_eq_getElem hi]; rfl
   have h3:x.1=kvs[i].1:=of_decide_eq_true he
   rw [h3] at h1
   have:=(List.getElem?_inj (by rw [List.length_map]; exact ar486 hi hji) nd).mp (h1.trans h2.symm)
   exact ar487 hji this
  rw [hst] at dd2
  refine wpAny_pure ⟨plainId_quiet plain_dloop _,?_⟩
  have it2:h2.IsListIter I l (i+1):=by
   refine xi1 ?_ (it')
   intro o
   refine im2 ?_
   intro ho r
   exact xc1_2 o (by rw [get_same hs2 (Ne.symm hDI)]; exact ho) r
  exact IH (i+1) { s with heap:=h2,toks:=s.toks+1 } (by exact ar488 hm) it2 (keepD l _ hlD hlI hl) dd2 (fun j p hj=>by
    refine xi3 ?_ (ps j p hj)
    intro a k n
    refine im2 ?_
    intro z1 z2
    exact ⟨a,k,n,z1,keepD a _ (tupD a _ _ z2) (tupI a _ _ z2) z2⟩)
   fun h3 t3 d3 k3=>fin h3 t3 d3 fun b o hb hb' e=>k3 b o hb hb' (keepD b o hb hb' e)
end
section
variable {c:Cx} {k:Nat} {σ:St} {Q:V→St→Prop}
noncomputable def pairV (p:List Nat×V):V:=.tup [.str p.1,p.2]
theorem S_inj {x y:List Nat} (h:S x=S y):x=y:=by
 have:=congrArg (fun s:Str=>s.cps.toList) h
 simpa using this
theorem All2.getR {α β:Type} {R:α→β→Prop} {l:List α} {m:List β} (h:All2 R l m):∀ {i:Nat} {y:β},m[i]?=some y→∃ x,l[i]?=some x∧R x y:=by
 induction h with
 | nil=>intro i y e; simp at e
 | cons a _ ih =>
  intro i y e
  cases i with
  | zero=>cases e; exact ⟨_,rfl,a⟩
  | succ i=>exact ih e
theorem pairs_vals {h:Heap}:∀ (ps:List (List Nat×V)) {its:List Value},VRs h its (ps.map pairV)→∃ kvs:List (Str×Value),kvs.map (·.1)=ps.map (fun p=>S p.1)∧VRs h (kvs.map (·.2)) (ps.map (·.2))∧kvs.length=its.length ∧
  ∀ (j:Nat) p,kvs[j]?=some p→∃ a k n,its[j]?=some (.ref a)∧h.get? a=some (tupO [.str p.1 k,p.2] n)
 := by
 intro ps
 induction ps with
 | nil=>intro its r; rw [show its=[] from r]; exact ⟨[],rfl,rfl,rfl,fun j p e=>by simp at e⟩
 | cons p ps IH =>
  intro its r
  refine xi2 ?_ (r)
  intro x l
  refine im3 ?_
  intro hq147
  obtain rfl:=hq147
  refine xi3 ?_
  intro a tits n
  refine im3 ?_
  intro hq148
  obtain rfl:=hq148
  intro g rt rs
  refine xi1 ?_ (IH rs)
  intro kvs
  refine im4 ?_
  intro e1 e2 e3 e4
  refine xi2 ?_ (rt.two)
  intro v1 v2
  refine im3 ?_
  intro hq149
  obtain rfl:=hq149
  refine xi1 ?_
  intro t hq150
  obtain rfl:=hq150
  intro r2
  refine xc1_4 ((S p.1,v2)::kvs) (by rw [List.map_cons,e1]; rfl) (VRs.cons r2 e2) (by simp [e3]) (fun j q hj=>?_)
  cases j with
  | zero=>cases hj; exact ⟨a,t,n,rfl,g⟩
  | succ j=>exact e4 j q hj
theorem ents_of {w:World} {prog:Program} {h:Heap}:∀ {es:List DictEntry} {kvs:List (Str×Value)},Pairs (strKind prog w) es kvs→∀ {ps:List (List Nat×V)},(∀ e∈es,∃ k,(strKind prog w).is k e.key=true∧e.hash=(strKind prog w).hash k) →
  kvs.map (·.1)=ps.map (fun p=>S p.1)→VRs h (kvs.map (·.2)) (ps.map (·.2))→All2 (EntR w.params h) es (ps.map fun p=>(S p.1,p.2)):=by
 intro es kvs hP
 induction hP with
 | nil =>
  intro ps _ e1 _
  cases ps with
  | nil=>exact .nil
  | cons p ps=>cases e1
 | @cons e kv es kvs h1 h2 hp ih =>
  intro ps hk e1 e2
  cases ps with
  | nil=>cases e1
  | cons p ps =>
   have e1':kv.1=S p.1∧kvs.map (·.1)=ps.map (fun p=>S p.1):=by
    rw [List.map_cons,List.map_cons] at e1
    injection e1 with a b
    exact ⟨a,b⟩
   refine xi2 ?_ (e2)
   intro x r
   refine im3 ?_
   intro e3 r1 r2
   rw [List.map_cons] at e3
   injection e3 with a b
   subst a b
   refine xi1 ?_ (Value.isStrOf_shape h1)
   intro t et
   refine xi1 ?_ (hk e (List.mem_cons_self ..))
   intro k'
   refine im2 ?_
   intro hk1 hk2
   have hkk:k'=kv.1:=(strKind prog w).inj e.key k' kv.1 hk1 h1
   refine .cons ⟨⟨t,by rw [et,e1'.1]⟩,by rw [hk2,hkk,e1'.1]; rfl,by rw [h2]; exact r1⟩ (ih (fun e he=>hk e (List.mem_cons_of_mem _ he)) e1'.2 r2)
theorem CallW.dictPairs {l:Addr} {ps:List (List Nat×V)} (e:σ l=some (.list (ps.map pairV))) (nd:(ps.map (·.1)).Nodup) (hz:ps.length≤1000)
  (q:∀ m,σ m=none→(m==sysModules)=false→Q (.ref m) (upM σ m (.dict (ps.map fun p=>(S p.1,p.2))))):CallW c k (.type "dict") [.ref l] σ Q:=by
 revert e nd hz q
 revert c; revert k; revert σ; revert Q; revert l ps
 walk_at "close 6"
 intro l ps Q σ k c e nd hz q
 intro A s vals rm sm r
 refine xi1 ?_ (r.one)
 intro _
 refine im2 ?_
 intro hq151
 obtain rfl:=hq151
 intro r1
 rw [show _=Value.ref l from r1]
 refine xi2 ?_ (sm.list (.inl e))
 intro its n0
 refine im2 ?_
 intro g rv
 refine xi1 ?_ (pairs_vals _ rv)
 intro kvs
 refine im4 ?_
 intro k1 k2 k3 k4
 have hil:=rv.length
 rw [List.length_map] at hil
 have hlow:2 < s.heap.objs.size:=by
  refine xi1 ?_ (c.nodigits)
  intro mc
  refine im2 ?_
  refine xi3 ?_
  intro o es ep
  refine im2 ?_
  intro ho _ _
  exact Heap.lt_size (sm.keep _ _ ho)
 have nd':(kvs.map (·.1)).Nodup:=by
  rw [k1,show (ps.map fun p=>S p.1)=(ps.map (·.1)).map S by rw [List.map_map]; rfl]
  exact nd.map _ fun x y hxy he=>hxy (S_inj he)
 refine callType_codes (Q₁:=fun obj s₁=>obj=.ref s.heap.objs.size∧s₁={ s with heap:=s.heap.push { cls:=.type "dict",data:=.dict #[] } }) F.kt_called_dict (F.kt_typeCall_dict_1 _) F.entry_dict_init (kt_code_dict_new _ ⟨rfl,rfl⟩) ?_
 intro obj s₁
 refine im2 ?_
 intro hq152
 obtain rfl:=hq152
 intro hq153
 obtain rfl:=hq153
 have hnew:(s.heap.push { cls:=.type "dict",data:=.dict #[] }).DictOf (strKind c.prog c.w) s.heap.objs.size []:=Heap.DictOf.new s.heap
 have g1:(s.heap.push { cls:=.type "dict",data:=.dict #[] }).get? l=some (listO its n0):=push_keep _ _ _ _ g
 refine xc0_3 hnew.typeIs (F.args_dict_init_2 _ _) ?_
 unfold Builtin.«dict.__init__»
 refine wpAny_bind ?_
 unfold Builtin.Dict.selfAndRest
 refine wpAny_bind (wpAny_notOrdered_dict hnew.typeIs ?_)
 show wpAny _ _ (pure (s.heap.objs.size,[Value.ref l])) _ _ _
 refine wpAny_pure ?_
 show wpAny _ _ (Builtin.Dict.updateFrom "dict.__init__" s.heap.objs.size (.ref l) [] .none) _ _ _
 unfold Builtin.Dict.updateFrom
 refine wpAny_bind (wpAny_typeOf (show (_:Shared).TypeIs (.ref l) "list" from ⟨_,g1,rfl⟩) ?_)
 rw [if_pos (by decide)]
 refine wpAny_bind ?_
 refine getAttr?_miss_list (s:={ s with heap:=s.heap.push { cls:=.type "dict",data:=.dict #[] } }) g1 rfl rfl rfl miss_list_keys (by decide +kernel) rm.handled (fun h1 tk ex nx=>?_) (by delta sizeLine; decide +kernel)
 rw [if_pos (show (none:Option Value).isNone=true from rfl)]
 refine wpAny_bind (wpAny_rule ?_)
 have hkeep1:∀ b o,s.heap.get? b=some o→h1.get? b=some o:=fun b o z=>nx.keeps b o (push_keep _ _ _ _ z)
 have hD:s.heap.get? s.heap.objs.size=none:=get_size_none _
 have gl:=hkeep1 _ _ g
 refine wpAny_bind (wpAny_pyIter_list (IsL_of gl) ?_)
 refine wpAny_pure ⟨plainId_quiet plain_dloop _,?_⟩
 have dD:h1.DictOf (strKind c.prog c.w) s.heap.objs.size []:=DictOf.at hnew fun o z=>nx.keeps _ o z
 have hDlt:s.heap.objs.size < h1.objs.size:=by
  refine xi3 ?_ (dD)
  intro o es ep
  refine im2 ?_
  intro ho _
  exact Heap.lt_size ho
 refine dict_loop (A:=A.in1) (kvs:=kvs) (n0:=n0) (items:=its) rm.handled nd' (by exact ar489 hz k3 hil) k3.symm (Nat.ne_of_lt (Heap.lt_size gl)) (fun z=>by rw [z,hD] at g; cases g) (Nat.ne_of_lt hDlt) kvs.length 0 _ (by exact ar490) ⟨_,Heap.get?_push_size _ rfl,rfl,rfl⟩ (push_keep _ _ _ _ gl) (DictOf.at dD fun o z=>push_keep _ _ _ _ z) (fun j p hj=>?_) (fun h2 t2 d2 k2'=>⟨rfl,?_⟩)
 ·refine xi3 ?_ (k4 j p hj)
  intro a kk n
  refine im2 ?_
  intro z1 z2
  exact xc3_2 a kk n z1 (push_keep _ _ _ _ (hkeep1 _ _ z2))
 have hk:∀ b o,s.heap.get? b=some o→h2.get? b=some o:=fun b o z=>by
  have hb:=Heap.lt_size z
  exact k2' b o (Nat.ne_of_lt hb) (Nat.ne_of_lt (Nat.lt_trans hb hDlt)) (push_keep _ _ _ _ (hkeep1 b o z))
 refine im3 ?_ (keep_all sm hk)
 intro sm' st' tk'
 have hn:=sm.fresh hD
 refine xi3 ?_ (d2)
 intro o es ep
 refine im6 ?_
 intro ho
 refine im3 ?_
 intro c1 c2 c3 hdat hks hps _
 have eo:o=dictO es.toList ep:=by
  obtain ⟨a1,a2,a3,a4⟩:=o
  simp only at c1 c2 c3 hdat
  subst c1 c2 c3 hdat
  simp
 refine xc4_1 (.ref s.heap.objs.size) (upM σ s.heap.objs.size (.dict (ps.map fun p=>(S p.1,p.2)))) h2 t2 (xc0_5 rfl rfl ?_ ?_ (q _ hn (beq_eq_false_iff_ne.mpr (by show s.heap.objs.size≠1; exact ar491 hlow))))
 ·refine ⟨sm'.keep,fun a y z=>?_,fun a z=>?_⟩
  ·unfold upM at z
   split at z
   ·rename_i z'
    subst z'
    cases z
    exact xc2_2 es.toList ep (by rw [ho,eo]) (ents_of hps (fun e he=>hks e (by simpa using he)) k1 (k2.keeps tk'))
   ·exact sm'.rep a y z
  ·rw [mutAt_upd] at z
   split at z
   ·rename_i z'
    subst z'
    cases w:c.h0.get? s.heap.objs.size with
    | none=>rfl
    | some o'=>have:=sm.keep _ _ w; rw [hD] at this; cases this
   ·exact sm.new a z
 ·refine ⟨st'.keep,fun a z=>?_⟩
  rw [mutAt_upd] at z
  split at z
  ·rename_i z'; subst z'; exact .inr hD
  ·exact .inl z
theorem Op2.notInDict {a:Addr} {es:List (Str×V)} {w:List Nat} (hs:(a==sysModules)=false) (e:σ a=some (.dict es)) (hw:S w∈es.map (·.1)) (q:Q (.bool false) σ):Op2 c k (compareOp .NotIn) (.str w) (.ref a) σ Q:=by
 revert hs e hw q
 revert c; revert k; revert σ; revert Q; revert a es w
 walk_at "close 7"
 intro a es w Q σ k c hs e hw q
 intro A s _ _ rm sm
 refine xi1 ?_
 intro t hq154
 obtain rfl:=hq154
 rintro rfl
 refine xi2 ?_ (sm.rep a _ e)
 intro ents n
 refine im2 ?_
 intro g al
 have hm:s.heap.MapOf (strKind c.prog c.w) a (findBy (strKind c.prog c.w).is ents.toArray):=by
  refine xc3_1 _ ents.toArray n (xc0_5 g ⟨rfl,rfl,rfl⟩ rfl (fun x hx=>?_) (fun _=>rfl))
  refine xi1 ?_ (List.getElem?_of_mem (show x∈ents by simpa using hx))
  intro i hi
  refine xi1 ?_ (al.get hi)
  intro y
  refine im4 ?_
  intro hy
  refine xi1 ?_
  intro tt hr hh _
  exact xc1_2 y.1 (by rw [hr]; show ((y.1==y.1)=true); simp) hh
 refine wpAny_notIn_of (knd:=strKind c.prog c.w) (k:=S w) (by show ((S w==S w)=true); simp) hs hm ?_
 have:(findBy (strKind c.prog c.w).is ents.toArray (S w)).isSome=true:=by
  refine xi1 ?_ (List.mem_map.mp hw)
  intro y
  refine im2 ?_
  intro hy ey
  refine xi1 ?_ (List.getElem?_of_mem hy)
  intro i hi
  refine xi1 ?_ (al.getR hi)
  intro x
  refine im3 ?_
  intro hx
  refine xi1 ?_
  intro tt hr _
  unfold findBy
  rw [Option.isSome_map,List.find?_toArray,List.find?_isSome]
  refine xc1_2 x (List.mem_of_getElem? hx) ?_
  rw [hr,ey]
  show ((S w==S w)=true)
  simp
 rw [this]
 exact PostV.tok (x:=.bool false) sm rfl q
end
theorem veq_self {v:V} (h:v.ok=true):veq v v=true:=PySem.SeqAt.eqv_refl _ (V.lay h)
theorem vseq_self {vs:List V} (h:V.oks vs=true):PyData.eqvAll (V.pys vs) (V.pys vs)=true:=PySem.SeqAt.eqvAll_refl _ (V.lays h)
theorem dp_all {vs:List V} {n:Nat} (h:∀ v∈vs,v.py.depth≤n):PyData.depthAll (V.pys vs)≤n:=by
 induction vs with
 | nil=>show PyData.depthAll []≤n; simp [PyData.depthAll]
 | cons v r ih =>
  rw [depths_cons]
  have h1:=h v (List.mem_cons_self ..)
  have h2:=ih fun x hx=>h x (List.mem_cons_of_mem _ hx)
  exact ar492 h1 h2
theorem dp_tup {vs:List V} {n:Nat} (h:∀ v∈vs,v.py.depth≤n):(V.tup vs).py.depth≤n+1:=by
 have:=dp_all h
 rw [V.depth_tup]
 exact ar227 this
noncomputable def Gd (n:Nat) (v:V):Prop:=v.ok=true∧v.py.depth≤n
theorem Gd.str {n:Nat} {w:List Nat} (h:chOk w=true):Gd n (.str w):=⟨ok_str h,by show PyData.depth (.str (S w))≤n; simp [PyData.depth]⟩
theorem Gd.int {n:Nat} {i:Int}:Gd n (.int i):=⟨rfl,by show PyData.depth (.int i)≤n; simp [PyData.depth]⟩
theorem Gd.tup {n:Nat} {vs:List V} (h:∀ v∈vs,Gd n v):Gd (n+1) (.tup vs):=⟨oks_of fun v hv=>(h v hv).1,dp_tup fun v hv=>(h v hv).2⟩
theorem Gd.le {n m:Nat} {v:V} (h:Gd n v) (k:n≤m):Gd m v:=⟨h.1,Nat.le_trans h.2 k⟩
theorem Gd.strs {n:Nat} {ls:List (List Nat)} (h:∀ w∈ls,chOk w=true):Gd (n+1) (.tup (strVs ls)):=Gd.tup fun v hv=>by
 refine xi1 ?_ (List.mem_map.mp hv)
 intro w
 refine im2 ?_
 intro hw hq155
 obtain rfl:=hq155
 exact Gd.str (h w hw)
theorem mem2 {α:Type} {a b:α} {P:α→Prop} (h1:P a) (h2:P b):∀ x∈[a,b],P x:=fun x hx=>by
 simp only [List.mem_cons,List.not_mem_nil,or_false] at hx
 rcases hx with rfl | rfl
 ·exact h1
 ·exact h2
theorem mem3 {α:Type} {a b d:α} {P:α→Prop} (h1:P a) (h2:P b) (h3:P d):∀ x∈[a,b,d],P x:=fun x hx=>by
 simp only [List.mem_cons,List.not_mem_nil,or_false] at hx
 rcases hx with rfl | rfl | rfl
 ·exact h1
 ·exact h2
 ·exact h3
theorem mem4 {α:Type} {a b d e:α} {P:α→Prop} (h1:P a) (h2:P b) (h3:P d) (h4:P e):∀ x∈[a,b,d,e],P x:=fun x hx=>by
 simp only [List.mem_cons,List.not_mem_nil,or_false] at hx
 rcases hx with rfl | rfl | rfl | rfl
 ·exact h1
 ·exact h2
 ·exact h3
 ·exact h4
theorem gd_glyphs {n:Nat} {gs:List (List Nat)} (h:∀ g∈gs,g∈c_glyphs):Gd (n+1) (.tup (strVs gs)):=Gd.strs fun g hg=>glyph_ch (h g hg)
theorem gd_worth {w:Worth}:Gd 1 (worthV w):=Gd.tup (mem4 Gd.int Gd.int Gd.int Gd.int)
theorem gd_sets {l:List (List (List Nat))} (h:∀ g∈l,SetOk g):Gd 2 (setsV l):=Gd.tup fun v hv=>by
 refine xi1 ?_ (List.mem_map.mp hv)
 intro g
 refine im2 ?_
 intro hg hq156
 obtain rfl:=hq156
 exact gd_glyphs (h g hg).1
theorem acts_mem:∀ (l:List (List (List Nat)×List (List Nat))) (i:Nat),∀ p∈acts i l,p.2∈(l.map (·.2)).flatten
 | (g,us)::r,i,p,h=>by
  rw [List.map_cons,List.flatten_cons]
  rcases List.mem_append.mp (show p∈us.map (fun u=>(i,u))++acts (i+1) r from h) with h | h
  ·refine xi1 ?_ (List.mem_map.mp h)
   intro u
   refine im2 ?_
   intro hu hq157
   obtain rfl:=hq157
   exact List.mem_append_left _ hu
  ·exact List.mem_append_right _ (acts_mem r (i+1) p h)
theorem gw_ch {w:List Nat} (h:gwB w=true):chOk w=true:=wk_ch (gw_wk h)
theorem gd_parts:∀ {row:RowD},RowOk row→(∀ u∈rowUses row,gwB u=true)→∀ v∈partsV row,Gd 2 v
 | .single a b,ok,_=>mem2 (Gd.str (glyph_ch ok.1)) (Gd.str (glyph_ch ok.2))
 | .multiple a bs,ok,_=>mem2 (Gd.str (glyph_ch ok.1)) (gd_glyphs ok.2.2)
 | .alternate a bs,ok,_=>mem2 (Gd.str (glyph_ch ok.1)) (gd_glyphs ok.2.1)
 | .ligature as b,ok,_=>mem2 (gd_glyphs ok.2.2.1) (Gd.str (glyph_ch ok.2.2.2))
 | .adjust a w,ok,_=>mem2 (Gd.str (glyph_ch ok.1)) (gd_worth.le (by decide))
 | .pair a b w,ok,_=>mem3 (Gd.str (glyph_ch ok.1)) (Gd.str (glyph_ch ok.2.1)) (gd_worth.le (by decide))
 | .chain w back ins ahead,ok,hu=>by
  refine im5 ?_ (ok)
  intro o1 o2 o3 o4 _
  have hw:chOk w=true:=by rcases o1 with rfl | rfl <;> decide +kernel
  intro v hv
  rcases List.mem_cons.mp (show v∈V.str w::[setsV back,setsV (ins.map (·.1)),setsV ahead,.tup ((acts 0 ins).map actV)] from hv) with rfl | hv
  ·exact Gd.str hw
  ·refine mem4 (P:=Gd 2) (gd_sets o2) (gd_sets fun g hg=>?_) (gd_sets o4) (Gd.tup fun v hv=>?_) v hv
   ·refine xi1 ?_ (List.mem_map.mp hg)
    intro p
    refine im2 ?_
    intro hp hq158
    obtain rfl:=hq158
    exact (o3 p hp).1
   ·refine xi1 ?_ (List.mem_map.mp hv)
    intro p
    refine im2 ?_
    intro hp hq159
    obtain rfl:=hq159
    exact Gd.tup (n:=0) (mem2 Gd.int (Gd.str (gw_ch (hu _ (acts_mem ins 0 p hp)))))
theorem gd_row {row:RowD} (ok:RowOk row) (hu:∀ u∈rowUses row,gwB u=true):Gd 4 (rowV row) :=
 Gd.tup (mem2 (Gd.str (kind_ch row).1) (Gd.tup (gd_parts ok hu)))
theorem gd_look {nms:List (List Nat)} {l:LookD} (h:LawLook nms l) (hn:∀ u∈nms,gwB u=true) (hm:l.name∈nms):Gd 6 (lookV l) :=
 Gd.tup (mem3 (Gd.str (gw_ch (hn _ hm))) Gd.int (Gd.tup fun v hv=>by
  refine xi1 ?_ (List.mem_map.mp hv)
  intro row
  refine im2 ?_
  intro hr hq160
  obtain rfl:=hq160
  exact gd_row (h.ok.rows row hr) fun u hu=>hn u (h.uses u (List.mem_flatten.mpr ⟨_,List.mem_map_of_mem hr,hu⟩))))
theorem gd_feat {nms:List (List Nat)} {f:FeatD} (h:LawFeat nms f) (hn:∀ u∈nms,gwB u=true):Gd 2 (featV f) :=
 Gd.tup (mem4 (Gd.str (gw_ch (gw_menus.2.1 _ h.tag))) (Gd.str (gw_ch (gw_menus.2.2.1 _ h.script))) (Gd.str (gw_ch (gw_menus.2.2.2 _ h.language))) (Gd.strs fun u hu=>gw_ch (hn u (h.uses u hu))))
theorem gd_tree {ls:List LookD} {fs:List FeatD} (h:LawTree ls fs):Gd 8 (treeV ls fs) :=
 Gd.tup (mem2 (Gd.tup fun v hv=>by
  refine xi1 ?_ (List.mem_map.mp hv)
  intro l
  refine im2 ?_
  intro hl hq161
  obtain rfl:=hq161
  exact gd_look (h.looks l hl) h.gn (List.mem_map_of_mem hl)) (Gd.tup fun v hv=>by
  refine xi1 ?_ (List.mem_map.mp hv)
  intro f
  refine im2 ?_
  intro hf hq162
  obtain rfl:=hq162
  exact (gd_feat (h.feats f hf) h.gn).le (by decide)))
noncomputable def firstP (row:RowD):V:=match partsV row with
 | v::_=>v
 | []=>.none
theorem firstP_at (row:RowD):(partsV row)[0]?=some (firstP row):=by cases row <;> rfl
theorem firstP_gd {row:RowD} (ok:RowOk row) (hu:∀ u∈rowUses row,gwB u=true):Gd 2 (firstP row):=gd_parts ok hu _ (List.mem_of_getElem? (firstP_at row))
theorem veq_strs (a b:List Nat):veq (.str a) (.str b)=(a==b):=by
 show PyData.eqv (.str (S a)) (.str (S b))=_
 rw [Bool.eq_iff_iff]
 simp [PyData.eqv]
theorem veq_tup_str (vs:List V) (b:List Nat):veq (.tup vs) (.str b)=false:=by
 show PyData.eqv (.tuple (V.pys vs)) (.str (S b))=_
 simp [PyData.eqv]
theorem glyph_ne_pos {g:List Nat} (h:g∈c_glyphs):(g==tx "pos")=false:=by
 have:∀ g∈c_glyphs,(g==tx "pos")=false:=by decide +kernel
 exact this g h
theorem pos_word:∀ {row:RowD},RowOk row→(decide (kindT row∈[tx "adjust",tx "pair"])||veq (firstP row) (.str (tx "pos")))=(rowHead row==tx "pos")
 | .single a b,ok=>by
  rw [show decide (kindT (.single a b)∈[tx "adjust",tx "pair"])=false by kernel_rfl,Bool.false_or]
  show veq (.str a) _=_
  rw [veq_strs,glyph_ne_pos ok.1]
  show false=(tx "sub"==tx "pos")
  decide +kernel
 | .multiple a b,ok=>by
  rw [show decide (kindT (.multiple a b)∈[tx "adjust",tx "pair"])=false by kernel_rfl,Bool.false_or]
  show veq (.str a) _=_
  rw [veq_strs,glyph_ne_pos ok.1]
  show false=(tx "sub"==tx "pos")
  decide +kernel
 | .alternate a b,ok=>by
  rw [show decide (kindT (.alternate a b)∈[tx "adjust",tx "pair"])=false by kernel_rfl,Bool.false_or]
  show veq (.str a) _=_
  rw [veq_strs,glyph_ne_pos ok.1]
  show false=(tx "sub"==tx "pos")
  decide +kernel
 | .ligature a b,ok=>by
  rw [show decide (kindT (.ligature a b)∈[tx "adjust",tx "pair"])=false by kernel_rfl,Bool.false_or]
  show veq (.tup (strVs a)) _=_
  rw [veq_tup_str]
  show false=(tx "sub"==tx "pos")
  decide +kernel
 | .adjust a w,_=>by
  rw [show decide (kindT (.adjust a w)∈[tx "adjust",tx "pair"])=true by kernel_rfl,Bool.true_or]
  show true=(tx "pos"==tx "pos"); decide +kernel
 | .pair a b w,_=>by
  rw [show decide (kindT (.pair a b w)∈[tx "adjust",tx "pair"])=true by kernel_rfl,Bool.true_or]
  show true=(tx "pos"==tx "pos"); decide +kernel
 | .chain w b i a,_=>by
  rw [show decide (kindT (.chain w b i a)∈[tx "adjust",tx "pair"])=false by kernel_rfl,Bool.false_or]
  show veq (.str w) _=_
  rw [veq_strs]
  rfl
theorem findIdx_nodup:∀ {xs:List (List Nat)} {i:Nat} {x:List Nat},xs.Nodup→xs[i]?=some x→xs.findIdx (·==x)=i
 | y::r,0,x,_,h=>by cases h; rw [List.findIdx_cons]; simp
 | y::r,i+1,x,nd,h=>by
  have h':r[i]?=some x:=h
  have hne:(y==x)=false:=beq_eq_false_iff_ne.mpr fun e=>by
   have:=(List.nodup_cons.mp nd).1
   rw [e] at this
   exact this (List.mem_of_getElem? h')
  rw [List.findIdx_cons,hne,findIdx_nodup (List.nodup_cons.mp nd).2 h']
  rfl
theorem idxOf_at {ls:List LookD} (nd:(namesOf ls).Nodup) {i:Nat} {l:LookD} (h:ls[i]?=some l):idxOf ls l.name=(i:Int):=by
 have h1:(namesOf ls)[i]?=some l.name:=by unfold namesOf; rw [List.getElem?_map,h]; rfl
 unfold idxOf strIdx
 rw [if_pos (List.mem_of_getElem? h1),findIdx_nodup nd h1]
theorem idxOf_none {ls:List LookD} {fs:List FeatD} (h:LawTree ls fs):idxOf ls (tx "none")=-1:=by
 unfold idxOf
 rw [if_neg]
 intro hm
 refine xi1 ?_ (h.names)
 intro m
 refine im3 ?_
 intro _ _ e
 rw [e] at hm
 have:∀ u∈nms3,u≠tx "none":=by decide +kernel
 exact this _ (List.mem_of_mem_take hm) rfl
noncomputable def gpairs:List (List Nat×V):=c_glyphs.mapIdx fun i g=>(g,V.int i)
section
variable {c:Cx} {k:Nat} {σ:St} {Q:V→St→Prop}
theorem knows_dict {m:Addr} (hs:(m==sysModules)=false) (e:σ m=some (.dict (gpairs.map fun p=>(S p.1,p.2)))):Knows c σ (.ref m):=by
 refine xc2_5 m _ rfl e (fun wl nm n h=>?_) (fun us h=>(by cases h)) (fun τ eτ w hw k Q q=>Op2.notInDict hs eτ ?_ q)
 ·injection h with h
  have:=congrArg List.length h
  rw [List.length_map] at this
  exact absurd this (by show gpairs.length≠3; decide +kernel)
 ·have:c_glyphs=gpairs.map (·.1):=by decide +kernel
  rw [this] at hw
  refine xi1 ?_ (List.mem_map.mp hw)
  intro p
  refine im2 ?_
  intro hp hq163
  obtain rfl:=hq163
  rw [List.map_map]
  exact List.mem_map.mpr ⟨p,hp,rfl⟩
theorem knows_glyphs (e:σ 471=some (.frozen (strVs c_glyphs))):Knows c σ (.ref 471):=by
 refine xc2_5 471 _ rfl e (fun wl nm n h=>(by cases h)) (fun us h=>(by cases h)) (fun τ eτ w hw k Q q=>?_)
 refine Op2.notInList (.inr eτ) (ok_str (glyph_ch hw)) (oks_strs (chOk_all fun g hg=>hg)) (depth_str w) ?_
 rw [vin_str,decide_eq_true hw]
 exact q
end
section
variable {c:Cx} {k:Nat} {σ:St} {Q:V→St→Prop}
theorem nothing_toks:TokS (tx " # nothing") [[]]:=by
 have:=TokS.gap (g:=tx " ") (skG_blank (x:=32) (by decide +kernel) SkG.nil) (TokS.fin (m:=tx " nothing") (by decide +kernel))
 exact this
theorem treeOk_nil:TreeOk [] []:=⟨fun _ h=>(by cases h),fun _ h=>(by cases h),by simp [namesOf],fun _ h=>(by cases h),fun _ h=>(by cases h),fun _ h=>(by cases h),by decide,by decide,fun _ h=>(by cases h)⟩
set_option maxHeartbeats 8000000 in
theorem w_law (pc:PC c) {L:Addr} {l:List Int} (e:σ L=some (.list (l.map V.int))∨σ L=some (.frozen (l.map V.int))) (hl:l.length≤63) (hG:σ 471=some (.frozen (strVs c_glyphs))):CallC c (k+30) (.ref 583) [.ref L] σ fun v _=>v=.bool true:=by
 revert pc e hl hG
 revert c; revert k; revert σ; revert L l
 walk_at "close 5"
 intro L l σ k c pc e hl hG
 walk_at "def 1"
 walk_at "g"
 refine (w_law_pen pc e hl fun σ1 P C x1 hP pen=>?_).toW
 have lw1:Lw σ1 P C 0:=⟨pen,x1 _ _ hG⟩
 walk_at "g"
 refine (w_law_told_tree pc lw1 (by decide) fun σ2 ls fs lt x2 lw2=>?_).toW
 walk_at "g"
 refine (w_draw (many:=2) pc lw2 (by decide) (by decide) (by decide) fun σ3 d hd x3 lw3=>?_).toW
 walk_at "g"
 generalize (((d:Nat):Int)==1)=long
 refine EV.compE (by decide +kernel) (fun _ _=>rfl) ?_ ?_
 ·walk_at "cap"
 refine IT.enumL rfl (by decide +kernel) (gn_enumerate pc) rfl ?_
 walk_at "g"
 refine xc2_3 471 (strVs c_glyphs) rfl (.inr lw3.2) ?_
 refine CompQ.list (gpairs.map pairV) (by decide +kernel) (by decide +kernel) (fun τ x=>.inr (x _ _ lw3.2)) (fun i x y hx hy τ ex=>?_) fun D τ4 hD x4 eD=>?_
 ·refine xi1 ?_ (enumV_get hx)
  intro z
  refine im2 ?_
  intro hz hq164
  obtain rfl:=hq164
  unfold strVs at hz
  rw [List.getElem?_map] at hz
  unfold gpairs at hy
  rw [List.getElem?_map,List.getElem?_mapIdx] at hy
  cases hg:c_glyphs[i]? with
  | none=>rw [hg] at hz; cases hz
  | some g =>
  rw [hg] at hz hy
  cases hz; cases hy
  refine xc1_2 _ (CTg.pairE (by decide +kernel) (by decide +kernel)) ?_
  walk_at "g"
  exact ⟨rfl,Ext.refl _⟩
 walk_at "g"
 refine CallW.dictPairs eD (by decide +kernel) (by decide +kernel) fun nm hnm hns=>?_
 have lw4:=(lw3.ext x4).ext (Ext.fresh (o:=MObj.dict (gpairs.map fun p=>(S p.1,p.2))) hnm)
 have eNm:upM τ4 nm (.dict (gpairs.map fun p=>(S p.1,p.2))) nm=some (.dict (gpairs.map fun p=>(S p.1,p.2))):=upd_self _ _ _
 have nmP:nm≠P:=(lw3.ext x4).neNone hnm
 generalize upM τ4 nm (.dict (gpairs.map fun p=>(S p.1,p.2)))=σ4 at lw4 eNm ⊢
 walk_at "g"
 have hzl:=lt.wordsLen long
 have okl:∀ l∈ls,LookOk l∧∀ row∈l.rows,RowSmall row:=fun l h=>⟨(lt.looks l h).ok,(lt.looks l h).small⟩
 have okf:∀ f∈fs,f.uses.length < 1000:=fun f h=>by have:=(lt.feats f h).len; exact ar290 this
 refine (w_law_words pc okl okf (by exact ar493 hzl) fun σ5 WL x5 eW=>?_).toW
 walk_at "g"
 have gws:=lt.gws long
 have lw5:=lw4.ext x5
 refine (w_law_text pc lw5 (by decide) eW (lw5.neL eW) (by exact ar494 hzl) (fun w hw=>gw_len (gws w hw)) fun σ6 t ht x6 lw6=>?_).toW
 walk_at "g"
 have eNm6:=x6 _ _ nmP (x5 _ _ eNm)
 have eG6:σ6 471=some (.frozen (strVs c_glyphs)):=lw6.2
 refine xi1 ?_ ((ht.toks fun w hw=>gw_wk (gws w hw)).at)
 intro W
 refine im2 ?_
 intro hW hWm
 have htl:=ht.len fun w hw=>gw_len (gws w hw)
 refine im2 ?_ (toks_facts gws hzl hWm)
 intro hWl hWc
 rw [List.append_assoc] at hWm
 refine (w_read_rules pc (long:=long) (by exact ar495 hzl htl) hW hWl hWc hWm lt.ok (knows_dict hns eNm6) fun σ7 s0 Tr dT LL FL x7 tr=>?_).toW
 have eNm7:=x7 _ _ eNm6
 have eG7:=x7 _ _ eG6
 walk_at "g"
 have gt:=gd_tree lt
 have hcount:ls.length < 1000∧fs.length < 1000∧∀ l∈ls,l.rows.length < 1000:=by
  have:=lt.lenL
  have:=lt.lenF
  exact xc0_3 (by exact ar496 (by assumption)) (by exact ar290 this) (fun l h=>by have:=(lt.looks l h).len; exact ar290 this)
 refine xc1_2 _ (tr.meth (me_RuleTree_told pc) (ke_RuleTree_told pc) rfl) ?_
 walk_at "g"
 refine (w_tree_told pc tr hcount fun σ8 x8=>?_).toW
 walk_at "g"
 refine Op2.neData gt.1 gt.1 (by have:=gt.2; exact ar497 this) ?_
 rw [veq_self gt.1]
 walk_at "g"
 have hzt:=tree_len lt
 have tr8:=tr.ext x8
 refine (w_show_rules pc tr8 lt.ok hzt fun σ9 x9=>?_).toW
 walk_at "g"
 refine (w_law_bare pc (by exact ar498 hzt) fun σ10 x10=>?_).toW
 walk_at "g"
 refine xc1_2 _ MethR.join ?_
 walk_at "g"
 refine (w_law_words pc okl okf (by have:=lt.wordsLen false; exact ar493 this) fun σ11 DL x11 eDL=>?_).toW
 rw [cs_empty]
 have hden:=tree_dense lt
 have hdl:((looksW ls false++featsW fs false).flatten).length≤(treeT ls fs).length:=by rw [← hden]; exact List.length_filter_le ..
 refine CallW.joinList (.inl eDL) (by rw [flat_len,sizeLine_is]; simp only [List.length_nil,Nat.mul_zero]; exact ar499 hzt hdl) ?_
 rw [joinL_nil]
 walk_at "g"
 rw [hden,bne_self_eq_false]
 walk_at "g"
 have eNm11:=x11 _ _ (x10 _ _ (x9 _ _ (x8 _ _ eNm7)))
 have eG11:=x11 _ _ (x10 _ _ (x9 _ _ (x8 _ _ eG7)))
 have tr11:=((tr8.ext x9).ext x10).ext x11
 refine xi1 ?_ ((tree_toks lt).at)
 intro W2
 refine im2 ?_
 intro hW2 hWm2
 refine im2 ?_ (toks_facts (lt.gws false) (lt.wordsLen false) hWm2)
 intro hWl2 hWc2
 rw [List.append_assoc] at hWm2
 refine (w_read_rules pc (long:=false) (by exact ar500 hzt) hW2 hWl2 hWc2 hWm2 lt.ok (knows_glyphs eG11) fun σ12 s1 Tr2 dT2 LL2 FL2 x12 ta=>?_).toW
 walk_at "g"
 refine xc1_2 _ (ta.meth (me_RuleTree_told pc) (ke_RuleTree_told pc) rfl) ?_
 walk_at "g"
 refine (w_tree_told pc ta hcount fun σ13 x13=>?_).toW
 walk_at "g"
 refine Op2.neData gt.1 gt.1 (by have:=gt.2; exact ar497 this) ?_
 rw [veq_self gt.1]
 walk_at "g"
 refine (w_show_rules pc (ta.ext x13) lt.ok hzt fun σ14 x14=>?_).toW
 walk_at "g"
 rw [bne_self_eq_false]
 walk_at "g"
 have x11':Ext σ11 σ14:=(x12.trans x13).trans x14
 have tr14:=tr11.ext x11'
 have eNm14:=x11' _ _ eNm11
 refine xi1 ?_ (tr14.looks)
 intro lvs
 refine im2 ?_
 intro eLL alL
 have hlvs:=alL.len
 have nd:=lt.ok.names
 have chN:∀ l∈ls,chOk l.name=true:=lt.ok.chars
 refine SV.for (fun _ _=>rfl) ?_
 refine IT.enumT rfl (by decide +kernel) (gn_enumerate pc) rfl ?_
 walk_at "g"
 refine TailW.tup (vs:=[.tup (ls.map lookV),.tup (fs.map featV)]) (m:=0) (fun _ _=>rfl) (by decide) (by decide) rfl rfl ?_
 refine xc1_2 _ rfl ?_
 refine xc1_4 (fun i ρ' σ'=>ρ' "tree"=some (.ref Tr)∧ρ' "names"=some (.ref nm)∧Ext σ14 σ') ⟨?_,?_,Ext.refl _⟩ (fun _ _ _ _=>trivial) ?_ ?_
 ·walk_at "loc"
 ·walk_at "loc"
 ·intro i ρ' σ' x hx
  refine im3 ?_
  intro k1 k2 xσ
  refine xi1 ?_ (enumV_get hx)
  intro y
  refine im2 ?_
  intro hy hq165
  obtain rfl:=hq165
  rw [List.getElem?_map] at hy
  cases hli:ls[i]? with
  | none=>rw [hli] at hy; cases hy
  | some l =>
  rw [hli] at hy
  cases hy
  have hlm:=List.mem_of_getElem? hli
  have lk:=lt.looks l hlm
  have hil:=(List.getElem?_eq_some_iff.mp hli).1
  have hln:=lt.lenL
  have uses:∀ row∈l.rows,∀ u∈rowUses row,gwB u=true:=fun row hr u hu=>lt.gn u (lk.uses u (List.mem_flatten.mpr ⟨_,List.mem_map_of_mem hr,hu⟩))
  obtain ⟨r0,hr0⟩:∃ r0,l.rows[0]?=some r0:=by
   cases hh:l.rows with
   | nil=>exact absurd hh lk.ok.ne
   | cons a b=>exact ⟨a,rfl⟩
  have hrows:=lk.len
  refine xi1 ?_ (alL.getR hli)
  intro v
  refine im2 ?_
  intro hv
  refine xi1 ?_
  intro B
  refine im2 ?_
  intro hq166
  obtain rfl:=hq166
  intro lr
  have tr':=tr14.ext xσ
  have lrσ:=lr.ext xσ
  show TgV c _ _ _ _ _ (V.tup [.int i,.tup [.str l.name,.int l.flag,.tup (l.rows.map rowV)]]) _
  walk_at "g"
  refine xc1_2 _ (tr'.a_looks pc) ?_
  walk_at "g"
  refine TailW.list (x:=.ref B) (fun _ _=>rfl) (.inl (xσ _ _ eLL)) (by exact ar20) (by exact ar501 hil hln) (by rw [Int.toNat_natCast]; exact hv) ?_
  walk_at "g"
  refine SV.assignCompE (by decide +kernel) (fun _ _=>rfl) ?_ (by decide +kernel) rfl (by decide +kernel) ?_
  ·walk_at "cap"
  refine IT.tup ?_
  walk_at "g"
  refine TailW.tup (m:=2) (fun _ _=>rfl) (by decide) (by decide) rfl rfl ?_
  refine xc1_2 _ rfl ?_
  refine CompQ.list (l.rows.map fun row=>V.bool (rowHead row==tx "pos")) (by simp) (by rw [List.length_map]; exact ar255 hrows) (fun _ _=>trivial) (fun j x y hx hy τ ex=>?_) fun D τ hD ex eD=>?_
  ·rw [List.getElem?_map] at hx hy
   cases hr:l.rows[j]? with
   | none=>rw [hr] at hx; cases hx
   | some row =>
   rw [hr] at hx hy
   cases hx; cases hy
   have hrm:=List.mem_of_getElem? hr
   have ok:=lk.ok.rows row hrm
   have fg:=firstP_gd ok (uses row hrm)
   refine xc1_2 _ (CTg.nameE (by decide +kernel)) ?_
   walk_at "g"
   refine TailW.tup (vs:=[.str (kindT row),.tup (partsV row)]) (m:=0) (fun _ _=>rfl) (by decide) (by decide) rfl rfl ?_
   walk_at "g"
   refine Op2.inTup (ok_str (kind_ch row).1) (oks_strs (ls:=[tx "adjust",tx "pair"]) (by decide +kernel)) (depth_str _) ?_
   rw [show vin (.str (kindT row)) [V.str (Str.ofString "adjust").cps.toList,V.str (Str.ofString "pair").cps.toList]=decide (kindT row∈[tx "adjust",tx "pair"]) from vin_str _ [tx "adjust",tx "pair"]]
   have pw:=pos_word ok
   cases hb:decide (kindT row∈[tx "adjust",tx "pair"]) with
   | true =>
    rw [hb,Bool.true_or] at pw
    walk_at "g"
    exact ⟨congrArg V.bool pw,Ext.refl _⟩
   | false =>
    rw [hb,Bool.false_or] at pw
    walk_at "g"
    refine TailW.tup (vs:=[.str (kindT row),.tup (partsV row)]) (m:=1) (fun _ _=>rfl) (by decide) (by decide) rfl rfl ?_
    walk_at "g"
    refine TailW.tup (m:=0) (x:=firstP row) (fun _ _=>rfl) (by decide) (by decide) (by cases row <;> rfl) (firstP_at row) ?_
    walk_at "g"
    refine Op2.eqData fg.1 rfl (by have:=fg.2; exact ar502 this) ?_
    exact ⟨congrArg V.bool pw,Ext.refl _⟩
  have trτ:=tr'.ext ex
  have lrτ:=lrσ.ext ex
  walk_at "g"
  refine xc1_2 _ (lrτ.meth (me_LookupBlock_kind pc) (ke_LookupBlock_kind pc) rfl) ?_
  walk_at "g"
  refine (w_look_kind pc lrτ hr0 ?_).toW
  walk_at "g"
  refine TailW.tup (m:=2) (fun _ _=>rfl) (by decide) (by decide) rfl rfl ?_
  walk_at "g"
  refine TailW.tup (m:=0) (x:=rowV r0) (fun _ _=>rfl) (by decide) (by decide) (by rw [List.length_map]; exact seqIndex_nat (List.getElem?_eq_some_iff.mp hr0).1) (by rw [List.getElem?_map,hr0]; rfl) ?_
  walk_at "g"
  refine TailW.tup (vs:=[.str (kindT r0),.tup (partsV r0)]) (m:=0) (fun _ _=>rfl) (by decide) (by decide) rfl rfl ?_
  walk_at "g"
  rw [bne_self_eq_false]
  walk_at "g"
  refine xc1_2 _ (lrτ.meth (me_LookupBlock_is_position pc) (ke_LookupBlock_is_position pc) rfl) ?_
  walk_at "g"
  refine (w_look_pos pc lrτ hr0 ?_).toW
  walk_at "g"
  refine TailW.list (j:=0) (x:=.bool (rowHead r0==tx "pos")) (fun _ _=>rfl) (.inl eD) (by decide) (by decide) (by show (l.rows.map _)[0]?=_; rw [List.getElem?_map,hr0]; rfl) ?_
  refine Op2.neBool ?_
  rw [bne_self_eq_false]
  walk_at "g"
  refine xc1_2 _ (trτ.meth (me_RuleTree_lookup_named pc) (ke_RuleTree_lookup_named pc) rfl) ?_
  walk_at "g"
  refine TailW.tup (m:=0) (fun _ _=>rfl) (by decide) (by decide) rfl rfl ?_
  refine (w_lookup_named pc trτ (by exact ar496 hln) (chN l hlm) chN fun τ2 xτ2=>?_).toW
  rw [idxOf_at nd hli]
  walk_at "g"
  rw [bne_self_eq_false]
  walk_at "g"
  refine EV.compE (by decide +kernel) (fun _ _=>rfl) ?_ ?_
  ·walk_at "cap"
  refine IT.list ?_
  walk_at "g"
  refine xi2 ?_ ((lrτ.ext xτ2).a_rows pc)
  intro RL rvs
  refine im3 ?_
  intro aR eR alR
  have hrl:=alR.len
  refine xc1_2 _ aR ?_
  refine xc2_3 RL rvs rfl (.inl eR) ?_
  refine CompQ.list (strVs (l.rows.map rowHead)) (by simp [strVs,hrl]) (by exact ar503 hrows hrl) (okList eR) (fun j x y hx hy τ3 ex3=>?_) fun D3 τ3 hD3 ex3 eD3=>?_
  ·refine xi1 ?_ (alR.get hx)
   intro row
   refine im2 ?_
   intro hr
   refine xi1 ?_
   intro R
   refine im2 ?_
   intro hq167
   obtain rfl:=hq167
   intro hR
   unfold strVs at hy
   rw [List.getElem?_map,List.getElem?_map,hr] at hy
   cases hy
   refine xc1_2 _ (CTg.nameE (by decide +kernel)) ?_
   walk_at "g"
   refine xc1_2 _ ((hR.ext ex3).meth (me_RuleRow_word pc) (ke_RuleRow_word pc) rfl) ?_
   walk_at "g"
   exact (w_row_word pc (hR.ext ex3) ⟨rfl,Ext.refl _⟩).toW
  walk_at "g"
  refine EV.compE (by decide +kernel) (fun _ _=>rfl) ?_ ?_
  ·walk_at "cap"
  refine IT.list ?_
  walk_at "g"
  have eD4:=ex3 _ _ (xτ2 _ _ eD)
  refine xc2_3 D _ rfl (.inl eD4) ?_
  refine CompQ.list (strVs (l.rows.map rowHead)) (by simp [strVs]) (by rw [List.length_map]; exact ar255 hrows) (okList eD4) (fun j x y hx hy τ5 ex5=>?_) fun D5 τ5 hD5 ex5 eD5=>?_
  ·rw [List.getElem?_map] at hx
   unfold strVs at hy
   rw [List.getElem?_map,List.getElem?_map] at hy
   cases hr:l.rows[j]? with
   | none=>rw [hr] at hx; cases hx
   | some row =>
   rw [hr] at hx hy
   cases hx; cases hy
   have hin:=rowHead_in (lk.ok.rows row (List.mem_of_getElem? hr))
   refine xc1_2 _ (CTg.nameE (by decide +kernel)) ?_
   walk_at "g"
   intro M τ6 x6' eM
   walk_at "g"
   refine TailW.listBool (x:=.str (rowHead row)) (fun _ _=>rfl) (.inl eM) ?_ ⟨rfl,x6'⟩
   rcases hin with hin | hin
   ·rw [hin,show (tx "sub"==tx "pos")=false by decide +kernel]; rfl
   ·rw [hin,show (tx "pos"==tx "pos")=true by decide +kernel]; rfl
  have hch:(l.rows.map rowHead).all chOk=true:=List.all_eq_true.mpr fun w hw=>by
   refine xi1 ?_ (List.mem_map.mp hw)
   intro row
   refine im2 ?_
   intro hr hq168
   obtain rfl:=hq168
   rcases rowHead_in (lk.ok.rows row hr) with z | z <;> rw [z] <;> decide +kernel
  refine Op2.neLists (.inl (ex5 _ _ eD3)) (.inl eD5) (oks_strs hch) (oks_strs hch) (by have:=depths_str (l.rows.map rowHead); exact ar502 this) ?_
  rw [vseq_self (oks_strs hch)]
  walk_at "g"
  refine ⟨?_,?_,(((xσ.trans ex).trans xτ2).trans ex3).trans ex5⟩ <;> walk_at "loc"
 ·intro ρ' σ'
  refine im3 ?_
  intro k1 k2 xσ
  have tr':=tr14.ext xσ
  have hln:=lt.lenL
  walk_at "g"
  refine xc1_2 _ (tr'.meth (me_RuleTree_lookup_named pc) (ke_RuleTree_lookup_named pc) rfl) ?_
  walk_at "g"
  refine (w_lookup_named pc tr' (w:=tx "none") (by exact ar496 hln) (by decide +kernel) chN fun τ xτ=>?_).toW
  rw [idxOf_none lt]
  walk_at "g"
  rw [if_pos (by decide)]
  walk_at "g"
  refine xi1 ?_ (nothing_toks.at)
  intro W3
  refine im2 ?_
  intro hW3 hWm3
  refine im2 ?_ (toks_facts (ws:=[]) Gws.nil (by decide) (W:=W3) hWm3)
  intro hWl3 hWc3
  refine (w_read_rules pc (long:=false) (ls:=[]) (fs:=[]) (by decide +kernel) hW3 hWl3 hWc3 hWm3 treeOk_nil (knows_dict hns (xτ _ _ (xσ _ _ eNm14))) fun τ2 s2 T3 d3 L3 F3 x3' t3=>?_).toW
  walk_at "g"
  refine xc1_2 _ (t3.meth (me_RuleTree_told pc) (ke_RuleTree_told pc) rfl) ?_
  walk_at "g"
  refine (w_tree_told pc t3 ⟨by decide,by decide,fun _ h=>(by cases h)⟩ fun τ3 x4'=>?_).toW
  walk_at "g"
  refine Op2.eqData (u:=.tup [.tup [],.tup []]) rfl rfl (by decide +kernel) ?_
  exact congrArg V.bool (veq_self (v:=.tup [.tup [],.tup []]) rfl)
end
theorem ints_vals {P:Params} {h:Heap}:∀ (l:List Int) {vs:List Value},WellAll P h vs (ofPys (l.map PyData.int))→VRs h vs (l.map V.int):=by
 intro l
 induction l with
 | nil=>intro vs w; cases w; rfl
 | cons i l ih =>
  intro vs w
  cases w with
  | cons a b=>cases a with
   | int i t=>exact VRs.cons ⟨t,rfl⟩ (ih b)
theorem list_of_well {P:Params} {h:Heap} {L:Addr} {l:List Int} (w:Well P h (.ref L) (ofPy (PyData.list (l.map PyData.int)))):∃ its n,h.get? L=some (listO its n)∧VRs h its (l.map V.int):=by
 have w':Well P h (.ref L) (.list (ofPys (l.map PyData.int))):=w
 cases w' with
 | list g a=>exact ⟨_,_,g,ints_vals _ a⟩
noncomputable def st0 (L:Addr) (l:List Int):St:=fun x=>if x=471 then some (.frozen (strVs c_glyphs)) else if x=L then some (.frozen (l.map V.int)) else none
theorem sim0 {c:Cx} (pc:PC c) {L:Addr} {l:List Int} (hL:∃ its n,c.h0.get? L=some (listO its n)∧VRs c.h0 its (l.map V.int)):Sim c (st0 L l) c.h0∧st0 L l L=some (.frozen (l.map V.int))∧st0 L l 471=some (.frozen (strVs c_glyphs)):=by
 revert pc hL
 revert c; revert L l
 walk_at "close 3"
 intro L l c pc hL
 refine xi2 ?_ (hL)
 intro its n
 refine im2 ?_
 intro g r
 refine xi2 ?_ (glyph_obj pc)
 intro gits gn
 refine im2 ?_
 intro gg gr
 have hne:L≠471:=by
  rintro rfl
  have e:listO its n=listO gits gn:=Option.some.inj (g.symm.trans gg)
  have e2:its=gits:=by
   have:=congrArg Obj.data e
   simp only [Data.seq.injEq] at this
   simpa using this.1
  subst e2
  have h1:=r.length
  have h2:=gr.length
  cases l with
  | nil=>rw [h2] at h1; exact absurd h1 (by decide)
  | cons i l =>
   refine xi1 ?_ (r.get (i:=0) (x:=.int i) rfl)
   intro v
   refine im2 ?_
   intro hv
   refine xi1 ?_
   intro t hq169
   obtain rfl:=hq169
   refine xi1 ?_ (gr.get (i:=0) (x:=.str (tx "a")) rfl)
   intro u
   refine im2 ?_
   intro hu
   refine xi1 ?_
   intro t' hq170
   obtain rfl:=hq170
   rw [hv] at hu
   cases hu
 refine xc0_3 ⟨fun _ _ e=>e,fun a x e=>?_,fun a e=>?_⟩ ?_ (if_pos rfl)
 ·unfold st0 at e
  split at e
  ·rename_i z; subst z; cases e; exact ⟨gits,gn,gg,gr⟩
  ·split at e
   ·rename_i z; subst z; cases e; exact ⟨its,n,g,r⟩
   ·cases e
 ·unfold mutAt st0 at e
  split at e
  ·rename_i z
   split at z
   ·cases z; cases e
   ·split at z
    ·cases z; cases e
    ·cases z
  ·cases e
 ·unfold st0
  rw [if_neg hne,if_pos rfl]
theorem room0:Room callerA 30:=⟨rfl,by decide +kernel,by decide +kernel⟩
theorem law_call {c:Cx} (pc:PC c) {L fa:Addr} {l:List Int} {s:Shared} (hs:s.heap=c.h0) (hL:∃ its n,c.h0.get? L=some (listO its n)∧VRs c.h0 its (l.map V.int)) (hl:l.length≤63) (hfa:c.mg "law"=some (.ref fa)) :
  wpAny (model c.prog c.w) callerA (call (.ref fa) [.ref L]) (fun v s'=>v=.bool true∧(∃ h' t',s'={ s with heap:=h',toks:=t' })∧∀ b o,s.heap.get? b=some o→s'.heap.get? b=some o) (fun _ _=>False) s:=by
 revert pc hs hL hl hfa
 revert c; revert s; revert L fa l
 walk_at "close 5"
 intro L fa l s c pc hs hL hl hfa
 refine xi1 ?_ (gv_law pc)
 intro u
 refine im2 ?_
 intro hu hv
 rw [hfa] at hu
 cases hu
 have e:Value.ref fa=.ref 583:=hv
 rw [e]
 refine im3 ?_ (sim0 pc hL)
 intro sm e1 e2
 rw [← hs] at sm
 have h:=(w_law (k:=0) pc (.inr e1) hl e2).toW callerA s [.ref L] room0 sm (VRs.cons rfl VRs.nil)
 refine wpAny_mono h (fun v s' p=>?_) fun _ _ z=>z
 refine xi4 ?_ (p)
 intro x σ' h' t'
 refine im5 ?_
 intro hq171
 obtain rfl:=hq171
 intro r sm' st hq172
 obtain rfl:=hq172
 exact xc0_3 r ⟨h',t',rfl⟩ (fun b o z=>sm'.keep b o (hs ▸ z))
end Mine.Internal
theorem PySem.Challenge.cw_nu0234_01_holds : PySem.Challenge.rw_nu0234_01.Holds := by
 refine Mine.Internal.hd ?_
 intro w s₀ s₁ mg mb G Y fa o pm cd doc dV kV ho hd hcd hD hmg hg args vals as hpre hlay hrd hwl hlo
 have KX:=kIn_of Y
 have T:=G.T
 clear hd hcd hD
 wrow_args hpre hlay hrd hwl hlo
 rename Well _ _ _ _=>w1
 rename ¬ _=>hc
 have hl:=Mine.Internal.list_of_well w1
 refine wpAny_mono (Mine.Internal.law_call (c:=⟨PySem.Challenge.rw_nu0234_01.row.prog,w,s₁.heap,mg,mb,T.g,T.b,T.builtins,T.nolimit,T.nodigits,Mine.Internal.hd.heap_1 w.params,KX⟩) ⟨rfl⟩ rfl hl (by omega) hmg) ?_ fun _ _ z=>z.elim
 rintro v s' ⟨rfl,⟨h',t',rfl⟩,hk⟩
 refine ⟨.inl ⟨.bool true,.bool true,[],rfl,fun _=>rfl,.bool true,by wrow_post,fun _=>⟨List.nodup_nil,fun _ z=>by cases z⟩⟩,OldK.of_keep hk,rfl,AllBare.of_eq hg⟩
