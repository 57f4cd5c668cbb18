import PyProof.Rows.All
import Wide.All
import OpenK.AllK
import Wide.FinOn
import HandS.ForMost
import HandS.Nested
import HandS.TupAny
import HandS.Deep
import HandS.Wide
import HandS.IsInst
import HandS.More
import HandS.Zip
import HandS.Ends
import HandS.Defaults
import HandS.StrMore
import HandS.NoneIn
import PyProof.Rows.StrRev
import HandS.MakeKwOnly
import HandS.Small
import KE.GoesEnum
import HandS.TupMul
import HandS.Style
import PyProof.ReprRoads
import PyProof.ReprLen
import PyProof.Rows.RegStrFacts
import KE.SortKeyHeap
import HandS.SetKeys
import HandS.SetFor
import KE.GoesMore
import HandS.Conv
import HandS.WordsDict
import HandS.MakeKw
import HandS.Iter
import HandS.DictComp
import KE.KDictList
import HandS.DictTup
import HandS.TupSets
import HandS.SetBool
import KE.KDictPairs
import PyProof.Rows.RuleDivmod
import HandS.SetTxt0
import PyProof.CollectStr
import HandS.ExcValue
import HandS.ClsMeth
import KE.DataMinMax
import PyProof.DictUpdate
import HandS.HeadHook2
import KE.KAssignIn
import KE.KIndexOf
import PyProof.WalkInts
import HandS.HeadHook4
import KE.KDictZip
import KE.KItemsList
import HandS.Head0
import HandS.Head1
import HandS.Head2
import HandS.HeadEnd
import HandS.HeadHook1
import PySem.Challenge.RW_clingfares_k40_dances_by_draws
set_option Elab.async false
set_option linter.all false
set_option maxRecDepth 100000
set_option maxHeartbeats 4000000
local macro_rules | `(tactic| walk_at "u") => `(tactic| first | exact Nat.le_refl _ | decide | omega)
local macro_rules | `(tactic| walk_at "v") => `(tactic| first | exact .inl rfl | exact .inr rfl)
namespace Cf
open PySem PySem.Spec PyProof.Rows L2
section
def obsC(n:Nat)(fa:List He.Fa)(fn:List He.DefD)(tf:List He.Defn)(ex:PySem.W.Frag->Bool)(g:Addr->Option Obj):He.AlD×Bool:=(He.obsD fa fn (He.frT g (He.asD g n ++ [cStatics])),ex (He.frT g (He.asD g n ++ [cStatics]))&&He.tabsB g tf (He.frT g (He.asD g n ++ [cStatics])))
structure SaysC(fa:List He.Fa)(fn:List He.DefD)(tf:List He.Defn)(ex:PySem.W.Frag->Bool)(h:Heap)(K:PySem.W.Frag):Prop where
 c:He.SaysD fa fn K
 ex:ex K=true
 hd:∀p∈tf,PySem.W.codeHdIn K (He.cT K p).1 (He.cT K p).2=true
 out:∀p∈tf,K.lookup (He.cT K p).2=none
 empty:∀p∈tf,h.get? (He.cT K p).2=some { cls := .none,data := .fields #[] }
theorem saysC_of{n:Nat}{fa:List He.Fa}{fn:List He.DefD}{tf:List He.Defn}{ex:PySem.W.Frag->Bool}{h:Heap}(e:obsC n fa fn tf ex h.get? =(He.valD fn,true)):SaysC fa fn tf ex h (He.frT h.get? (He.asD h.get? n ++ [cStatics])):=by
 have e1:He.obsD fa fn (He.frT h.get? (He.asD h.get? n ++ [cStatics]))=He.valD fn:=congrArg (fun z:He.AlD×Bool=>z.1) e
 have e2:(ex (He.frT h.get? (He.asD h.get? n ++ [cStatics]))&&He.tabsB h.get? tf (He.frT h.get? (He.asD h.get? n ++ [cStatics])))=true:=congrArg (fun z:He.AlD×Bool=>z.2) e
 generalize hK:He.frT h.get? (He.asD h.get? n ++ [cStatics])=K at e1 e2
 obtain⟨h1,h2⟩:=He.ba e2
 have one:∀p∈tf,PySem.W.codeHdIn K (He.cT K p).1 (He.cT K p).2=true /\∃o,h.get? (He.cT K p).2=some o/\He.emptyTab o=true:=fun p hp=>by
  obtain⟨h3,h4⟩:=He.ba (List.all_eq_true.mp h2 p hp)
  refine⟨h3, ?_⟩
  cases q:h.get? (He.cT K p).2 with
  | none=>simp [q]at h4
  | some o=>exact⟨o,rfl,by simpa [q]using h4⟩
 refine⟨e1,h1,fun p hp=>(one p hp).1,fun p hp => ?_,fun p hp => ?_⟩
 ·obtain⟨_,o,q,z⟩:=one p hp
  rw [<- hK]at q ⊢
  exact He.frT_none q z
 ·obtain⟨_,o,q,z⟩:=one p hp
  rw [q,He.emptyTab_eq z]
def hookC(n:Nat)(fa:List He.Fa)(fn:List He.DefD)(tf:List He.Defn)(ex:PySem.W.Frag->Bool):PySem.W.Hook where
 α:=He.AlD×Bool
 obs:=fun s=>obsC n fa fn tf ex s.heap.get?
 val:=fun _=>(He.valD fn,true)
 says:=fun _ h =>∃K:PySem.W.Frag,K.In h/\SaysC fa fn tf ex h K
 of:=fun _ _ e=>⟨_,He.frT_in,saysC_of e⟩
 keeps:=fun _ _ _ ⟨K,hK,c⟩ k=>⟨K,PySem.W.Frag.In.keeps hK k,⟨c.c,c.ex,c.hd,c.out,fun p hp=>k _ _ (c.empty p hp)⟩⟩
theorem obsC_eq{n:Nat}{fa:List He.Fa}{fn:List He.DefD}{tf:List He.Defn}{ex:PySem.W.Frag->Bool}{g:Addr->Option Obj}{s:Shared}(h:∀a,g a=s.heap.get? a):obsC n fa fn tf ex g=(hookC n fa fn tf ex).obs s:=by
 have e:g=s.heap.get? :=funext h
 rw [e] <;> rfl
end
end Cf
namespace Law
open PySem PySem.Spec PyProof.Rows L2
def topS(i:Nat):Stmt:=PySem.Challenge.pw_clingfares_k40_dances_by_draws.main.body.getD i (.Pass ⟨0,0,0,0⟩)
abbrev s_colour_of:Stmt:=topS 1
abbrev s_is_number:Stmt:=topS 3
abbrev s_is_purse:Stmt:=topS 4
abbrev s_count_of:Stmt:=topS 6
abbrev s_is_multiple:Stmt:=topS 7
abbrev s_law_dip:Stmt:=topS 20
abbrev s_law_take:Stmt:=topS 21
abbrev s_law_folded:Stmt:=topS 22
abbrev s_law_one_of:Stmt:=topS 23
abbrev s_law_strewn:Stmt:=topS 24
abbrev s_law_same:Stmt:=topS 25
abbrev s_law_back:Stmt:=topS 26
abbrev s_law_colours:Stmt:=topS 27
abbrev s_law_steps:Stmt:=topS 28
abbrev s_law_is_whole:Stmt:=topS 29
abbrev s_colours_in:Stmt:=topS 9
abbrev s_is_round:Stmt:=topS 13
abbrev s_is_turn:Stmt:=topS 14
abbrev s_is_dance:Stmt:=topS 15
abbrev s_steps_in:Stmt:=topS 16
abbrev s_danced:Stmt:=topS 17
abbrev s_shows_dance:Stmt:=topS 18
abbrev s_leads_home:Stmt:=(C8.fnBody s_shows_dance).getD 3 (.Pass ⟨0,0,0,0⟩)
abbrev s_law_danced:Stmt:=topS 31
abbrev s_law_count:Stmt:=topS 32
abbrev s_law_alike:Stmt:=topS 33
abbrev s_law_is_turn:Stmt:=topS 30
abbrev s_law_dance_right:Stmt:=topS 34
abbrev s_law_hall:Stmt:=topS 35
abbrev s_law_priced:Stmt:=topS 36
abbrev s_law_home_way:Stmt:=topS 37
abbrev s_law_right:Stmt:=topS 38
abbrev s_law:Stmt:=topS 39
abbrev RR:PySem.W.OpenRow:=PySem.W.OpenLaw.row PySem.Challenge.rw_clingfares_k40_dances_by_draws
def d_law_dip:He.DefD:=⟨("_law_dip",none),"_law_dip","_law_dip",defArgs s_law_dip,defBody s_law_dip,defScope s_law_dip,[],[]⟩
def d_law_folded:He.DefD:=⟨("_law_folded",none),"_law_folded","_law_folded",defArgs s_law_folded,defBody s_law_folded,defScope s_law_folded,[],[]⟩
def d_law_back:He.DefD:=⟨("_law_back",none),"_law_back","_law_back",defArgs s_law_back,defBody s_law_back,defScope s_law_back,[],[]⟩
def d_law_take:He.DefD:=⟨("_law_take",none),"_law_take","_law_take",defArgs s_law_take,defBody s_law_take,defScope s_law_take,[],[]⟩
def d_law_strewn:He.DefD:=⟨("_law_strewn",none),"_law_strewn","_law_strewn",defArgs s_law_strewn,defBody s_law_strewn,defScope s_law_strewn,[],[]⟩
def d_law_colours:He.DefD:=⟨("_law_colours",none),"_law_colours","_law_colours",defArgs s_law_colours,defBody s_law_colours,defScope s_law_colours,[],[]⟩
def d_law_alike:He.DefD:=⟨("_law_alike",none),"_law_alike","_law_alike",defArgs s_law_alike,defBody s_law_alike,defScope s_law_alike,[],[]⟩
def d_law_count:He.DefD:=⟨("_law_count",none),"_law_count","_law_count",defArgs s_law_count,defBody s_law_count,defScope s_law_count,[],[]⟩
def d_law_danced:He.DefD:=⟨("_law_danced",none),"_law_danced","_law_danced",defArgs s_law_danced,defBody s_law_danced,defScope s_law_danced,[],[]⟩
def d_law_is_whole:He.DefD:=⟨("_law_is_whole",none),"_law_is_whole","_law_is_whole",defArgs s_law_is_whole,defBody s_law_is_whole,defScope s_law_is_whole,[],[]⟩
def d_law_is_turn:He.DefD:=⟨("_law_is_turn",none),"_law_is_turn","_law_is_turn",defArgs s_law_is_turn,defBody s_law_is_turn,defScope s_law_is_turn,[],[]⟩
def d_law_dance_right:He.DefD:=⟨("_law_dance_right",none),"_law_dance_right","_law_dance_right",defArgs s_law_dance_right,defBody s_law_dance_right,defScope s_law_dance_right,[],[]⟩
def d_law_one_of:He.DefD:=⟨("_law_one_of",none),"_law_one_of","_law_one_of",defArgs s_law_one_of,defBody s_law_one_of,defScope s_law_one_of,[],[]⟩
def d_law_hall:He.DefD:=⟨("_law_hall",none),"_law_hall","_law_hall",defArgs s_law_hall,defBody s_law_hall,defScope s_law_hall,[],[]⟩
def d_law_steps:He.DefD:=⟨("_law_steps",none),"_law_steps","_law_steps",defArgs s_law_steps,defBody s_law_steps,defScope s_law_steps,[],[]⟩
def d_law_home_way:He.DefD:=⟨("_law_home_way",none),"_law_home_way","_law_home_way",defArgs s_law_home_way,defBody s_law_home_way,defScope s_law_home_way,[],[]⟩
def d_law_priced:He.DefD:=⟨("_law_priced",none),"_law_priced","_law_priced",defArgs s_law_priced,defBody s_law_priced,defScope s_law_priced,[],[]⟩
def d_law_same:He.DefD:=⟨("_law_same",none),"_law_same","_law_same",defArgs s_law_same,defBody s_law_same,defScope s_law_same,[],[]⟩
def d_colour_of:He.DefD:=⟨("colour_of",none),"colour_of","colour_of",defArgs s_colour_of,defBody s_colour_of,defScope s_colour_of,[],[]⟩
def d_colours_in:He.DefD:=⟨("colours_in",none),"colours_in","colours_in",defArgs s_colours_in,defBody s_colours_in,defScope s_colours_in,[],[]⟩
def d_is_number:He.DefD:=⟨("is_number",none),"is_number","is_number",defArgs s_is_number,defBody s_is_number,defScope s_is_number,[],[]⟩
def d_is_purse:He.DefD:=⟨("is_purse",none),"is_purse","is_purse",defArgs s_is_purse,defBody s_is_purse,defScope s_is_purse,[],[]⟩
def d_is_round:He.DefD:=⟨("is_round",none),"is_round","is_round",defArgs s_is_round,defBody s_is_round,defScope s_is_round,[],[]⟩
def d_is_turn:He.DefD:=⟨("is_turn",none),"is_turn","is_turn",defArgs s_is_turn,defBody s_is_turn,defScope s_is_turn,[],[]⟩
def d_is_dance:He.DefD:=⟨("is_dance",none),"is_dance","is_dance",defArgs s_is_dance,defBody s_is_dance,defScope s_is_dance,[],[]⟩
def d_count_of:He.DefD:=⟨("count_of",none),"count_of","count_of",defArgs s_count_of,defBody s_count_of,defScope s_count_of,[],[]⟩
def d_danced:He.DefD:=⟨("danced",none),"danced","danced",defArgs s_danced,defBody s_danced,defScope s_danced,[],[]⟩
def d_is_multiple:He.DefD:=⟨("is_multiple",none),"is_multiple","is_multiple",defArgs s_is_multiple,defBody s_is_multiple,defScope s_is_multiple,[],[]⟩
def d_steps_in:He.DefD:=⟨("steps_in",none),"steps_in","steps_in",defArgs s_steps_in,defBody s_steps_in,defScope s_steps_in,[],[]⟩
def d_shows_dance:He.DefD:=⟨("shows_dance",none),"shows_dance","shows_dance",defArgs s_shows_dance,defBody s_shows_dance,defScope s_shows_dance,[],[]⟩
def d_law_right:He.DefD:=⟨("_law_right",none),"_law_right","_law_right",defArgs s_law_right,defBody s_law_right,defScope s_law_right,[],[]⟩
def d_law:He.DefD:=⟨("law",none),"law","law",defArgs s_law,defBody s_law,defScope s_law,[],[]⟩
def fn:List He.DefD :=[d_law_dip,d_law_folded,d_law_back,d_law_take,d_law_strewn,d_law_colours,d_law_alike,d_law_count,d_law_danced,d_law_is_whole,d_law_is_turn,d_law_dance_right,d_law_one_of,d_law_hall,d_law_steps,d_law_home_way,d_law_priced,d_law_same,d_colour_of,d_colours_in,d_is_number,d_is_purse,d_is_round,d_is_turn,d_is_dance,d_count_of,d_danced,d_is_multiple,d_steps_in,d_shows_dance,d_law_right,d_law]
def fa:List He.Fa :=[.glo "_law_dip",.glo "_law_folded",.glo "_law_back",.glo "_law_take",.glo "_law_strewn",.glo "_law_colours",.glo "_law_alike",.glo "_law_count",.glo "_law_danced",.glo "_law_is_whole",.glo "_law_is_turn",.glo "_law_dance_right",.glo "_law_one_of",.glo "_law_hall",.glo "_law_steps",.glo "_law_home_way",.glo "_law_priced",.glo "_law_same",.glo "colour_of",.glo "colours_in",.glo "is_number",.glo "is_purse",.glo "is_round",.glo "is_turn",.glo "is_dance",.glo "count_of",.glo "danced",.glo "is_multiple",.glo "steps_in",.glo "shows_dance",.glo "_law_right",.glo "law",.free "abs",.free "all",.free "bool",.free "dict",.free "enumerate",.free "int",.free "isinstance",.free "len",.free "list",.free "max",.free "range",.free "repr",.free "set",.free "sorted",.free "str",.free "sum",.free "tuple",.free "zip",.int "DANCE_PARTS" 4,.int "TURN_PARTS" 3]
def tf:List He.Defn :=[("shows_dance",none)]
abbrev hk:PySem.W.Hook:=Cf.hookC 4 fa fn tf (fun _=>true)
def ob(s:PySem.W.SharedT):He.AlD×Bool:=Cf.obsC 4 fa fn tf (fun _=>true) (HandSHeadRun.getT s)
theorem ob_eq(s:PySem.W.SharedT):ob s=hk.obs s.abs:=Cf.obsC_eq (HandSHeadRun.getT_eq s)
abbrev loose:List PySem.Str :=[("colour_of" : PySem.Str),("is_number" : PySem.Str),("is_purse" : PySem.Str),("count_of" : PySem.Str),("is_multiple" : PySem.Str),("colours_in" : PySem.Str),("DANCE_PARTS" : PySem.Str),("TURN_PARTS" : PySem.Str),("is_round" : PySem.Str),("is_turn" : PySem.Str),("is_dance" : PySem.Str),("steps_in" : PySem.Str),("danced" : PySem.Str),("shows_dance" : PySem.Str),("_law_dip" : PySem.Str),("_law_take" : PySem.Str),("_law_folded" : PySem.Str),("_law_one_of" : PySem.Str),("_law_strewn" : PySem.Str),("_law_same" : PySem.Str),("_law_back" : PySem.Str),("_law_colours" : PySem.Str),("_law_steps" : PySem.Str),("_law_is_whole" : PySem.Str),("_law_is_turn" : PySem.Str),("_law_danced" : PySem.Str),("_law_count" : PySem.Str),("_law_alike" : PySem.Str),("_law_dance_right" : PySem.Str),("_law_hall" : PySem.Str),("_law_priced" : PySem.Str),("_law_home_way" : PySem.Str),("_law_right" : PySem.Str)]
open HandSHeadRun PySem PySem.W PySem.Calls PyProof.Rows in
theorem headE1(w:World)(os:OsState):(endF (stepQ (denQ tabQ) RR.prog w) 4000 RR.prog w os).map (fun s=>(looksF RR.prog (boot_heap w.params) s.abs,seenQ (view RR.prog [39]) loose (importedModules RR.prog.main.body) (fun s=>xlAt (view RR.prog [39]) [] s&&recOk RR.toRowW.records s) s.abs))=some ((true,openGood (view RR.prog [39]) loose)):=by
 kernel_rfl
open HandSHeadRun PySem PySem.W PySem.Calls PyProof.Rows in
theorem headE2(w:World)(os:OsState):(endF (stepQ (denQ tabQ) RR.prog w) 4000 RR.prog w os).map (fun s=>(fa.all (fun f=>f.ok (He.frT (getT s) (He.asD (getT s) 4 ++ [cStatics]))),(fun K=>(fun _=>true) K&&He.tabsB (getT s) tf K) (He.frT (getT s) (He.asD (getT s) 4 ++ [cStatics]))))=some ((true,true)):=by
 kernel_rfl
open HandSHeadRun PySem PySem.W PySem.Calls PyProof.Rows in
theorem headE3(w:World)(os:OsState):(endF (stepQ (denQ tabQ) RR.prog w) 4000 RR.prog w os).map (fun s=>(fn.all (fun d=>d.ok (He.frT (getT s) (He.asD (getT s) 4 ++ [cStatics]))),fn.map fun d=>He.fnW (He.frT (getT s) (He.asD (getT s) 4 ++ [cStatics])) d.at_))=some ((true,fn.map He.DefD.val)):=by
 kernel_rfl
theorem headC{α β γ ζ:Type}{o:Option α}{f1:α->β}{f2:α->γ}{g1 g4:α->Bool}{g2:α->Bool}{g3:α->ζ}{b:β}{c:γ}{z:ζ}(h1:o.map (fun s=>(f1 s,f2 s))=some (b,c))(h2:o.map (fun s=>(g1 s,g4 s))=some (true,true))(h3:o.map (fun s=>(g2 s,g3 s))=some (true,z)) :
  o.map (fun s=>(f1 s,f2 s,((g1 s&&g2 s,g3 s),g4 s)))=some (b,c,((true,z),true)):=by
 cases o with
 | none=>cases h1
 | some s =>
  injection h1 with h1;injection h1 with a1 a2
  injection h2 with h2;injection h2 with a3 a4
  injection h3 with h3;injection h3 with a5 a6
  show some (f1 s,f2 s,((g1 s&&g2 s,g3 s),g4 s))=_
  rw [a1,a2,a3,a4,a5,a6]
  rfl
theorem headRun(w:World):HandSHeadRun.RunEq RR (PySem.W.view RR.prog [39]) hk ob 4000 loose w:=fun os=>headC (headE1 w os) (headE2 w os) (headE3 w os)
open PySem PySem.W PySem.Calls PyProof.Rows in
theorem fin0(call:WalkO (view RR.prog [39]) loose (XL (view RR.prog [39]) []) hk.says RR.toRowW (HandSHeadRun.topDef RR.prog 39) [] fun f vs=>PySem.call f vs):PySem.Challenge.rw_clingfares_k40_dances_by_draws.Holds:=by
 w_on;o_law
 refine HandSHeadRun.head_any (r:=OpenLaw.row PySem.Challenge.rw_clingfares_k40_dances_by_draws) (q:=view (OpenLaw.row PySem.Challenge.rw_clingfares_k40_dances_by_draws).prog [39]) (H:=Law.hk) (ob:=Law.ob) (M:=4000) (loose:=Law.loose) (d:=HandSHeadRun.topDef (OpenLaw.row PySem.Challenge.rw_clingfares_k40_dances_by_draws).prog 39) (kwd :=[]) Law.ob_eq
  (by kernel_rfl) (fun s=>by kernel_rfl) Law.headRun (by kernel_rfl) (by kernel_rfl) (by kernel_rfl) (by rfl) (by first | assumption | decide +kernel) (by decide +kernel) ⟨rfl,rfl,rfl,rfl,rfl,by decide +kernel⟩ ?hw call
 case hw=>w_witness2
end Law
namespace Cf
open PySem PySem.Spec PyProof.Rows L2
section
abbrev St:=L2.St
def Ex(H H':Hp):Prop :=∀a o,H a=some o->H' a=some o
theorem Ex.refl(H:Hp):Ex H H:=fun _ _ h=>h
theorem Ex.trans{H H1 H2:Hp}(a:Ex H H1)(b:Ex H1 H2):Ex H H2:=fun x o h=>b x o (a x o h)
theorem Ex.new{H:Hp}{p:Addr}{o:HO}(h:H p=none):Ex H (upd H p o):=fun a u e=>by
 rw [upd_ne (ne_of_none e h)]
 exact e
theorem Ex.none{H H':Hp}{p:Addr}(e:Ex H H')(h:H' p=none):H p=none:=by
 cases h1:H p with
 | none=>rfl
 | some o =>
  rw [e p o h1]at h
  cases h
theorem some_ne{H:Hp}{a:Addr}{o:HO}(h:H a=some o):H a≠none:=fun z=>by
 rw [z]at h
 cases h
def keyD:Key->PyData
 | .inl i => .int i
 | .inr x => .str x
section
variable {H H':Hp} {a:Addr}
theorem rd_ex{u:HO}(h:Rd H a u)(e:Ex H H'):Rd H' a u:=h.imp (fun z=>e _ _ z) fun⟨o,z⟩=>⟨o,e _ _ z⟩
end
abbrev rowPD(ns:List Int):PyData := .dict [(.none,.list (ns.map PyData.int))]
def isRow:List (PyData×PyData)->Bool
 | [(.none,_)]=>true
 | _=>false
theorem ints_inj:∀{a b:List Int},a.map PyData.int=b.map PyData.int->a=b
 | [],[],_=>rfl
 | [],_::_,h=>by cases h
 | _::_,[],h=>by cases h
 | x::a,y::b,h=>by
  rw [List.map_cons,List.map_cons]at h
  injection h with h1 h2
  injection h1 with h1
  rw [h1,ints_inj h2]
def intsE:List PyData->Option (List Int)
 | []=>some []
 | .int n::ds=>(intsE ds).map (n :: ·)
 | _::_=>none
theorem intsE_of:∀{ds:List PyData} {ns:List Int},intsE ds=some ns->ds=ns.map .int
 | [],_,h=>by cases h;rfl
 | d::ds,ns,h=>by
  unfold intsE at h
  split at h
  ·rename_i e
   cases e
  ·rename_i n ds' e
   cases e
   cases hi:intsE ds with
   | none=>rw [hi]at h;cases h
   | some ms =>
    rw [hi]at h
    cases h
    rw [List.map_cons,intsE_of hi]
  ·cases h
theorem intsE_map:∀ns:List Int,intsE (ns.map .int)=some ns
 | []=>rfl
 | n::ns=>by
  show (intsE (ns.map .int)).map (n :: ·)=_
  rw [intsE_map ns]
  rfl
def intsK(ds:List PyData)(k:List Int->Prop):Prop:=match intsE ds with
 | some ns=>k ns
 | none=>False
theorem intsK_map(ns:List Int)(k:List Int->Prop):intsK (ns.map .int) k=k ns:=by
 unfold intsK
 rw [intsE_map]
theorem intsK_of{ds:List PyData}{k:List Int->Prop}(h:intsK ds k):∃ns,ds=ns.map .int/\k ns:=by
 unfold intsK at h
 cases e:intsE ds with
 | none=>rw [e]at h;exact h.elim
 | some ns =>
  rw [e]at h
  exact⟨ns,intsE_of e,h⟩
def rowE(ks:List (PyData×PyData))(k:List Int->Prop):Prop:=match ks with
 | [(.none,.list ds)]=>intsK ds k
 | _=>False
theorem rowE_row(ns:List Int)(k:List Int->Prop):rowE [(.none,.list (ns.map .int))] k=k ns:=intsK_map ns k
theorem rowE_of{ks:List (PyData×PyData)}{k:List Int->Prop}(h:rowE ks k):∃ns:List Int,ks = [(.none,.list (ns.map .int))]/\k ns:=by
 unfold rowE at h
 split at h
 ·obtain⟨ns,e,h2⟩:=intsK_of h
  exact⟨ns,by rw [e],h2⟩
 ·exact h.elim
mutual
inductive Rp(H:Hp):V->PyData->Prop
 | non:Rp H .non .none
 | bl (b:Bool):Rp H (.bl b) (.bool b)
 | int (i:Int):Rp H (.int i) (.int i)
 | str (x:Str):Rp H (.str x) (.str x)
 | lst {a:Addr} {xs:List V} {ds:List PyData}:H a=some (.lst xs)->Rps H xs ds->Rp H (.ref a) (.list ds)
 | tup {a:Addr} {xs:List V} {ds:List PyData}:H a=some (.tup xs)->Rps H xs ds->Rp H (.ref a) (.tuple ds)
 | dk {a:Addr} {kvs:List (Key×V)} {ds:List (PyData×PyData)}:Rd H a (.dK kvs)->Rpk H kvs ds->Rp H (.ref a) (.dict ds)
 | row {a:Addr} {o:Obj} {ns:List Int}:H a=some (.frz o (.tup (ns.map V.int)))->o.dict=none->Rp H (.ref a) (rowPD ns)
inductive Rps(H:Hp):List V->List PyData->Prop
 | nil:Rps H [] []
 | cons {v:V} {vs:List V} {d:PyData} {ds:List PyData}:Rp H v d->Rps H vs ds->Rps H (v::vs) (d::ds)
inductive Rpk(H:Hp):List (Key×V)->List (PyData×PyData)->Prop
 | nil:Rpk H [] []
 | cons {k:Key} {v:V} {kvs:List (Key×V)} {d:PyData} {ds:List (PyData×PyData)}:Rp H v d->Rpk H kvs ds->Rpk H ((k,v)::kvs) ((keyD k,d)::ds)
end
theorem Rps.ofInts{F:Hp}:∀ns:List Int,Rps F (ns.map V.int) (ns.map PyData.int)
 | [] => .nil
 | n::ns => .cons (.int n) (Rps.ofInts ns)
theorem rpk_noRow{H:Hp}:∀{kvs:List (Key×V)} {ds:List (PyData×PyData)},Rpk H kvs ds->isRow ds=false
 | _,_,.nil=>rfl
 | _,_,.cons (k:=k) _ h=>by
  cases k with
  | inl i=>rfl
  | inr x=>rfl
theorem Rp.asRow{H:Hp}{x:V}{ks:List (PyData×PyData)}{k:List Int->Prop}(h:rowE ks k)(r:Rp H x (.dict ks)):∃(ns:List Int) (a:Addr) (o:Obj),ks = [(.none,.list (ns.map .int))]/\x = .ref a/\H a=some (.frz o (.tup (ns.map V.int)))/\o.dict=none/\k ns:=by
 cases r with
 | dk g1 g2 =>
  obtain⟨ns,e,hk⟩:=rowE_of h
  have:=rpk_noRow g2
  rw [e]at this
  cases this
 | row g1 g2 =>
  rw [rowE_row]at h
  exact⟨_,_,_,rfl,rfl,g1,g2,h⟩
mutual
theorem Rp.mono{H H':Hp}(e:Ex H H'):∀(d:PyData) {v:V},Rp H v d->Rp H' v d
 | .none,_,h=>by cases h;exact .non
 | .bool b,_,h=>by cases h;exact .bl b
 | .int i,_,h=>by cases h;exact .int i
 | .str x,_,h=>by cases h;exact .str x
 | .list ds,_,h=>by
  cases h with
  | lst h1 h2=>exact .lst (e _ _ h1) (Rps.mono e ds h2)
 | .tuple ds,_,h=>by
  cases h with
  | tup h1 h2=>exact .tup (e _ _ h1) (Rps.mono e ds h2)
 | .dict ds,_,h=>by
  cases h with
  | dk h1 h2=>exact .dk (rd_ex h1 e) (Rpk.mono e ds h2)
  | row h1 h2=>exact .row (e _ _ h1) h2
theorem Rps.mono{H H':Hp}(e:Ex H H'):∀(ds:List PyData) {vs:List V},Rps H vs ds->Rps H' vs ds
 | [],_,h=>by cases h;exact .nil
 | d::ds,_,h=>by
  cases h with
  | cons h1 h2=>exact .cons (Rp.mono e d h1) (Rps.mono e ds h2)
theorem Rpk.mono{H H':Hp}(e:Ex H H'):∀(ds:List (PyData×PyData)) {vs:List (Key×V)},Rpk H vs ds->Rpk H' vs ds
 | [],_,h=>by cases h;exact .nil
 | (_,d)::ds,_,h=>by
  cases h with
  | cons h1 h2=>exact .cons (Rp.mono e d h1) (Rpk.mono e ds h2)
end
theorem Rp.up{H H':Hp}{v:V}{d:PyData}(r:Rp H v d)(e:Ex H H'):Rp H' v d:=Rp.mono e d r
theorem Rps.up{H H':Hp}{v:List V}{d:List PyData}(r:Rps H v d)(e:Ex H H'):Rps H' v d:=Rps.mono e d r
theorem Rps.len{H:Hp}:∀{xs:List V} {ds:List PyData},Rps H xs ds->xs.length=ds.length
 | _,[],h=>by cases h;rfl
 | _,_::ds,h=>by
  cases h with
  | cons _ h2=>rw [List.length_cons,List.length_cons,Rps.len h2]
theorem Rps.get{H:Hp}:∀{xs:List V} {ds:List PyData} {i:Nat} {d:PyData},Rps H xs ds->ds[i]? =some d ->∃v,xs[i]? =some v/\Rp H v d
 | _,[],i,d,h,e=>by simp at e
 | _,d0::ds,0,d,h,e=>by
  cases h with
  | cons h1 h2 =>
   cases e
   exact⟨_,rfl,h1⟩
 | _,d0::ds,i+1,d,h,e=>by
  cases h with
  | cons h1 h2=>exact Rps.get (i:=i) h2 e
theorem Rps.getV{H:Hp}:∀{xs:List V} {ds:List PyData} {i:Nat} {v:V},Rps H xs ds->xs[i]? =some v ->∃d,ds[i]? =some d/\Rp H v d
 | _,[],i,d,h,e=>by cases h;simp at e
 | _,d0::ds,0,d,h,e=>by
  cases h with
  | cons h1 h2 =>
   cases e
   exact⟨_,rfl,h1⟩
 | _,d0::ds,i+1,d,h,e=>by
  cases h with
  | cons h1 h2=>exact Rps.getV (i:=i) h2 e
theorem Rps.app{H:Hp}:∀{xs:List V} {ds:List PyData} {ys:List V} {es:List PyData},Rps H xs ds->Rps H ys es->Rps H (xs++ys) (ds++es)
 | _,[],_,_,h,k=>by cases h;exact k
 | _,d::ds,_,_,h,k=>by
  cases h with
  | cons h1 h2=>exact .cons h1 (Rps.app h2 k)
theorem Rps.one{H:Hp}{v:V}{d:PyData}(h:Rp H v d):Rps H [v] [d] := .cons h .nil
theorem Rps.drop{H:Hp}:∀(n:Nat) {xs:List V} {ds:List PyData},Rps H xs ds->Rps H (xs.drop n) (ds.drop n)
 | 0,_,_,h=>h
 | n+1,_,[],h=>by cases h;exact .nil
 | n+1,_,_::ds,h=>by
  cases h with
  | cons h1 h2=>exact Rps.drop n h2
theorem Rps.take{H:Hp}:∀(n:Nat) {xs:List V} {ds:List PyData},Rps H xs ds->Rps H (xs.take n) (ds.take n)
 | 0,_,_,h => .nil
 | n+1,_,[],h=>by cases h;exact .nil
 | n+1,_,_::ds,h=>by
  cases h with
  | cons h1 h2=>exact .cons h1 (Rps.take n h2)
theorem Rps.set{H:Hp}{v:V}{d:PyData}(r:Rp H v d):∀(n:Nat) {xs:List V} {ds:List PyData},Rps H xs ds->Rps H (xs.set n v) (ds.set n d)
 | _,_,[],h=>by cases h;exact .nil
 | 0,_,_::ds,h=>by
  cases h with
  | cons h1 h2=>exact .cons r h2
 | n+1,_,_::ds,h=>by
  cases h with
  | cons h1 h2=>exact .cons h1 (Rps.set r n h2)
theorem Rps.rep{H:Hp}{xs:List V}{ds:List PyData}(h:Rps H xs ds):∀k:Nat,Rps H (List.replicate k xs).flatten (List.replicate k ds).flatten
 | 0 => .nil
 | k+1=>by
  rw [List.replicate_succ,List.replicate_succ,List.flatten_cons,List.flatten_cons]
  exact h.app (h.rep k)
theorem Rps.cut{H:Hp}{xs:List V}{ds:List PyData}(lo hi:Option Int)(h:Rps H xs ds) :
  Rps H (cutV xs lo hi) ((ds.drop (HT.sIx ds.length 0 lo)).take (HT.sIx ds.length ds.length hi-HT.sIx ds.length 0 lo)):=by
 unfold cutV
 rw [h.len]
 exact(h.drop _).take _
theorem Rps.ints{H:Hp}:∀{ns:List Int} {xs:List V},Rps H xs (ns.map PyData.int)->xs=ns.map V.int
 | [],_,h=>by cases h;rfl
 | n::ns,_,h=>by
  cases h with
  | cons h1 h2 =>
   cases h1
   rw [List.map_cons,Rps.ints h2]
theorem Rps.bools{H:Hp}:∀{ns:List Bool} {xs:List V},Rps H xs (ns.map PyData.bool)->xs=ns.map V.bl
 | [],_,h=>by cases h;rfl
 | n::ns,_,h=>by
  cases h with
  | cons h1 h2 =>
   cases h1
   rw [List.map_cons,Rps.bools h2]
theorem Rps.strs{H:Hp}:∀{ns:List Str} {xs:List V},Rps H xs (ns.map PyData.str)->xs=ns.map V.str
 | [],_,h=>by cases h;rfl
 | n::ns,_,h=>by
  cases h with
  | cons h1 h2 =>
   cases h1
   rw [List.map_cons,Rps.strs h2]
mutual
def noDict:PyData->Bool
 | .list ds=>noDicts ds
 | .tuple ds=>noDicts ds
 | .dict _=>false
 | _=>true
def noDicts:List PyData->Bool
 | []=>true
 | d::ds=>noDict d&&noDicts ds
end
mutual
theorem Rp.dp{K:PySem.W.Frag}{H:Hp}:∀(d:PyData) {v:V},Rp H v d->noDict d=true->Dp K H v d
 | .none,_,h,_=>by cases h;exact .non
 | .bool b,_,h,_=>by cases h;exact .bl b
 | .int i,_,h,_=>by cases h;exact .int i
 | .str x,_,h,_=>by cases h;exact .str x
 | .list ds,_,h,n=>by
  cases h with
  | lst h1 h2=>exact .lst (SqL.of h1) (Rps.dps ds h2 (by simpa only [noDict]using n))
 | .tuple ds,_,h,n=>by
  cases h with
  | tup h1 h2=>exact .tup (SqT.of h1) (Rps.dps ds h2 (by simpa only [noDict]using n))
 | .dict ds,_,h,n=>by simp only [noDict]at n;cases n
theorem Rps.dps{K:PySem.W.Frag}{H:Hp}:∀(ds:List PyData) {vs:List V},Rps H vs ds->noDicts ds=true->DpAll K H vs ds
 | [],_,h,_=>by cases h;exact .nil
 | d::ds,_,h,n=>by
  cases h with
  | cons h1 h2 =>
   have n':noDict d=true/\noDicts ds=true:=by simpa only [noDicts,Bool.and_eq_true]using n
   exact .cons (Rp.dp d h1 n'.1) (Rps.dps ds h2 n'.2)
end
mutual
def noList:PyData->Bool
 | .list _=>false
 | .tuple ds=>noLists ds
 | .dict _=>false
 | _=>true
def noLists:List PyData->Bool
 | []=>true
 | d::ds=>noList d&&noLists ds
end
def TupSame(H H':Hp):Prop:=(∀a xs,H a=some (.tup xs)->H' a=some (.tup xs)) /\∀a φ,H a=some (.ext φ)->H' a=some (.ext φ)
mutual
theorem Rp.tups{H H':Hp}(e:TupSame H H'):∀(d:PyData) {v:V},Rp H v d->noList d=true->Rp H' v d
 | .none,_,h,_=>by cases h;exact .non
 | .bool b,_,h,_=>by cases h;exact .bl b
 | .int i,_,h,_=>by cases h;exact .int i
 | .str x,_,h,_=>by cases h;exact .str x
 | .list ds,_,h,n=>by simp only [noList]at n;cases n
 | .tuple ds,_,h,n=>by
  cases h with
  | tup h1 h2=>exact .tup (e.1 _ _ h1) (Rps.tups e ds h2 (by simpa only [noList]using n))
 | .dict ds,_,h,n=>by simp only [noList]at n;cases n
theorem Rps.tups{H H':Hp}(e:TupSame H H'):∀(ds:List PyData) {vs:List V},Rps H vs ds->noLists ds=true->Rps H' vs ds
 | [],_,h,_=>by cases h;exact .nil
 | d::ds,_,h,n=>by
  cases h with
  | cons h1 h2 =>
   have n':noList d=true/\noLists ds=true:=by simpa only [noLists,Bool.and_eq_true]using n
   exact .cons (Rp.tups e d h1 n'.1) (Rps.tups e ds h2 n'.2)
end
inductive Prt where
 | dat (d:PyData)
 | lst (ds:List PyData)
def Prt.data:Prt->PyData
 | .dat d=>d
 | .lst ds => .list ds
inductive MI where
 | lst (ds:List PyData)
 | dK (kvs:List (Key×PyData))
def MI.data:MI->PyData
 | .lst ds => .list ds
 | .dK kvs => .dict (kvs.map fun p=>(keyD p.1,p.2))
inductive OO where
 | lst (ds:List PyData)
 | dK (kvs:List (Key×PyData))
 | dT (kvs:List (List Key×PyData))
 | nn (kvs:List (Key×MI))
inductive Fl where
 | dat (d:PyData)
 | own (o:OO)
 | raw (v:V)
inductive MO where
 | tup (ps:List Prt)
 | lst (ds:List PyData)
 | dK (kvs:List (Key×PyData))
 | dT (kvs:List (List Key×PyData))
 | nn (kvs:List (Key×MI))
 /-- an instance of the class at C: nm the fields' names,by numbers -/
 | ins (C:Addr) (nm:List Str) (fs:List (Nat×Fl))
def OO.mo:OO->MO
 | .lst ds => .lst ds
 | .dK kvs => .dK kvs
 | .dT kvs => .dT kvs
 | .nn ms => .nn ms
def RpKs(H:Hp):List (Key×V)->List (Key×PyData)->Prop:=Paired fun(p:Key×V) (q:Key×PyData)=>p.1=q.1/\Rp H p.2 q.2
def RpTs(H:Hp):List (List Key×V)->List (List Key×PyData)->Prop:=Paired fun(p:List Key×V) (q:List Key×PyData)=>p.1=q.1/\Rp H p.2 q.2
theorem RpKs.mono{H H':Hp}(e:Ex H H'){xs:List (Key×V)}{ds:List (Key×PyData)}(h:RpKs H xs ds):RpKs H' xs ds:=Paired.mapP h fun _ _ z=>⟨z.1,z.2.mono e⟩
theorem RpTs.mono{H H':Hp}(e:Ex H H'){xs:List (List Key×V)}{ds:List (List Key×PyData)}(h:RpTs H xs ds):RpTs H' xs ds:=Paired.mapP h fun _ _ z=>⟨z.1,z.2.mono e⟩
theorem RpKs.rpk{H:Hp}:∀{xs:List (Key×V)} {ds:List (Key×PyData)},RpKs H xs ds->Rpk H xs (ds.map fun p=>(keyD p.1,p.2))
 | _,_,.nil => .nil
 | (k,v)::_,(k2,d)::_,.cons h t=>by
  obtain⟨e,r⟩:=h
  cases (show k=k2 from e)
  exact .cons r (RpKs.rpk t)
inductive PtAt(F H:Hp):List V->List Prt->List Addr->Prop
 | nil:PtAt F H [] [] []
 | dat {v:V} {d:PyData} {xs:List V} {ps:List Prt} {fp:List Addr}:Rp F v d->PtAt F H xs ps fp->PtAt F H (v::xs) (.dat d::ps) fp
 | lst {b:Addr} {ys:List V} {ds:List PyData} {xs:List V} {ps:List Prt} {fp:List Addr}:H b=some (.lst ys)->Rps F ys ds->b∉fp->PtAt F H xs ps fp->PtAt F H (.ref b::xs) (.lst ds::ps) (b::fp)
theorem PtAt.mono{F F' H H':Hp}(e:Ex F F'):∀{xs:List V} {ps:List Prt} {fp:List Addr},PtAt F H xs ps fp->(∀b∈fp,∀u,H b=some u->H' b=some u)->PtAt F' H' xs ps fp
 | _,_,_,.nil,_ => .nil
 | _,_,_,.dat r t,k => .dat (r.mono e) (t.mono e k)
 | _,_,_,.lst h r n t,k => .lst (k _ (.head _) _ h) (r.mono e) n (t.mono e fun b hb=>k b (.tail _ hb))
theorem PtAt.there{F H:Hp}:∀{xs:List V} {ps:List Prt} {fp:List Addr},PtAt F H xs ps fp ->∀b∈fp,H b≠none
 | _,_,_,.nil,_,hb=>by simp at hb
 | _,_,_,.dat r t,b,hb=>t.there b hb
 | _,_,_,.lst h r n t,b,hb=>by
  rcases List.mem_cons.mp hb with rfl | hb
  ·exact some_ne h
  ·exact t.there b hb
theorem PtAt.rps{F H F':Hp}(e:Ex F F'):∀{xs:List V} {ps:List Prt} {fp:List Addr},PtAt F H xs ps fp->(∀b∈fp,F' b=H b)->Rps F' xs (ps.map Prt.data)
 | _,_,_,.nil,_ => .nil
 | _,_,_,.dat r t,k => .cons (r.mono e) (t.rps e k)
 | _,_,_,.lst h r n t,k => .cons (.lst (by rw [k _ (.head _)];exact h) (r.mono e)) (t.rps e fun b hb=>k b (.tail _ hb))
def MiAt(F H:Hp)(b:Addr)(m:MI):Prop:=match m with
 | .lst ds =>∃xs,H b=some (.lst xs)/\Rps F xs ds
 | .dK ds =>∃xs,H b=some (.dK xs)/\RpKs F xs ds
theorem MiAt.mono{F F' H H':Hp}{b:Addr}{m:MI}(e:Ex F F')(k:∀u,H b=some u->H' b=some u)(h:MiAt F H b m):MiAt F' H' b m:=by
 cases m with
 | lst ds=>obtain⟨xs,h1,h2⟩:=h;exact⟨xs,k _ h1,h2.mono e⟩
 | dK ds=>obtain⟨xs,h1,h2⟩:=h;exact⟨xs,k _ h1,h2.mono e⟩
theorem MiAt.there{F H:Hp}{b:Addr}{m:MI}(h:MiAt F H b m):H b≠none:=by
 cases m with
 | lst ds=>obtain⟨xs,h1,h2⟩:=h;exact some_ne h1
 | dK ds=>obtain⟨xs,h1,h2⟩:=h;exact some_ne h1
theorem MiAt.rp{F H F':Hp}{b:Addr}{m:MI}(e:Ex F F')(k:F' b=H b)(h:MiAt F H b m):Rp F' (.ref b) m.data:=by
 cases m with
 | lst ds=>obtain⟨xs,h1,h2⟩:=h;exact .lst (by rw [k];exact h1) (h2.mono e)
 | dK ds=>obtain⟨xs,h1,h2⟩:=h;exact .dk (.inl (by rw [k];exact h1)) (RpKs.rpk (h2.mono e))
inductive NnAt(F H:Hp):List (Key×V)->List (Key×MI)->List Addr->Prop
 | nil:NnAt F H [] [] []
 | cons {k:Key} {b:Addr} {m:MI} {xs:List (Key×V)} {ms:List (Key×MI)} {fp:List Addr}:MiAt F H b m->b∉fp->NnAt F H xs ms fp->NnAt F H ((k,.ref b)::xs) ((k,m)::ms) (b::fp)
theorem NnAt.mono{F F' H H':Hp}(e:Ex F F'):∀{xs:List (Key×V)} {ms:List (Key×MI)} {fp:List Addr},NnAt F H xs ms fp->(∀b∈fp,∀u,H b=some u->H' b=some u)->NnAt F' H' xs ms fp
 | _,_,_,.nil,_ => .nil
 | _,_,_,.cons h n t,k => .cons (h.mono e (k _ (.head _))) n (t.mono e fun b hb=>k b (.tail _ hb))
theorem NnAt.there{F H:Hp}:∀{xs:List (Key×V)} {ms:List (Key×MI)} {fp:List Addr},NnAt F H xs ms fp ->∀b∈fp,H b≠none
 | _,_,_,.nil,_,hb=>by simp at hb
 | _,_,_,.cons h n t,b,hb=>by
  rcases List.mem_cons.mp hb with rfl | hb
  ·exact h.there
  ·exact t.there b hb
theorem NnAt.rpk{F H F':Hp}(e:Ex F F'):∀{xs:List (Key×V)} {ms:List (Key×MI)} {fp:List Addr},NnAt F H xs ms fp->(∀b∈fp,F' b=H b)->Rpk F' xs (ms.map fun p=>(keyD p.1,p.2.data))
 | _,_,_,.nil,_ => .nil
 | _,_,_,.cons h n t,k => .cons (h.rp e (k _ (.head _))) (t.rpk e fun b hb=>k b (.tail _ hb))
def OoAt(F H:Hp)(a:Addr)(o:OO)(fp:List Addr):Prop:=match o with
 | .lst ds=>fp = [a] /\∃xs,H a=some (.lst xs)/\Rps F xs ds
 | .dK ds=>fp = [a] /\∃xs,H a=some (.dK xs)/\RpKs F xs ds
 | .dT ds=>fp = [a] /\∃xs,H a=some (.dT xs)/\RpTs F xs ds
 | .nn ms =>∃fq xs,fp=a::fq/\a∉fq/\H a=some (.dK xs)/\NnAt F H xs ms fq
theorem OoAt.mono{F F' H H':Hp}{a:Addr}{o:OO}{fp:List Addr}(e:Ex F F')(k:∀b∈fp,∀u,H b=some u->H' b=some u)(h:OoAt F H a o fp):OoAt F' H' a o fp:=by
 cases o with
 | lst ds=>obtain⟨rfl,xs,h1,h2⟩:=h;exact⟨rfl,xs,k a (by simp) _ h1,h2.mono e⟩
 | dK ds=>obtain⟨rfl,xs,h1,h2⟩:=h;exact⟨rfl,xs,k a (by simp) _ h1,h2.mono e⟩
 | dT ds=>obtain⟨rfl,xs,h1,h2⟩:=h;exact⟨rfl,xs,k a (by simp) _ h1,h2.mono e⟩
 | nn ms=>obtain⟨fq,xs,rfl,n,h1,h2⟩:=h;exact⟨fq,xs,rfl,n,k a (.head _) _ h1,h2.mono e fun b hb=>k b (.tail _ hb)⟩
theorem OoAt.there{F H:Hp}{a:Addr}{o:OO}{fp:List Addr}(h:OoAt F H a o fp):∀b∈fp,H b≠none:=by
 cases o with
 | lst ds=>obtain⟨rfl,xs,h1,h2⟩:=h;intro b hb;simp at hb;subst hb;exact some_ne h1
 | dK ds=>obtain⟨rfl,xs,h1,h2⟩:=h;intro b hb;simp at hb;subst hb;exact some_ne h1
 | dT ds=>obtain⟨rfl,xs,h1,h2⟩:=h;intro b hb;simp at hb;subst hb;exact some_ne h1
 | nn ms =>
  obtain⟨fq,xs,rfl,n,h1,h2⟩:=h
  intro b hb
  rcases List.mem_cons.mp hb with rfl | hb
  ·exact some_ne h1
  ·exact h2.there b hb
inductive FlAt(F H:Hp):V->Fl->List Addr->Prop
 | dat {v:V} {d:PyData}:Rp F v d->FlAt F H v (.dat d) []
 | own {a:Addr} {o:OO} {fp:List Addr}:OoAt F H a o fp->FlAt F H (.ref a) (.own o) fp
 | raw {v:V}:FlAt F H v (.raw v) []
theorem FlAt.mono{F F' H H':Hp}{v:V}{f:Fl}{fp:List Addr}(e:Ex F F')(k:∀b∈fp,∀u,H b=some u->H' b=some u)(h:FlAt F H v f fp):FlAt F' H' v f fp:=by
 cases h with
 | dat r=>exact .dat (r.mono e)
 | own m=>exact .own (m.mono e k)
 | raw=>exact .raw
theorem FlAt.there{F H:Hp}{v:V}{f:Fl}{fp:List Addr}(h:FlAt F H v f fp):∀b∈fp,H b≠none:=by
 cases h with
 | dat r=>intro b hb;simp at hb
 | own m=>exact m.there
 | raw=>intro b hb;simp at hb
inductive FsAt(F H:Hp)(nm:List Str):List (Str×V)->List (Nat×Fl)->List Addr->Prop
 | nil:FsAt F H nm [] [] []
 | cons {k:Nat} {x:Str} {v:V} {f:Fl} {fp fq:List Addr} {xs:List (Str×V)} {fs:List (Nat×Fl)}:nm[k]? =some x->FlAt F H v f fp->FsAt F H nm xs fs fq->(∀a∈fp,a∉fq)->FsAt F H nm ((x,v)::xs) ((k,f)::fs) (fp++fq)
theorem FsAt.mono{F F' H H':Hp}{nm:List Str}(e:Ex F F'):∀{xs:List (Str×V)} {fs:List (Nat×Fl)} {fp:List Addr},FsAt F H nm xs fs fp->(∀b∈fp,∀u,H b=some u->H' b=some u)->FsAt F' H' nm xs fs fp
 | _,_,_,.nil,_ => .nil
 | _,_,_,.cons h0 h1 h2 h3,k => .cons h0 (h1.mono e fun b hb=>k b (List.mem_append_left _ hb)) (h2.mono e fun b hb=>k b (List.mem_append_right _ hb)) h3
theorem FsAt.there{F H:Hp}{nm:List Str}:∀{xs:List (Str×V)} {fs:List (Nat×Fl)} {fp:List Addr},FsAt F H nm xs fs fp ->∀b∈fp,H b≠none
 | _,_,_,.nil,b,hb=>by simp at hb
 | _,_,_,.cons h0 h1 h2 h3,b,hb=>(List.mem_append.mp hb).elim (h1.there b) (h2.there b)
def MoAt(F H:Hp)(a:Addr)(o:MO)(fp:List Addr):Prop:=match o with
 | .tup ps =>∃fq xs,fp=a::fq/\a∉fq/\H a=some (.tup xs)/\PtAt F H xs ps fq
 | .lst ds=>fp = [a] /\∃xs,H a=some (.lst xs)/\Rps F xs ds
 | .dK ds=>fp = [a] /\∃xs,H a=some (.dK xs)/\RpKs F xs ds
 | .dT ds=>fp = [a] /\∃xs,H a=some (.dT xs)/\RpTs F xs ds
 | .nn ms =>∃fq xs,fp=a::fq/\a∉fq/\H a=some (.dK xs)/\NnAt F H xs ms fq
 | .ins C nm fs =>∃fq dx xs,fp=a::fq/\a∉fq/\H a=some (.ins C dx xs)/\FsAt F H nm xs fs fq
theorem MoAt.mono{F F' H H':Hp}{a:Addr}{o:MO}{fp:List Addr}(e:Ex F F')(k:∀b∈fp,∀u,H b=some u->H' b=some u)(h:MoAt F H a o fp):MoAt F' H' a o fp:=by
 cases o with
 | tup ps=>obtain⟨fq,xs,rfl,n,h1,h2⟩:=h;exact⟨fq,xs,rfl,n,k a (.head _) _ h1,h2.mono e fun b hb=>k b (.tail _ hb)⟩
 | lst ds=>obtain⟨rfl,xs,h1,h2⟩:=h;exact⟨rfl,xs,k a (by simp) _ h1,h2.mono e⟩
 | dK ds=>obtain⟨rfl,xs,h1,h2⟩:=h;exact⟨rfl,xs,k a (by simp) _ h1,h2.mono e⟩
 | dT ds=>obtain⟨rfl,xs,h1,h2⟩:=h;exact⟨rfl,xs,k a (by simp) _ h1,h2.mono e⟩
 | nn ms=>obtain⟨fq,xs,rfl,n,h1,h2⟩:=h;exact⟨fq,xs,rfl,n,k a (.head _) _ h1,h2.mono e fun b hb=>k b (.tail _ hb)⟩
 | ins C nm fs=>obtain⟨fq,dx,xs,rfl,n,h1,h2⟩:=h;exact⟨fq,dx,xs,rfl,n,k a (.head _) _ h1,h2.mono e fun b hb=>k b (.tail _ hb)⟩
theorem MoAt.there{F H:Hp}{a:Addr}{o:MO}{fp:List Addr}(h:MoAt F H a o fp):∀b∈fp,H b≠none:=by
 cases o with
 | tup ps =>
  obtain⟨fq,xs,rfl,n,h1,h2⟩:=h
  intro b hb
  rcases List.mem_cons.mp hb with rfl | hb
  ·exact some_ne h1
  ·exact h2.there b hb
 | lst ds=>obtain⟨rfl,xs,h1,h2⟩:=h;intro b hb;simp at hb;subst hb;exact some_ne h1
 | dK ds=>obtain⟨rfl,xs,h1,h2⟩:=h;intro b hb;simp at hb;subst hb;exact some_ne h1
 | dT ds=>obtain⟨rfl,xs,h1,h2⟩:=h;intro b hb;simp at hb;subst hb;exact some_ne h1
 | nn ms =>
  obtain⟨fq,xs,rfl,n,h1,h2⟩:=h
  intro b hb
  rcases List.mem_cons.mp hb with rfl | hb
  ·exact some_ne h1
  ·exact h2.there b hb
 | ins C nm fs =>
  obtain⟨fq,dx,xs,rfl,n,h1,h2⟩:=h
  intro b hb
  rcases List.mem_cons.mp hb with rfl | hb
  ·exact some_ne h1
  ·exact h2.there b hb
def MO.data:MO->Option PyData
 | .tup ps=>some (.tuple (ps.map Prt.data))
 | .lst ds=>some (.list ds)
 | .dK kvs=>some (.dict (kvs.map fun p=>(keyD p.1,p.2)))
 | .dT _=>none
 | .nn ms=>some (.dict (ms.map fun p=>(keyD p.1,p.2.data)))
 | .ins _ _ _=>none
def TabAt(F H:Hp)(P:Addr)(nm:Nat->Nat->Str):Prop :=∃ps:Array Value,H P=some (.tbl ps)/\TriplesOk ps.toList /\∀(pos:Pos) (cv:Value),codeAmong pos ps.toList=some cv ->∃c,cv = .ref c/\F c=some (LamX.CodeO c (nm pos.line pos.col))
theorem TabAt.mono{F F' H H':Hp}{P:Addr}{nm:Nat->Nat->Str}(e:Ex F F')(k:∀u,H P=some u->H' P=some u)(h:TabAt F H P nm):TabAt F' H' P nm:=by
 obtain⟨ps,h1,h2,h3⟩:=h
 refine⟨ps,k _ h1,h2,fun pos cv hc => ?_⟩
 obtain⟨c,e1,e2⟩:=h3 pos cv hc
 exact⟨c,e1,e _ _ e2⟩
theorem TabAt.there{F H:Hp}{P:Addr}{nm:Nat->Nat->Str}(h:TabAt F H P nm):∀b ∈ [P],H b≠none:=by
 obtain⟨ps,h1,_⟩:=h
 intro b hb
 rw [List.mem_singleton.mp hb,h1]
 exact fun z=>by cases z
theorem TabAt.same{F F' H:Hp}{P:Addr}{nm:Nat->Nat->Str}(e:∀a φ,F a=some (.ext φ)->F' a=some (.ext φ))(h:TabAt F H P nm):TabAt F' H P nm:=by
 obtain⟨ps,h1,h2,h3⟩:=h
 refine⟨ps,h1,h2,fun pos cv hc => ?_⟩
 obtain⟨c,e1,e2⟩:=h3 pos cv hc
 exact⟨c,e1,e _ _ e2⟩
inductive Sl where
 | non
 | dat (d:PyData)
 | own (o:MO)
 /-- the script: read alone -/
 | scr (K:PySem.W.Frag) (ns:List Int)
 /-- a set of tuples of keys: read alone -/
 | ks (mk:Addr->List (Addr×List Key)->HO) (S:List (List Key))
 /-- no value's slot: the table of the def's code object at P is lent to the frame -/
 | tab (P:Addr) (nm:Nat->Nat->Str)
 /-- a def made by this frame: its words,by its code object -/
 | fn (mk:Addr->NdefX.NF)
inductive SlAt(F H:Hp):Option V->Sl->List Addr->Prop
 | non {x:Option V}:SlAt F H x .non []
 | dat {v:V} {d:PyData}:Rp F v d->SlAt F H (some v) (.dat d) []
 | own {a:Addr} {o:MO} {fp:List Addr}:MoAt F H a o fp->SlAt F H (some (.ref a)) (.own o) fp
 | scr {a:Addr} {K:PySem.W.Frag} {ns:List Int}:SqL K F a (ns.map V.int)->SlAt F H (some (.ref a)) (.scr K ns) []
 | ks {a:Addr} {mk:Addr->List (Addr×List Key)->HO} {S:List (List Key)} (L:List (Addr×List Key)):F a=some (mk a L)->(∀p∈L,F p.1=some (.tup (p.2.map kV)))->(∀k,k∈L.map (·.2)↔k∈S)->SlAt F H (some (.ref a)) (.ks mk S) []
 | tab {x:Option V} {P:Addr} {nm:Nat->Nat->Str}:TabAt F H P nm->SlAt F H x (.tab P nm) [P]
 | fn {f c:Addr} {mk:Addr->NdefX.NF}:F f=some (NdefX.FnO f (mk c))->F (mk c).c=some (LamX.CodeO (mk c).c (mk c).qual)->SlAt F H (some (.ref f)) (.fn mk) []
theorem ex_rd{H H':Hp}{a:Addr}{u:HO}(e:Ex H H')(h:Rd H a u):Rd H' a u:=by
 rcases h with h | ⟨o,h⟩
 ·exact .inl (e a _ h)
 ·exact .inr ⟨o,e a _ h⟩
theorem ex_l{K:PySem.W.Frag}{H H':Hp}{a:Addr}{xs:List V}(e:Ex H H')(h:SqL K H a xs):SqL K H' a xs:=h.imp (ex_rd e) id
theorem SlAt.mono{F F' H H':Hp}{x:Option V}{s:Sl}{fp:List Addr}(e:Ex F F')(k:∀b∈fp,∀u,H b=some u->H' b=some u)(h:SlAt F H x s fp):SlAt F' H' x s fp:=by
 cases h with
 | non=>exact .non
 | dat r=>exact .dat (r.mono e)
 | own m=>exact .own (m.mono e k)
 | scr h=>exact .scr (ex_l e h)
 | ks L h1 h2 h3=>exact .ks L (e _ _ h1) (fun p hp=>e _ _ (h2 p hp)) h3
 | tab h=>exact .tab (h.mono e (k _ (by simp)))
 | fn h1 h2=>exact .fn (e _ _ h1) (e _ _ h2)
theorem SlAt.there{F H:Hp}{x:Option V}{s:Sl}{fp:List Addr}(h:SlAt F H x s fp):∀b∈fp,H b≠none:=by
 cases h with
 | non=>intro b hb;simp at hb
 | dat r=>intro b hb;simp at hb
 | own m=>exact m.there
 | scr h=>intro b hb;simp at hb
 | ks L h1 h2 h3=>intro b hb;simp at hb
 | tab h=>exact h.there
 | fn h1 h2=>intro b hb;simp at hb
inductive EnvAt(F H:Hp):St->List Sl->List Addr->Prop
 | nil:EnvAt F H [] [] []
 | cons {x:Option V} {s:Sl} {fp fq:List Addr} {σ:St} {env:List Sl}:SlAt F H x s fp->EnvAt F H σ env fq->(∀a∈fp,a∉fq)->EnvAt F H (x::σ) (s::env) (fp++fq)
theorem EnvAt.mono{F F' H H':Hp}(e:Ex F F'):∀{σ:St} {env:List Sl} {fp:List Addr},EnvAt F H σ env fp->(∀b∈fp,∀u,H b=some u->H' b=some u)->EnvAt F' H' σ env fp
 | _,_,_,.nil,_ => .nil
 | _,_,_,.cons h1 h2 h3,k => .cons (h1.mono e fun b hb=>k b (List.mem_append_left _ hb)) (h2.mono e fun b hb=>k b (List.mem_append_right _ hb)) h3
theorem EnvAt.there{F H:Hp}:∀{σ:St} {env:List Sl} {fp:List Addr},EnvAt F H σ env fp ->∀b∈fp,H b≠none
 | _,_,_,.nil,b,hb=>by simp at hb
 | _,_,_,.cons h1 h2 h3,b,hb=>(List.mem_append.mp hb).elim (h1.there b) (h2.there b)
theorem EnvAt.len{F H:Hp}:∀{σ:St} {env:List Sl} {fp:List Addr},EnvAt F H σ env fp->σ.length=env.length
 | _,_,_,.nil=>rfl
 | _,_,_,.cons h1 h2 h3=>by rw [List.length_cons,List.length_cons,h2.len]
theorem EnvAt.at{F H:Hp}:∀{σ:St} {env:List Sl} {fp:List Addr} {i:Nat} {s:Sl},EnvAt F H σ env fp->env[i]? =some s ->
  ∃(x:Option V) (fi fr:List Addr),σ[i]? =some x/\SlAt F H x s fi/\(∀a,a∈fp↔a∈fi∨a∈fr)/\(∀a∈fi,a∉fr) /\
   ∀(F' H':Hp) (x':Option V) (s':Sl) (fi':List Addr),Ex F F'->(∀b∈fr,∀u,H b=some u->H' b=some u)->SlAt F' H' x' s' fi'->(∀a∈fi',a∉fr) ->
    ∃fp':List Addr,EnvAt F' H' (σ.set i x') (env.set i s') fp' /\∀a,a∈fp'↔a∈fi'∨a∈fr
 | _,_,_,i,s,.nil,e=>by simp at e
 | x::σ,s0::env,_,0,s,.cons (fp:=fp) (fq:=fq) h1 h2 h3,e=>by
  cases e
  refine⟨x,fp,fq,rfl,h1,fun a=>List.mem_append,h3,fun F' H' x' s' fi' ex k hs hd => ?_⟩
  exact⟨fi'++fq,.cons hs (h2.mono ex k) hd,fun a=>List.mem_append⟩
 | x::σ,s0::env,_,i+1,s,.cons (fp:=fp) (fq:=fq) h1 h2 h3,e=>by
  obtain⟨y,fi,fr,e1,hs,hm,hd,put⟩:=h2.at (i:=i) (s:=s) e
  refine⟨y,fi,fp++fr,e1,hs,fun a => ?_,fun a ha => ?_,fun F' H' x' s' fi' ex k hs' hd' => ?_⟩
  ·rw [List.mem_append,List.mem_append,hm a]
   constructor
   ·rintro(z | z | z)
    ·exact .inr (.inl z)
    ·exact .inl z
    ·exact .inr (.inr z)
   ·rintro(z | z | z)
    ·exact .inr (.inl z)
    ·exact .inl z
    ·exact .inr (.inr z)
  ·rw [List.mem_append]
   rintro(z | z)
   ·exact h3 a z ((hm a).mpr (.inl ha))
   ·exact hd a ha z
  ·obtain⟨fq',he,hm'⟩:=put F' H' x' s' fi' ex (fun b hb=>k b (List.mem_append_right _ hb)) hs' fun a ha hb=>hd' a ha (List.mem_append_right _ hb)
   refine⟨fp++fq',.cons (h1.mono ex fun b hb=>k b (List.mem_append_left _ hb)) he fun a ha hb => ?_,fun a => ?_⟩
   ·rcases(hm' a).mp hb with z | z
    ·exact hd' a z (List.mem_append_left _ ha)
    ·exact h3 a ha ((hm a).mpr (.inr z))
   ·rw [List.mem_append,List.mem_append,hm' a]
    constructor
    ·rintro(z | z | z)
     ·exact .inr (.inl z)
     ·exact .inl z
     ·exact .inr (.inr z)
    ·rintro(z | z | z)
     ·exact .inr (.inl z)
     ·exact .inl z
     ·exact .inr (.inr z)
structure Ok(F H:Hp)(σ:St)(env:List Sl)(fp:List Addr):Prop where
 ex:Ex F H
 env:EnvAt F H σ env fp
 fr:∀a∈fp,F a=none
structure Tr(F H:Hp)(fp:List Addr)(F' H':Hp)(fp':List Addr):Prop where
 ex:Ex F F'
 kp:∀a o,H a=some o->a∉fp->H' a=some o
 nw:∀a,F' a≠none->F a≠none∨H a=none∨a∈fp
 nf:∀a∈fp',a∈fp∨H a=none
section
variable {F F' F1 F2 H H' H1 H2:Hp} {fp fp' fp1 fp2:List Addr} {σ:St} {env:List Sl}
theorem Tr.refl:Tr F H fp F H fp:=⟨Ex.refl F,fun _ _ h _=>h,fun _ h => .inl h,fun _ h => .inl h⟩
theorem Tr.trans(a:Tr F H fp F1 H1 fp1)(b:Tr F1 H1 fp1 F2 H2 fp2):Tr F H fp F2 H2 fp2:=by
 have back:∀x,H1 x=none->x∈fp∨H x=none:=fun x h1=>by
  cases e:H x with
  | none=>exact .inr rfl
  | some o =>
   by_cases hm:x∈fp
   ·exact .inl hm
   ·rw [a.kp x o e hm]at h1
    cases h1
 refine⟨a.ex.trans b.ex,fun x o h n=>b.kp x o (a.kp x o h n) fun m => ?_,fun x h => ?_,fun x h => ?_⟩
 ·rcases a.nf x m with z | z
  ·exact n z
  ·rw [z]at h;cases h
 ·rcases b.nw x h with z | z | z
  ·exact a.nw x z
  ·rcases back x z with y | y
   ·exact .inr (.inr y)
   ·exact .inr (.inl y)
  ·rcases a.nf x z with y | y
   ·exact .inr (.inr y)
   ·exact .inr (.inl y)
 ·rcases b.nf x h with z | z
  ·exact a.nf x z
  ·exact back x z
theorem Tr.back(t:Tr F H fp F1 H1 fp1){x:Addr}(h1:H1 x=none):x∈fp∨H x=none:=by
 cases e:H x with
 | none=>exact .inr rfl
 | some o =>
  by_cases hm:x∈fp
  ·exact .inl hm
  ·rw [t.kp x o e hm]at h1
   cases h1
theorem Tr.keeps(t:Tr F H fp F' H' fp'){fq:List Addr}(hd:∀a∈fq,a∉fp)(ht:∀a∈fq,H a≠none)(hf:∀a∈fq,F a=none) :
  (∀a∈fq,∀u,H a=some u->H' a=some u)/\(∀a∈fq,a∉fp')/\(∀a∈fq,F' a=none):=by
 refine⟨fun a ha u h=>t.kp a u h (hd a ha),fun a ha m => ?_,fun a ha => ?_⟩
 ·rcases t.nf a m with z | z
  ·exact hd a ha z
  ·exact ht a ha z
 ·cases e:F' a with
  | none=>rfl
  | some u =>
   rcases t.nw a (some_ne e)with z | z | z
   ·exact absurd (hf a ha) z
   ·exact absurd z (ht a ha)
   ·exact absurd z (hd a ha)
theorem Ok.pure(ok:Ok F H σ env fp)(t:Tr F H [] F' H' [])(e:Ex F' H'):Ok F' H' σ env fp/\Tr F H fp F' H' fp:=by
 obtain⟨k1,k2,k3⟩:=t.keeps (fq:=fp) (fun _ _=>by simp) ok.env.there ok.fr
 refine⟨⟨e,ok.env.mono t.ex k1,k3⟩,t.ex,fun a o h n=>t.kp a o h (by simp),fun a h => ?_,fun a h => .inl h⟩
 rcases t.nw a h with z | z | z
 ·exact .inl z
 ·exact .inr (.inl z)
 ·simp at z
theorem tr_new{p:Addr}{o:HO}(h:H p=none)(e:Ex F H):Tr F H [] (upd F p o) (upd H p o) []/\Ex (upd F p o) (upd H p o):=by
 have hF:F p=none:=e.none h
 refine⟨⟨Ex.new hF,fun a u q _=>by rw [upd_ne (ne_of_none q h)];exact q,fun a q => ?_,fun a q=>by simp at q⟩,fun a u q => ?_⟩
 ·by_cases hp:a=p
  ·subst hp;exact .inr (.inl h)
  ·rw [upd_ne hp]at q;exact .inl q
 ·by_cases hp:a=p
  ·subst hp;rw [upd_same]at q ⊢;exact q
  ·rw [upd_ne hp]at q ⊢;exact e a u q
theorem tr_newO{p:Addr}{o:HO}(h:H p=none)(e:Ex F H):Tr F H [] F (upd H p o) []/\Ex F (upd H p o) :=
 ⟨⟨Ex.refl F,fun a u q _=>by rw [upd_ne (ne_of_none q h)];exact q,fun a q => .inl q,fun a q=>by simp at q⟩,fun a u q=>by rw [upd_ne (ne_of_none (e a u q) h)];exact e a u q⟩
theorem MoAt.freeze{a:Addr}{o:MO}{fi:List Addr}{d:PyData}(m:MoAt F H a o fi)(hd:o.data=some d)(ex:Ex F H)(hf:∀b∈fi,F b=none) :
  ∃F',Ex F F'/\Ex F' H/\Rp F' (.ref a) d /\∀b,F' b≠none->F b≠none∨b∈fi:=by
 have go:∀u,H a=some u->F a=none->a∈fi->Ex F (upd F a u)/\Ex (upd F a u) H /\∀b,upd F a u b≠none->F b≠none∨b∈fi:=fun u h1 h2 h3=>by
  refine⟨Ex.new h2,fun b w q => ?_,fun b q => ?_⟩
  ·by_cases hp:b=a
   ·subst hp;rw [upd_same]at q;rw [h1];exact q
   ·rw [upd_ne hp]at q;exact ex b w q
  ·by_cases hp:b=a
   ·subst hp;exact .inr h3
   ·rw [upd_ne hp]at q;exact .inl q
 cases o with
 | tup ps =>
  obtain⟨fq,xs,rfl,n,h1,h2⟩:=m
  cases hd
  let F':Hp:=fun b=>if b∈a::fq then H b else F b
  have p1:∀b∈a::fq,F' b=H b:=fun b hb=>if_pos hb
  have p2:∀b,b∉a::fq->F' b=F b:=fun b hb=>if_neg hb
  have e1:Ex F F':=fun b u q=>by
   have:b∉a::fq:=fun z=>by rw [hf b z]at q;cases q
   rw [p2 b this]
   exact q
  refine⟨F',e1,fun b u q => ?_,.tup (by rw [p1 a (.head _)];exact h1) (h2.rps e1 fun b hb=>p1 b (.tail _ hb)),fun b q => ?_⟩
  ·by_cases z:b∈a::fq
   ·rw [p1 b z]at q
    exact q
   ·rw [p2 b z]at q
    exact ex b u q
  ·by_cases z:b∈a::fq
   ·exact .inr z
   ·rw [p2 b z]at q
    exact .inl q
 | lst ds =>
  obtain⟨rfl,xs,h1,h2⟩:=m
  cases hd
  obtain⟨g1,g2,g3⟩:=go _ h1 (hf a (by simp)) (by simp)
  exact⟨_,g1,g2,.lst upd_same (h2.mono g1),g3⟩
 | dK ds =>
  obtain⟨rfl,xs,h1,h2⟩:=m
  cases hd
  obtain⟨g1,g2,g3⟩:=go _ h1 (hf a (by simp)) (by simp)
  refine⟨_,g1,g2,.dk (.inl upd_same) ?_,g3⟩
  exact RpKs.rpk (RpKs.mono g1 h2)
 | dT ds=>cases hd
 | ins C nm fs=>cases hd
 | nn ms =>
  obtain⟨fq,xs,rfl,n,h1,h2⟩:=m
  cases hd
  let F':Hp:=fun b=>if b∈a::fq then H b else F b
  have p1:∀b∈a::fq,F' b=H b:=fun b hb=>if_pos hb
  have p2:∀b,b∉a::fq->F' b=F b:=fun b hb=>if_neg hb
  have e1:Ex F F':=fun b u q=>by
   have:b∉a::fq:=fun z=>by rw [hf b z]at q;cases q
   rw [p2 b this]
   exact q
  refine⟨F',e1,fun b u q => ?_,.dk (.inl (by rw [p1 a (.head _)];exact h1)) (h2.rpk e1 fun b hb=>p1 b (.tail _ hb)),fun b q => ?_⟩
  ·by_cases z:b∈a::fq
   ·rw [p1 b z]at q
    exact q
   ·rw [p2 b z]at q
    exact ex b u q
  ·by_cases z:b∈a::fq
   ·exact .inr z
   ·rw [p2 b z]at q
    exact .inl q
end
end
section
abbrev AD:=List Sl->(PyData->List Sl->Prop)->Prop
abbrev AO:=List Sl->(MO->List Sl->Prop)->Prop
abbrev AT:=List Sl->(Bool->List Sl->Prop)->Prop
abbrev AL:=List Sl->(List PyData->List Sl->Prop)->Prop
def SimE(te:TE)(t:AD):Prop :=∀{σ:St} {env:List Sl} {F H:Hp} {fp:List Addr} (Q:VK) (P:PyData->List Sl->Prop),Ok F H σ env fp->t env P ->
 (∀v d env' F' H' fp',Tr F H fp F' H' fp'->Ok F' H' σ env' fp'->Rp F' v d->P d env'->Q v H')->te σ H Q
def SimT(te:TT)(t:AT):Prop :=∀{σ:St} {env:List Sl} {F H:Hp} {fp:List Addr} (Q:Bool->Hp->Prop) (P:Bool->List Sl->Prop),Ok F H σ env fp->t env P ->
 (∀b env' F' H' fp',Tr F H fp F' H' fp'->Ok F' H' σ env' fp'->P b env'->Q b H')->te σ H Q
def SimA(te:TA)(t:AL):Prop :=∀{σ:St} {env:List Sl} {F H:Hp} {fp:List Addr} (Q:List V->Hp->Prop) (P:List PyData->List Sl->Prop),Ok F H σ env fp->t env P ->
 (∀vs ds env' F' H' fp',Tr F H fp F' H' fp'->Ok F' H' σ env' fp'->Rps F' vs ds->P ds env'->Q vs H')->te σ H Q
def SimO(te:TE)(t:AO):Prop :=∀{σ:St} {env:List Sl} {F H:Hp} {fp:List Addr} (Q:VK) (P:MO->List Sl->Prop),Ok F H σ env fp->t env P ->
 (∀a o env' F' H' fp' fo,Tr F H fp F' H' fp'->Ok F' H' σ env' fp'->MoAt F' H' a o fo->(∀b∈fo,F' b=none/\b∉fp'/\(b∈fp∨H b=none))->P o env'->Q (.ref a) H')->te σ H Q
structure AE(X:Cx)(e:Expr)(te:TE)(t:AD):Prop where
 pe:PE X e te
 sm:SimE te t
structure AEO(X:Cx)(e:Expr)(te:TE)(t:AO):Prop where
 pe:PE X e te
 sm:SimO te t
structure APT(X:Cx)(e:Expr)(te:TT)(t:AT):Prop where
 pe:PT X e te
 sm:SimT te t
structure APW(X:Cx)(e:Expr)(te:TT)(t:AT):Prop where
 pe:PW X e te
 sm:SimT te t
structure APA(X:Cx)(es:List Expr)(te:TA)(t:AL):Prop where
 pe:PA X es te
 sm:SimA te t
theorem set_same{α:Type}:∀{l:List α} {i:Nat} {x:α},l[i]? =some x->l.set i x=l
 | [],_,_,h=>by simp at h
 | a::l,0,x,h=>by cases h;rfl
 | a::l,i+1,x,h=>by
  show a::l.set i x=a::l
  rw [set_same (l:=l) (i:=i) h]
section
variable {X:Cx} {a b e:Expr} {pos:Pos} {sa sb se:TE} {ta tb t:AD}
def aVar(i:Nat):AD:=fun env P=>match env[i]? with
 | some (.dat d)=>P d env
 | some (.own o)=>match o.data with
  | some d=>P d (env.set i (.dat d))
  | none=>False
 | _=>False
theorem sim_var{i:Nat}:SimE (tVar i) (aVar i):=by
 intro σ env F H fp Q P ok h q
 unfold aVar at h
 cases e:env[i]? with
 | none=>rw [e]at h;exact h.elim
 | some s =>
  rw [e]at h
  obtain⟨x,fi,fr,e1,hs,hm,hd,put⟩:=ok.env.at e
  cases hs with
  | non=>exact h.elim
  | scr _=>exact h.elim
  | ks _ _ _ _=>exact h.elim
  | tab _=>exact h.elim
  | fn _ _=>exact h.elim
  | dat r=>exact⟨_,e1,q _ _ _ _ _ _ Tr.refl ok r h⟩
  | own m =>
   rename_i a o
   simp only at h
   cases e2:o.data with
   | none=>rw [e2]at h;exact h.elim
   | some d =>
    rw [e2]at h
    obtain⟨F',g1,g2,g3,g4⟩:=m.freeze e2 ok.ex fun b hb=>ok.fr b ((hm b).mpr (.inl hb))
    obtain⟨fp',he,hm'⟩:=put F' H (some (.ref a)) (.dat d) [] g1 (fun _ _ _ u=>u) (.dat g3) (fun _ hb=>by simp at hb)
    rw [set_same e1]at he
    have sub:∀b,b∈fp'->b∈fr:=fun b hb=>((hm' b).mp hb).elim (fun z=>by simp at z) id
    refine⟨_,e1,q _ _ _ F' H fp' ⟨g1,fun _ _ z _=>z,fun b z => ?_,fun b hb => .inl ((hm b).mpr (.inr (sub b hb)))⟩ ⟨g2,he,fun b hb => ?_⟩ g3 h⟩
    ·rcases g4 b z with z | z
     ·exact .inl z
     ·exact .inr (.inr ((hm b).mpr (.inl z)))
    ·cases e3:F' b with
     | none=>rfl
     | some u =>
      rcases g4 b (some_ne e3)with z | z
      ·exact absurd (ok.fr b ((hm b).mpr (.inr (sub b hb)))) z
      ·exact absurd (sub b hb) (hd b z)
theorem av(i:Nat){x:Str}{pos:Pos}(hN:X.N[i]? =some x:=by rfl)(hv:Vis X.env.scope x:=by first | exact Or.inl rfl | exact Or.inr (Or.inl rfl) | exact Or.inr (Or.inr rfl))(hd:(x==("__debug__" : Str))=false:=by decide)
  (hcd:(x==("__classdict__" : Str))=false:=by decide):AE X (.Name x pos) (tVar i) (aVar i):=⟨pe_var hN hv hd hcd,sim_var⟩
def aC(d:PyData):AD:=fun env P=>P d env
theorem sim_c{v:V}{d:PyData}(r:∀F,Rp F v d):SimE (tC v) (aC d):=fun Q P ok h q=>q _ _ _ _ _ _ Tr.refl ok (r _) h
theorem ae_int{i j}:AE X (.Constant (.int i) j pos) (tC (.int i)) (aC (.int i)):=⟨pe_int,sim_c fun _ => .int _⟩
theorem ae_bl{b j}:AE X (.Constant (.bool b) j pos) (tC (.bl b)) (aC (.bool b)):=⟨pe_bl,sim_c fun _ => .bl _⟩
theorem ae_str{x j}:AE X (.Constant (.str x) j pos) (tC (.str x)) (aC (.str x)):=⟨pe_str,sim_c fun _ => .str _⟩
theorem ae_globI{x:Str}{y:Int}{t:Tok}(hg:Gl X x)(hm:X.mg x=some (.int y t))(hd:(x==("__debug__" : Str))=false:=by decide):AE X (.Name x pos) (tC (.int y)) (aC (.int y)):=⟨pe_glob hg hm ⟨_,rfl⟩ hd,sim_c fun _ => .int _⟩
def SimR2(r:R2)(f:PyData->PyData->(PyData->Prop)->Prop):Prop :=∀{F H:Hp} {x y:V} {d1 d2:PyData} (P:PyData->Prop) (Q:VK),Ex F H->Rp F x d1->Rp F y d2->f d1 d2 P ->
 (∀v d F' H',Tr F H [] F' H' []->Ex F' H'->Rp F' v d->P d->Q v H')->r x y H Q
def aOp(f:PyData->PyData->(PyData->Prop)->Prop)(ta tb:AD):AD:=fun env P=>ta env fun d1 e1=>tb e1 fun d2 e2=>f d1 d2 fun d=>P d e2
theorem sim_op{r:R2}{f:PyData->PyData->(PyData->Prop)->Prop}(hf:SimR2 r f)(ha:SimE sa ta)(hb:SimE sb tb):SimE (tOp r sa sb) (aOp f ta tb):=fun Q P ok h q =>
 ha _ _ ok h fun v1 d1 e1 F1 H1 fp1 t1 ok1 r1 h1=>hb _ _ ok1 h1 fun v2 d2 e2 F2 H2 fp2 t2 ok2 r2 h2=>hf _ _ ok2.ex (r1.up t2.ex) r2 h2 fun v d F3 H3 t3 x3 r3 h3=>by
  obtain⟨ok3,t3'⟩:=ok2.pure t3 x3
  exact q v d e2 F3 H3 fp2 ((t1.trans t2).trans t3') ok3 r3 h3
theorem ae_op{op:Operator}{r:R2}{f:PyData->PyData->(PyData->Prop)->Prop}(ho:OpR X (binaryOp op) r)(hf:SimR2 r f)(ha:AE X a sa ta)(hb:AE X b sb tb):AE X (.BinOp a op b pos) (tOp r sa sb) (aOp f ta tb) :=
 ⟨pe_op ho ha.pe hb.pe,sim_op hf ha.sm hb.sm⟩
theorem ae_cmp{op:CmpOp}{r:R2}{f:PyData->PyData->(PyData->Prop)->Prop}(ho:OpR X (compareOp op) r)(hf:SimR2 r f)(ha:AE X a sa ta)(hb:AE X b sb tb)(hm:behindInMarks op b=false):AE X (.Compare a [op] [b] pos) (tOp r sa sb) (aOp f ta tb) :=
 ⟨pe_cmpR ho ha.pe hb.pe hm,sim_op hf ha.sm hb.sm⟩
theorem tr0{F H:Hp}:Tr F H [] F H []:=Tr.refl
def sz(n:Nat):Prop:=n<=sizeLine
def fAdd:PyData->PyData->(PyData->Prop)->Prop
 | .int i,.int j,k=>k (.int (i+j))
 | .str a,.str b,k=>sz (a.length+b.length)/\k (.str (a++b))
 | .list a,.list b,k=>sz (a.length+b.length)/\k (.list (a++b))
 | .tuple a,.tuple b,k=>sz (a.length+b.length)/\k (.tuple (a++b))
 | .dict ks,.tuple b,k=>rowE ks fun ns=>sz (ns.length+b.length)/\0<b.length/\k (.tuple (ns.map .int++b))
 | _,_,_=>False
def rAddStr:R2:=fun x y H Q =>∃i j,x = .str i/\y = .str j/\i.length+j.length<=sizeLine/\Q (.str (i++j)) H
def rAddAll(K:PySem.W.Frag):R2:=fun x y H Q=>rI0 (fun i j => .int (i+j)) x y H Q∨rAddStr x y H Q∨rCat x y H Q∨rCatA K x y H Q
theorem op_addAll:OpR X (binaryOp .Add) (rAddAll X.K):=op_add.or ((show OpR X (binaryOp .Add) rAddStr from op_add_str).or (op_cat.or op_catA))
theorem sim_add{K:PySem.W.Frag}:SimR2 (rAddAll K) fAdd:=by
 intro F H x y d1 d2 P Q ex r1 r2 h q
 cases r1 with
 | int i =>
  cases r2 with
  | int j=>exact .inl ⟨i,j,rfl,rfl,q _ _ _ _ tr0 ex (.int _) h⟩
  | _=>exact h.elim
 | str i =>
  cases r2 with
  | str j=>exact .inr (.inl ⟨i,j,rfl,rfl,h.1,q _ _ _ _ tr0 ex (.str _) h.2⟩)
  | _=>exact h.elim
 | lst h1 k1 =>
  cases r2 with
  | lst h2 k2 =>
   refine .inr (.inr (.inl ⟨_,_,_,_,rfl,rfl,ex _ _ h1,ex _ _ h2,by rw [k1.len,k2.len];exact h.1,fun p hp => ?_⟩))
   obtain⟨t,e⟩:=tr_new (o := .lst (_++_)) hp ex
   exact q _ _ _ _ t e (.lst upd_same ((k1.app k2).up t.ex)) h.2
  | _=>exact h.elim
 | tup h1 k1 =>
  cases r2 with
  | tup h2 k2 =>
   rename_i a xs ds b ys es
   have hlen:xs.length+ys.length<=sizeLine:=by rw [k1.len,k2.len];exact h.1
   refine .inr (.inr (.inr ⟨a,b,xs,ys,rfl,rfl,SqT.of (ex _ _ h1),SqT.of (ex _ _ h2),hlen, ?_⟩))
   refine⟨fun e => ?_,fun _ e => ?_,fun _ _ p hp => ?_⟩
   ·subst e
    cases k1
    have h':P (.tuple ([]++_)):=h.2
    exact q _ _ _ _ tr0 ex (.tup h2 k2) h'
   ·subst e
    cases k2
    have h':P (.tuple (_ ++ [])):=h.2
    rw [List.append_nil]at h'
    exact q _ _ _ _ tr0 ex (.tup h1 k1) h'
   ·obtain⟨t,e⟩:=tr_new (o := .tup (xs++ys)) hp ex
    exact q _ _ _ _ t e (.tup upd_same ((k1.app k2).up t.ex)) h.2
  | _=>exact h.elim
 | dk g1 g2 =>
  cases r2 with
  | tup h2 k2 =>
   have h:rowE _ _:=h
   obtain⟨ns,a,o,_,hx,h1,hd,hl,h0,hp⟩:=Rp.asRow h (.dk g1 g2)
   cases hx
   rcases g1 with g1 | ⟨_,g1⟩ <;> rw [h1]at g1 <;> cases g1
  | _=>exact h.elim
 | row h1 hd =>
  cases r2 with
  | tup h2 k2 =>
   rename_i a o ns b ys es
   have h:rowE [(PyData.none,PyData.list (ns.map PyData.int))] (fun ns=>sz (ns.length+es.length)/\0<es.length/\P (.tuple (ns.map .int++es))):=h
   rw [rowE_row]at h
   obtain⟨hl,h0,h⟩:=h
   have hlen:(ns.map V.int).length+ys.length<=sizeLine:=by rw [List.length_map,k2.len];exact hl
   refine .inr (.inr (.inr ⟨a,b,ns.map V.int,ys,rfl,rfl,.inl (.inr ⟨o,ex _ _ h1⟩),SqT.of (ex _ _ h2),hlen, ?_⟩))
   refine⟨fun e => ?_,fun _ e => ?_,fun _ _ p hp => ?_⟩
   ·obtain rfl:=List.map_eq_nil_iff.mp e
    exact q _ _ _ _ tr0 ex (.tup h2 k2) h
   ·subst e
    cases k2
    exact absurd h0 (by decide)
   ·obtain⟨t,e⟩:=tr_new (o := .tup (ns.map V.int++ys)) hp ex
    exact q _ _ _ _ t e (.tup upd_same (((Rps.ofInts ns).app k2).up t.ex)) h
  | _=>exact h.elim
 | _=>cases r2 <;> exact h.elim
def fInt(C:Int->Int->Prop)(g:Int->Int->PyData):PyData->PyData->(PyData->Prop)->Prop
 | .int i,.int j,k=>C i j/\k (g i j)
 | _,_,_=>False
def fInt0(g:Int->Int->PyData):PyData->PyData->(PyData->Prop)->Prop
 | .int i,.int j,k=>k (g i j)
 | _,_,_=>False
theorem sim_int{C:Int->Int->Prop}{g:Int->Int->V}{g':Int->Int->PyData}(hg:∀F i j,Rp F (g i j) (g' i j)):SimR2 (rI C g) (fInt C g'):=by
 intro F H x y d1 d2 P Q ex r1 r2 h q
 cases r1 with
 | int i =>
  cases r2 with
  | int j=>exact⟨i,j,rfl,rfl,h.1,q _ _ _ _ tr0 ex (hg _ _ _) h.2⟩
  | _=>exact h.elim
 | _=>cases r2 <;> exact h.elim
theorem sim_int0{g:Int->Int->V}{g':Int->Int->PyData}(hg:∀F i j,Rp F (g i j) (g' i j)):SimR2 (rI0 g) (fInt0 g'):=by
 intro F H x y d1 d2 P Q ex r1 r2 h q
 cases r1 with
 | int i =>
  cases r2 with
  | int j=>exact⟨i,j,rfl,rfl,q _ _ _ _ tr0 ex (hg _ _ _) h⟩
  | _=>exact h.elim
 | _=>cases r2 <;> exact h.elim
theorem ae_add(ha:AE X a sa ta)(hb:AE X b sb tb):AE X (.BinOp a .Add b pos) (tOp (rAddAll X.K) sa sb) (aOp fAdd ta tb):=ae_op op_addAll sim_add ha hb
abbrev fSub:=fInt0 fun i j => .int (i-j)
theorem ae_sub(ha:AE X a sa ta)(hb:AE X b sb tb):AE X (.BinOp a .Sub b pos) (tOp (rI0 fun i j => .int (i-j)) sa sb) (aOp fSub ta tb):=ae_op op_sub (sim_int0 fun _ _ _ => .int _) ha hb
def CMulQ(i j:Int):Prop:=i.natAbs.log2+j.natAbs.log2<134000000
theorem CMulQ.ok{i j:Int}(h:CMulQ i j):IntMulOk i j:=by
 have b:∀x:Int,Builtin.Int.intBits x<=x.natAbs.log2+1:=fun x=>by
  unfold Builtin.Int.intBits
  split <;> omega
 have h1:=b i
 have h2:=b j
 have e:bitsLine=134217728:=by decide
 have h3:i.natAbs.log2+j.natAbs.log2<134000000:=h
 unfold IntMulOk Builtin.Int.intTooBig
 rw [e]
 simp only [Bool.and_eq_true,decide_eq_true_eq,not_and]
 intro _ _
 omega
def MulOk(i j:Int):Prop:=CMul i j∨CMulQ i j
def fMul:PyData->PyData->(PyData->Prop)->Prop
 | .int i,.int j,k=>MulOk i j/\k (.int (i*j))
 | .list xs,.int j,k=>(-(2^63)<=j/\j<2^63/\sz (xs.length*j.toNat))/\k (.list (List.replicate j.toNat xs).flatten)
 | _,_,_=>False
def rMulAll:R2:=fun x y H Q=>rI MulOk (fun i j => .int (i*j)) x y H Q∨rRep x y H Q
theorem op_mulA:OpR X (binaryOp .Mult) (rI MulOk fun i j => .int (i*j)):=opI fun _ _ _ _ _ _ _ hc q=>mul_int q (hc.elim CMul.ok CMulQ.ok)
theorem sim_mul:SimR2 rMulAll fMul:=by
 intro F H x y d1 d2 P Q ex r1 r2 h q
 cases r1 with
 | int i =>
  cases r2 with
  | int j=>exact .inl ⟨i,j,rfl,rfl,h.1,q _ _ _ _ tr0 ex (.int _) h.2⟩
  | _=>exact h.elim
 | lst h1 k1 =>
  cases r2 with
  | int j =>
   refine .inr ⟨_,j,_,rfl,rfl,ex _ _ h1,h.1.1,h.1.2.1,by rw [k1.len];exact h.1.2.2,fun p hp => ?_⟩
   obtain⟨t,e⟩:=tr_new (o := .lst (List.replicate j.toNat _).flatten) hp ex
   exact q _ _ _ _ t e (.lst upd_same ((k1.rep _).up t.ex)) h.2
  | _=>exact h.elim
 | _=>cases r2 <;> exact h.elim
def DivOk(_ j:Int):Prop:=j≠0/\j.natAbs.log2<9000
theorem op_fdivA:OpR X (binaryOp .FloorDiv) (rI DivOk fun i j => .int (i.fdiv j)):=opI fun _ _ _ _ _ _ _ hc q=>floordiv_int hc.1 q (.inl (PyProof.noPylong_of_log2 hc.2))
abbrev fDiv:=fInt DivOk fun i j => .int (i.fdiv j)
theorem ae_div(ha:AE X a sa ta)(hb:AE X b sb tb):AE X (.BinOp a .FloorDiv b pos) (tOp (rI DivOk fun i j => .int (i.fdiv j)) sa sb) (aOp fDiv ta tb):=ae_op op_fdivA (sim_int fun _ _ _ => .int _) ha hb
abbrev fMod:=fInt (fun _ j=>j≠0) fun i j => .int (i.fmod j)
theorem ae_mod(ha:AE X a sa ta)(hb:AE X b sb tb):AE X (.BinOp a .Mod b pos) (tOp (rI (fun _ j=>j≠0) fun i j => .int (i.fmod j)) sa sb) (aOp fMod ta tb):=ae_op op_modN (sim_int fun _ _ _ => .int _) ha hb
abbrev fPow:=fInt CPow fun i j => .int (i^j.toNat)
theorem ae_pow(ha:AE X a sa ta)(hb:AE X b sb tb):AE X (.BinOp a .Pow b pos) (tOp (rI CPow fun i j => .int (i^j.toNat)) sa sb) (aOp fPow ta tb):=ae_op op_pow (sim_int fun _ _ _ => .int _) ha hb
abbrev fLt:=fInt0 fun i j => .bool (decide (i<j))
abbrev fGt:=fInt0 fun i j => .bool (decide (j<i))
abbrev fGe:=fInt0 fun i j => .bool (decide (j<=i))
theorem ae_ge(ha:AE X a sa ta)(hb:AE X b sb tb):AE X (.Compare a [.GtE] [b] pos) (tOp (rI0 fun i j => .bl (decide (j<=i))) sa sb) (aOp fGe ta tb):=ae_cmp op_ge (sim_int0 fun _ _ _ => .bl _) ha hb (nomark _)
def EqOk(d e:PyData):Prop:=(SeqAt.shaped d=true/\SeqAt.shaped e=true) ∨∃x y,d = .str x/\e = .str y
theorem noDict_of:∀{d:PyData},SeqAt.shaped d=true->noDict d=true:=fun {d} h=>by
 have h:=SeqAt.canLay_of_shaped h
 have go:(∀d:PyData,d.canLay0=true->noDict d=true):=by
  intro d
  exact PyData.rec (motive_1:=fun d=>d.canLay0=true->noDict d=true) (motive_2:=fun ds=>PyData.canLayAll0 ds=true->noDicts ds=true) (motive_3:=fun _=>True) (motive_4:=fun _=>True)
   (fun _=>by simp only [noDict]) (fun _ _=>by simp only [noDict]) (fun _ _=>by simp only [noDict]) (fun _ _=>by simp only [noDict])
   (fun ds ih h=>by simp only [noDict];exact ih (by simpa only [PyData.canLay0]using h)) (fun ds ih h=>by simp only [noDict];exact ih (by simpa only [PyData.canLay0]using h))
   (fun kvs _ h=>by simp only [PyData.canLay0]at h;cases h) (fun _=>by simp only [noDicts])
   (fun d ds i1 i2 h=>by
    have h':d.canLay0=true/\PyData.canLayAll0 ds=true:=by simpa only [PyData.canLayAll0,Bool.and_eq_true]using h
    simp only [noDicts,i1 h'.1,i2 h'.2,Bool.and_self]) trivial (fun _ _ _ _=>trivial) (fun _ _ _ _=>trivial) d
 exact go d h
def fEq:PyData->PyData->(PyData->Prop)->Prop:=fun d e k=>EqOk d e/\k (.bool (PyData.eqv d e))
def fNe:PyData->PyData->(PyData->Prop)->Prop:=fun d e k=>EqOk d e/\k (.bool (!PyData.eqv d e))
def rEqAll(K:PySem.W.Frag):R2:=fun x y H Q=>rEq x y H Q∨rEqD K x y H Q
def rNeAll(K:PySem.W.Frag):R2:=fun x y H Q=>rNe x y H Q∨rNeD K x y H Q
theorem dec_strE{x y:Str}:decide (V.str x=V.str y)=PyData.eqv (.str x) (.str y):=by
 rw [dec_str]
 simp only [PyData.eqv]
theorem sim_eq{K:PySem.W.Frag}:SimR2 (rEqAll K) fEq:=by
 intro F H x y d1 d2 P Q ex r1 r2 h q
 rcases h.1 with ⟨s1,s2⟩ | ⟨x,y,rfl,rfl⟩
 ·exact .inr ⟨d1,d2,(r1.up ex).dp _ (noDict_of s1),(r2.up ex).dp _ (noDict_of s2),s1,s2,q _ _ _ _ tr0 ex (.bl _) h.2⟩
 ·cases r1
  cases r2
  refine .inl ⟨rfl, ?_⟩
  rw [dec_strE]
  exact q _ _ _ _ tr0 ex (.bl _) h.2
theorem sim_ne{K:PySem.W.Frag}:SimR2 (rNeAll K) fNe:=by
 intro F H x y d1 d2 P Q ex r1 r2 h q
 rcases h.1 with ⟨s1,s2⟩ | ⟨x,y,rfl,rfl⟩
 ·exact .inr ⟨d1,d2,(r1.up ex).dp _ (noDict_of s1),(r2.up ex).dp _ (noDict_of s2),s1,s2,q _ _ _ _ tr0 ex (.bl _) h.2⟩
 ·cases r1
  cases r2
  refine .inl ⟨rfl, ?_⟩
  rw [dec_strE]
  exact q _ _ _ _ tr0 ex (.bl _) h.2
theorem ae_eq(hu:X.A.units+64<cLine)(ha:AE X a sa ta)(hb:AE X b sb tb):AE X (.Compare a [.Eq] [b] pos) (tOp (rEqAll X.K) sa sb) (aOp fEq ta tb):=ae_cmp (op_eq.or (op_eqD hu)) sim_eq ha hb (nomark _)
theorem ae_ne(hu:X.A.units+64<cLine)(ha:AE X a sa ta)(hb:AE X b sb tb):AE X (.Compare a [.NotEq] [b] pos) (tOp (rNeAll X.K) sa sb) (aOp fNe ta tb):=ae_cmp (op_ne.or (op_neD hu)) sim_ne ha hb (nomark _)
def fIn(neg:Bool):PyData->PyData->(PyData->Prop)->Prop
 | .str x,.str z,k=>match x.cps.toList with
  | [c]=>k (.bool (if neg then !decide (c∈z.cps.toList)else decide (c∈z.cps.toList)))
  | _=>False
 | d,.list ds,k=>(SeqAt.shaped d=true/\SeqAt.shaped (.list ds)=true)/\k (.bool (if neg then !(ds.any fun z=>PyData.eqv z d)else ds.any fun z=>PyData.eqv z d))
 | _,_,_=>False
def isNone:PyData->Bool
 | .none=>true
 | _=>false
def aIsN(neg:Bool)(ta:AD):AD:=fun env P=>ta env fun d e=>P (.bool (if neg then !isNone d else isNone d)) e
theorem non_iff{F:Hp}{x:V}{d:PyData}(r:Rp F x d):decide (x = .non)=isNone d:=by
 cases r <;> simp [isNone]
theorem ae_isN{j pos2}(ha:AE X a sa ta):AE X (.Compare a [.Is] [.Constant .none j pos2] pos) (tIsN sa) (aIsN false ta):=⟨pe_cmp (pc_isN ha.pe),fun Q P ok h q=>ha.sm _ _ ok h fun v d env' F' H' fp' t ok' r h'=>by
 rw [non_iff r]
 exact q _ _ _ _ _ _ t ok' (.bl _) h'⟩
def fNeg:PyData->(PyData->Prop)->Prop
 | .int i,k=>k (.int (-i))
 | _,_=>False
def aUn(f:PyData->(PyData->Prop)->Prop)(ta:AD):AD:=fun env P=>ta env fun d e=>f d fun d'=>P d' e
theorem ae_neg(ha:AE X a sa ta):AE X (.UnaryOp .USub a pos) (tUn (rU fun i => .int (-i)) sa) (aUn fNeg ta):=⟨pe_un un_neg ha.pe,fun Q P ok h q=>ha.sm _ _ ok h fun v d env' F' H' fp' t ok' r h'=>by
 cases r with
 | int i=>exact⟨i,rfl,q _ _ _ _ _ _ t ok' (.int _) h'⟩
 | _=>exact h'.elim⟩
variable {c:Expr} {sc:TT} {tc tc2:AT} {rest:List Expr} {sc2:TT}
def aTest(ta:AD):AT:=fun env P=>ta env fun d e=>match d with
 | .bool b=>P b e
 | _=>False
theorem at_val(ha:AE X e se t)(he:∀whole,isTrue e X.env whole=(do let v <- whole;standAt e.pos;holding [v] (truthy v)):=by intro _;rfl):APT X e (tB se) (aTest t):=⟨pt_val ha.pe he,fun Q P ok h q=>ha.sm _ _ ok h fun v d env' F' H' fp' t ok' r h'=>by
 cases r with
 | bl b=>exact⟨b,rfl,q _ _ _ _ _ t ok' h'⟩
 | _=>exact h'.elim⟩
theorem at_cmp{op:CmpOp}{r:R2}{f:PyData->PyData->(PyData->Prop)->Prop}(ho:OpR X (compareOp op) r)(hf:SimR2 r f)(ha:AE X a sa ta)(hb:AE X b sb tb)(hm:behindInMarks op b=false):APT X (.Compare a [op] [b] pos) (tTest (tOp r sa sb)) (aTest (aOp f ta tb)) :=
 ⟨pt_cmpR ho ha.pe hb.pe hm,fun Q P ok h q=>sim_op hf ha.sm hb.sm _ _ ok h fun v d env' F' H' fp' t ok' r h'=>by
 cases r with
 | bl b=>exact⟨b,rfl,q _ _ _ _ _ t ok' h'⟩
 | _=>exact h'.elim⟩
theorem at_eq(hu:X.A.units+64<cLine)(ha:AE X a sa ta)(hb:AE X b sb tb):APT X (.Compare a [.Eq] [b] pos) (tTest (tOp (rEqAll X.K) sa sb)) (aTest (aOp fEq ta tb)):=at_cmp (op_eq.or (op_eqD hu)) sim_eq ha hb (nomark _)
theorem at_ne(hu:X.A.units+64<cLine)(ha:AE X a sa ta)(hb:AE X b sb tb):APT X (.Compare a [.NotEq] [b] pos) (tTest (tOp (rNeAll X.K) sa sb)) (aTest (aOp fNe ta tb)):=at_cmp (op_ne.or (op_neD hu)) sim_ne ha hb (nomark _)
theorem at_lt(ha:AE X a sa ta)(hb:AE X b sb tb):APT X (.Compare a [.Lt] [b] pos) (tTest (tOp (rI0 fun i j => .bl (decide (i<j))) sa sb)) (aTest (aOp fLt ta tb)):=at_cmp op_lt (sim_int0 fun _ _ _ => .bl _) ha hb (nomark _)
theorem at_gt(ha:AE X a sa ta)(hb:AE X b sb tb):APT X (.Compare a [.Gt] [b] pos) (tTest (tOp (rI0 fun i j => .bl (decide (j<i))) sa sb)) (aTest (aOp fGt ta tb)):=at_cmp op_gt (sim_int0 fun _ _ _ => .bl _) ha hb (nomark _)
theorem at_isN{j pos2}(ha:AE X a sa ta):APT X (.Compare a [.Is] [.Constant .none j pos2] pos) (tB (tIsN sa)) (aTest (aIsN false ta)):=⟨pt_cmp (pc_isN ha.pe),fun Q P ok h q=>ha.sm _ _ ok h fun v d env' F' H' fp' t ok' r h'=>⟨isNone d,by rw [non_iff r],q _ _ _ _ _ t ok' h'⟩⟩
def aAnd(t u:AT):AT:=fun env P=>t env fun b e=>(b=true->u e P)/\(b=false->P false e)
def aOr(t u:AT):AT:=fun env P=>t env fun b e=>(b=true->P true e)/\(b=false->u e P)
def aNot(t:AT):AT:=fun env P=>t env fun b e=>P (!b) e
theorem aw_and1(ha:APT X a sc tc):APW X (.BoolOp .And [a] pos) sc tc:=⟨pw_and1 ha.pe,ha.sm⟩
theorem aw_or1(ha:APT X a sc tc):APW X (.BoolOp .Or [a] pos) sc tc:=⟨pw_or1 ha.pe,ha.sm⟩
theorem aw_and(ha:APT X a sc tc)(hb:APW X (.BoolOp .And (b::rest) pos) sc2 tc2):APW X (.BoolOp .And (a::b::rest) pos) (tAnd sc sc2) (aAnd tc tc2):=⟨pw_and ha.pe hb.pe,fun Q P ok h q=>ha.sm _ _ ok h fun b env' F' H' fp' t ok' h'=>by
 cases b with
 | true =>
  show sc2 _ _ _
  exact hb.sm _ _ ok' (h'.1 rfl) fun b2 env2 F2 H2 fp2 t2 ok2 h2=>q _ _ _ _ _ (t.trans t2) ok2 h2
 | false=>exact q _ _ _ _ _ t ok' (h'.2 rfl)⟩
theorem aw_or(ha:APT X a sc tc)(hb:APW X (.BoolOp .Or (b::rest) pos) sc2 tc2):APW X (.BoolOp .Or (a::b::rest) pos) (tOr sc sc2) (aOr tc tc2):=⟨pw_or ha.pe hb.pe,fun Q P ok h q=>ha.sm _ _ ok h fun b env' F' H' fp' t ok' h'=>by
 cases b with
 | false =>
  show sc2 _ _ _
  exact hb.sm _ _ ok' (h'.2 rfl) fun b2 env2 F2 H2 fp2 t2 ok2 h2=>q _ _ _ _ _ (t.trans t2) ok2 h2
 | true=>exact q _ _ _ _ _ t ok' (h'.1 rfl)⟩
theorem APW.pt(h:APW X c sc tc):APT X c sc tc:=⟨h.pe.pt,h.sm⟩
theorem at_not(ha:APT X a sc tc):APT X (.UnaryOp .Not a pos) (tNot sc) (aNot tc):=⟨pt_not ha.pe,fun Q P ok h q=>ha.sm _ _ ok h fun b env' F' H' fp' t ok' h'=>q _ _ _ _ _ t ok' h'⟩
def aAndV(t u:AD):AD:=fun env P=>t env fun d e=>match d with
 | .bool b=>(b=true->u e P)/\(b=false->P (.bool false) e)
 | _=>False
def aOrV(t u:AD):AD:=fun env P=>t env fun d e=>match d with
 | .bool b=>(b=true->P (.bool true) e)/\(b=false->u e P)
 | _=>False
def aNotV(t:AD):AD:=fun env P=>t env fun d e=>match d with
 | .bool b=>P (.bool (!b)) e
 | _=>False
theorem ae_one{op}(h:AE X a sa ta):AE X (.BoolOp op [a] pos) sa ta:=⟨pe_one h.pe,h.sm⟩
theorem ae_and(ha:AE X a sa ta)(hb:AE X (.BoolOp .And (b::rest) pos) sb tb):AE X (.BoolOp .And (a::b::rest) pos) (tAndV sa sb) (aAndV ta tb):=⟨pe_and ha.pe hb.pe,fun Q P ok h q=>ha.sm _ _ ok h fun v d env' F' H' fp' t ok' r h'=>by
 cases r with
 | bl b =>
  refine⟨b,rfl, ?_⟩
  cases b with
  | true =>
   show sb _ _ _
   exact hb.sm _ _ ok' (h'.1 rfl) fun v2 d2 env2 F2 H2 fp2 t2 ok2 r2 h2=>q _ _ _ _ _ _ (t.trans t2) ok2 r2 h2
  | false=>exact q _ _ _ _ _ _ t ok' (.bl _) (h'.2 rfl)
 | _=>exact h'.elim⟩
theorem ae_or(ha:AE X a sa ta)(hb:AE X (.BoolOp .Or (b::rest) pos) sb tb):AE X (.BoolOp .Or (a::b::rest) pos) (tOrV sa sb) (aOrV ta tb):=⟨pe_or ha.pe hb.pe,fun Q P ok h q=>ha.sm _ _ ok h fun v d env' F' H' fp' t ok' r h'=>by
 cases r with
 | bl b =>
  refine⟨b,rfl, ?_⟩
  cases b with
  | false =>
   show sb _ _ _
   exact hb.sm _ _ ok' (h'.2 rfl) fun v2 d2 env2 F2 H2 fp2 t2 ok2 r2 h2=>q _ _ _ _ _ _ (t.trans t2) ok2 r2 h2
  | true=>exact q _ _ _ _ _ _ t ok' (.bl _) (h'.1 rfl)
 | _=>exact h'.elim⟩
theorem ae_not(ha:AE X a sa ta):AE X (.UnaryOp .Not a pos) (tNotV sa) (aNotV ta):=⟨pe_not ha.pe,fun Q P ok h q=>ha.sm _ _ ok h fun v d env' F' H' fp' t ok' r h'=>by
 cases r with
 | bl b=>exact⟨b,rfl,q _ _ _ _ _ _ t ok' (.bl _) h'⟩
 | _=>exact h'.elim⟩
def aIf(tc:AT)(ta tb:AD):AD:=fun env P=>tc env fun b e=>(b=true->ta e P)/\(b=false->tb e P)
theorem ae_if(hc:APT X c sc tc)(ha:AE X a sa ta)(hb:AE X b sb tb):AE X (.IfExp c a b pos) (tIf sc sa sb) (aIf tc ta tb):=⟨pe_ifExp hc.pe ha.pe hb.pe,fun Q P ok h q=>hc.sm _ _ ok h fun b env' F' H' fp' t ok' h'=>by
 cases b with
 | true =>
  show sa _ _ _
  exact ha.sm _ _ ok' (h'.1 rfl) fun v2 d2 env2 F2 H2 fp2 t2 ok2 r2 h2=>q _ _ _ _ _ _ (t.trans t2) ok2 r2 h2
 | false =>
  show sb _ _ _
  exact hb.sm _ _ ok' (h'.2 rfl) fun v2 d2 env2 F2 H2 fp2 t2 ok2 r2 h2=>q _ _ _ _ _ _ (t.trans t2) ok2 r2 h2⟩
variable {es:List Expr} {su:TA} {tu:AL}
def alNil:AL:=fun env P=>P [] env
def alCons(t:AD)(u:AL):AL:=fun env P=>t env fun d e=>u e fun ds e2=>P (d::ds) e2
theorem al_nil:APA X [] tNil alNil:=⟨pa_nil,fun Q P ok h q=>q _ _ _ _ _ _ Tr.refl ok .nil h⟩
theorem al_cons(ha:AE X e se t)(hr:APA X es su tu)(hs:starEach (e::es) X.env=(false,eval e X.env)::starEach es X.env:=by rfl):APA X (e::es) (tCons se su) (alCons t tu):=⟨pa_cons ha.pe hr.pe hs,fun Q P ok h q=>ha.sm _ _ ok h fun v d env' F' H' fp' t ok' r h' =>
 hr.sm _ _ ok' h' fun vs ds e2 F2 H2 fp2 t2 ok2 r2 h2=>q _ _ _ _ _ _ (t.trans t2) ok2 (.cons (r.up t2.ex) r2) h2⟩
def aTup(u:AL):AD:=fun env P=>u env fun ds e=>sz ds.length/\P (.tuple ds) e
theorem ae_tup{x1}(h:APA X es su tu):AE X (.Tuple es x1 pos) (tTup su) (aTup tu):=⟨pe_tup h.pe,fun Q P ok hh q=>h.sm _ _ ok hh fun vs ds env' F' H' fp' t ok' r h'=>⟨by rw [r.len];exact h'.1,fun p hp=>by
 obtain⟨t1,x1⟩:=tr_new (o := .tup vs) hp ok'.ex
 obtain⟨ok2,t2⟩:=ok'.pure t1 x1
 exact q _ _ _ _ _ _ (t.trans t2) ok2 (.tup upd_same (r.up t1.ex)) h'.2⟩⟩
def aLst(u:AL):AO:=fun env P=>u env fun ds e=>sz ds.length/\P (.lst ds) e
theorem Ok.newLst{F H:Hp}{σ:St}{env:List Sl}{fp:List Addr}{p:Addr}{vs:List V}{ds:List PyData}(ok:Ok F H σ env fp)(hp:H p=none)(r:Rps F vs ds) :
  Tr F H fp F (upd H p (.lst vs)) fp/\Ok F (upd H p (.lst vs)) σ env fp/\MoAt F (upd H p (.lst vs)) p (.lst ds) [p] /\∀b ∈ [p],F b=none/\b∉fp/\(b∈fp∨H b=none):=by
 obtain⟨t1,x1⟩:=tr_newO (o := .lst vs) hp ok.ex
 obtain⟨ok2,t2⟩:=ok.pure t1 x1
 refine⟨t2,ok2,⟨rfl,vs,upd_same,r⟩,fun b hb => ?_⟩
 have e:b=p:=by simpa using hb
 subst e
 exact⟨ok.ex.none hp,fun m=>ok.env.there b m hp,.inr hp⟩
theorem ao_lst(h:APA X es su tu):AEO X (.List es pos) (tLst su) (aLst tu):=⟨pe_lst h.pe,fun Q P ok hh q=>h.sm _ _ ok hh fun vs ds env' F' H' fp' t ok' r h'=>⟨by rw [r.len];exact h'.1,fun p hp=>by
 obtain⟨t2,ok2,m,hf⟩:=ok'.newLst hp r
 exact q _ _ _ _ _ _ _ (t.trans t2) ok2 m (fun b hb=>⟨(hf b hb).1,(hf b hb).2.1,by
  have e:b=p:=by simpa using hb
  subst e
  exact t.back hp⟩) h'.2⟩⟩
end
end
section
section
variable {X:Cx} {a b e:Expr} {es:List Expr} {pos:Pos} {sa sb se:TE} {ta tb t:AD} {su:TA} {tu:AL}
def fIx:PyData->PyData->(PyData->Prop)->Prop
 | .list ds,.int i,k =>∃d,atI ds i=some d/\k d
 | .tuple ds,.int i,k =>∃d,atI ds i=some d/\k d
 | .str z,.int i,k=>sz z.length /\∃c,atI z.cps.toList i=some c/\k (.str ⟨#[c]⟩)
 | .dict ks,.int i,k=>rowE ks fun ns =>∃n,atI ns i=some n/\k (.int n)
 | _,_,_=>False
theorem atI_rps{H:Hp}{xs:List V}{ds:List PyData}{i:Int}{d:PyData}(r:Rps H xs ds)(h:atI ds i=some d):∃v,atI xs i=some v/\Rp H v d:=by
 unfold atI at h ⊢
 rw [r.len]
 cases e:ixN ds.length i with
 | none=>rw [e]at h;cases h
 | some j =>
  rw [e]at h
  obtain⟨v,h1,h2⟩:=r.get (i:=j) (show ds[j]? =some d from h)
  exact⟨v,h1,h2⟩
theorem sim_ix{K:PySem.W.Frag}:SimR2 (rIx K) fIx:=by
 intro F H x y d1 d2 P Q ex r1 r2 h q
 cases r1 with
 | lst h1 k1 =>
  cases r2 with
  | int i =>
   obtain⟨d,hd,hp⟩:=h
   obtain⟨v,hv,rv⟩:=atI_rps k1 hd
   exact .inl ⟨_,_,i,v,rfl,rfl,SqL.of (ex _ _ h1),hv,q _ _ _ _ tr0 ex rv hp⟩
  | _=>exact h.elim
 | tup h1 k1 =>
  cases r2 with
  | int i =>
   obtain⟨d,hd,hp⟩:=h
   obtain⟨v,hv,rv⟩:=atI_rps k1 hd
   exact .inr (.inl ⟨_,_,i,v,rfl,rfl,SqT.of (ex _ _ h1),hv,q _ _ _ _ tr0 ex rv hp⟩)
  | _=>exact h.elim
 | str z =>
  cases r2 with
  | int i =>
   obtain⟨hz,c,hd,hp⟩:=h
   exact .inr (.inr ⟨z,i,c,rfl,rfl,hz,hd,q _ _ _ _ tr0 ex (.str _) hp⟩)
  | _=>exact h.elim
 | dk g1 g2 =>
  cases r2 with
  | int i =>
   have h:rowE _ _:=h
   obtain⟨ns,a,o,_,hx,h1,hd,_⟩:=Rp.asRow h (.dk g1 g2)
   cases hx
   rcases g1 with g1 | ⟨_,g1⟩ <;> rw [h1]at g1 <;> cases g1
  | _=>exact h.elim
 | row h1 hd =>
  cases r2 with
  | int i =>
   rename_i a o ns
   have h:rowE [(PyData.none,PyData.list (ns.map PyData.int))] (fun ns =>∃n,atI ns i=some n/\P (.int n)):=h
   rw [rowE_row]at h
   obtain⟨n,hn,hp⟩:=h
   refine .inr (.inl ⟨_,_,i,.int n,rfl,rfl,.inl (.inr ⟨o,ex _ _ h1⟩), ?_,q _ _ _ _ tr0 ex (.int n) hp⟩)
   unfold atI at hn ⊢
   rw [List.length_map]
   cases e:ixN ns.length i with
   | none=>rw [e]at hn;cases hn
   | some j =>
    rw [e]at hn
    have hn:ns[j]? =some n:=hn
    show (ns.map V.int)[j]? =_
    rw [List.getElem?_map,hn]
    rfl
  | _=>exact h.elim
 | _=>cases r2 <;> exact h.elim
theorem ae_ix(ha:AE X a sa ta)(hb:AE X b sb tb)(hs:PlainIx b:=by intro _ _;rfl):AE X (.Subscript a b pos) (tOp (rIx X.K) sa sb) (aOp fIx ta tb):=⟨pe_ix ix_seq ha.pe hb.pe hs,sim_op sim_ix ha.sm hb.sm⟩
theorem ae_ixk{K':PySem.W.Frag}(hK:X.K=K')(ha:AE X a sa ta)(hb:AE X b sb tb)(hs:PlainIx b:=by intro _ _;rfl):AE X (.Subscript a b pos) (tOp (rIx K') sa sb) (aOp fIx ta tb):=by
 subst hK
 exact ae_ix (ha:=ha) (hb:=hb) (hs:=hs)
abbrev AOp:=List Sl->(Option Int->List Sl->Prop)->Prop
def SimP(te:TO)(t:AOp):Prop :=∀{σ:St} {env:List Sl} {F H:Hp} {fp:List Addr} (Q:Option Int->Hp->Prop) (P:Option Int->List Sl->Prop),Ok F H σ env fp->t env P ->
 (∀o env' F' H' fp',Tr F H fp F' H' fp'->Ok F' H' σ env' fp'->P o env'->Q o H')->te σ H Q
structure APO(X:Cx)(e:Option Expr)(te:TO)(t:AOp):Prop where
 pe:PO X e te
 sm:SimP te t
def aNoP:AOp:=fun env P=>P none env
def aPart(t:AD):AOp:=fun env P=>t env fun d e=>match d with
 | .int i=>P (some i) e
 | _=>False
theorem ap_none:APO X none tNoPart aNoP:=⟨po_none,fun Q P ok h q=>q _ _ _ _ _ Tr.refl ok h⟩
theorem ap_some(h:AE X e se t):APO X (some e) (tPart se) (aPart t):=⟨po_some h.pe,fun Q P ok hh q=>h.sm _ _ ok hh fun v d env' F' H' fp' t ok' r h'=>by
 cases r with
 | int i=>exact⟨i,rfl,q _ _ _ _ _ t ok' h'⟩
 | _=>exact h'.elim⟩
def cutL{α:Type}(ds:List α)(lo hi:Option Int):List α:=(ds.drop (HT.sIx ds.length 0 lo)).take (HT.sIx ds.length ds.length hi-HT.sIx ds.length 0 lo)
def fSl:PyData->Option Int->Option Int->(PyData->Prop)->Prop
 | .list ds,lo,hi,k=>k (.list (cutL ds lo hi))
 | .tuple ds,lo,hi,k=>k (.tuple (cutL ds lo hi))
 | .str z,lo,hi,k=>sz z.length/\k (.str (cutS z lo hi))
 | _,_,_,_=>False
def rSlAll(K:PySem.W.Frag):V->Option Int->Option Int->Hp->VK->Prop:=fun x lo hi H Q=>rSlL K x lo hi H Q∨rSlA K x lo hi H Q∨rSlS x lo hi H Q
theorem sl_all:SlR X (rSlAll X.K):=sl_list.or (sl_tupA.or sl_str)
def aSl(ta:AD)(tl th:AOp):AD:=fun env P=>ta env fun d e=>tl e fun lo e2=>th e2 fun hi e3=>fSl d lo hi fun d'=>P d' e3
theorem cut_whole{α:Type}{xs:List α}{lo hi:Option Int}(h1:HT.sIx xs.length 0 lo=0)(h2:HT.sIx xs.length xs.length hi=xs.length):cutL xs lo hi=xs:=by
 unfold cutL
 rw [h1,h2,List.drop_zero,Nat.sub_zero]
 exact List.take_length
theorem ae_sl{lo hi:Option Expr}{sl sh:TO}{tl th:AOp}{p2:Pos}(ha:AE X a sa ta)(hl:APO X lo sl tl)(hh:APO X hi sh th):AE X (.Subscript a (.Slice lo hi none p2) pos) (tSl (rSlAll X.K) sa sl sh) (aSl ta tl th):=⟨pe_slice sl_all ha.pe hl.pe hh.pe,fun Q P ok h q =>
 ha.sm _ _ ok h fun v1 d1 e1 F1 H1 fp1 t1 ok1 r1 h1=>hl.sm _ _ ok1 h1 fun lo e2 F2 H2 fp2 t2 ok2 h2=>hh.sm _ _ ok2 h2 fun hi e3 F3 H3 fp3 t3 ok3 h3=>by
  have r:=(r1.up t2.ex).up t3.ex
  have tt:=(t1.trans t2).trans t3
  cases r with
  | lst h4 k4 =>
   refine .inl ⟨_,_,rfl,SqL.of (ok3.ex _ _ h4),fun p hp => ?_⟩
   obtain⟨t,x⟩:=tr_new (o := .lst (cutV _ lo hi)) hp ok3.ex
   obtain⟨ok4,t4⟩:=ok3.pure t x
   exact q _ _ _ _ _ _ (tt.trans t4) ok4 (.lst upd_same ((k4.cut lo hi).up t.ex)) h3
  | tup h4 k4 =>
   rename_i aa xs ds
   refine .inr (.inl ⟨aa,xs,rfl,SqT.of (ok3.ex _ _ h4),fun w => ?_,fun _ p hp => ?_⟩)
   ·have w1:=w.1
    have w2:=w.2
    rw [k4.len]at w1 w2
    have h5:P (.tuple (cutL ds lo hi)) e3:=h3
    rw [cut_whole w1 w2]at h5
    exact q _ _ _ _ _ _ tt ok3 (.tup h4 k4) h5
   ·obtain⟨t,x⟩:=tr_new (o := .tup (cutV xs lo hi)) hp ok3.ex
    obtain⟨ok4,t4⟩:=ok3.pure t x
    exact q _ _ _ _ _ _ (tt.trans t4) ok4 (.tup upd_same ((k4.cut lo hi).up t.ex)) h3
  | str z=>exact .inr (.inr ⟨z,rfl,h3.1,q _ _ _ _ _ _ tt ok3 (.str _) h3.2⟩)
  | _=>exact h3.elim⟩
def SimC(r:List V->Hp->VK->Prop)(f:List PyData->(PyData->Prop)->Prop):Prop :=∀{F H:Hp} {xs:List V} {ds:List PyData} (P:PyData->Prop) (Q:VK),Ex F H->Rps F xs ds->f ds P ->
 (∀v d F' H',Tr F H [] F' H' []->Ex F' H'->Rp F' v d->P d->Q v H')->r xs H Q
def aCall(f:List PyData->(PyData->Prop)->Prop)(tu:AL):AD:=fun env P=>tu env fun ds e=>f ds fun d=>P d e
theorem sim_call{r:List V->Hp->VK->Prop}{f:List PyData->(PyData->Prop)->Prop}(hf:SimC r f)(ha:SimA su tu):SimE (tCB r su) (aCall f tu):=fun Q P ok h q =>
 ha _ _ ok h fun vs ds e1 F1 H1 fp1 t1 ok1 r1 h1=>hf _ _ ok1.ex r1 h1 fun v d F3 H3 t3 x3 r3 h3=>by
  obtain⟨ok3,t3'⟩:=ok1.pure t3 x3
  exact q v d e1 F3 H3 fp1 (t1.trans t3') ok3 r3 h3
theorem ae_callB{x:Str}{p:Pos}{id:String}{r:List V->Hp->VK->Prop}{f:List PyData->(PyData->Prop)->Prop}(hc:CallR X (.builtin id) r)(hf:SimC r f)(hg:Gl X x)(hm:X.mg x=none)(hv:bootBuiltins x=some (.builtin id))(ha:APA X (e::es) su tu)(hn:x ≠ "__name__" :=by decide)(hdb:(x==("__debug__" : Str))=false:=by decide)
  (he:starEach (e::es) X.env=(false,eval e X.env)::starEach es X.env:=by rfl) (hpl:(backTo pos (starEach es X.env)).any (·.1)=false:=by rfl):AE X (.Call (.Name x p) (e::es) [] pos) (tCB r su) (aCall f tu) :=
 ⟨pe_callB hc hg hm hv ha.pe hn hdb he hpl,sim_call hf ha.sm⟩
theorem ae_callTy{x:Str}{p:Pos}{id:String}{r:List V->Hp->VK->Prop}{f:List PyData->(PyData->Prop)->Prop}(hc:CallR X (.type id) r)(hf:SimC r f)(hg:Gl X x)(hm:X.mg x=none)(hv:bootBuiltins x=some (.type id))(ha:APA X (e::es) su tu)(hn:x ≠ "__name__" :=by decide)(hdb:(x==("__debug__" : Str))=false:=by decide)
  (he:starEach (e::es) X.env=(false,eval e X.env)::starEach es X.env:=by rfl) (hpl:(backTo pos (starEach es X.env)).any (·.1)=false:=by rfl):AE X (.Call (.Name x p) (e::es) [] pos) (tCB r su) (aCall f tu) :=
 ⟨pe_callTy hc hg hm hv ha.pe hn hdb he hpl,sim_call hf ha.sm⟩
theorem rps1{F:Hp}{xs:List V}{d:PyData}(r:Rps F xs [d]):∃v,xs = [v]/\Rp F v d:=by
 cases r with
 | cons h t=>cases t;exact⟨_,rfl,h⟩
theorem rps2{F:Hp}{xs:List V}{d e:PyData}(r:Rps F xs [d,e]):∃v w,xs = [v,w]/\Rp F v d/\Rp F w e:=by
 cases r with
 | cons h t =>
  cases t with
  | cons h2 t=>cases t;exact⟨_,_,rfl,h,h2⟩
def fLen:List PyData->(PyData->Prop)->Prop
 | [.list ds],k=>k (.int ds.length)
 | [.tuple ds],k=>k (.int ds.length)
 | [.str z],k=>sz z.length/\k (.int z.length)
 | [.dict ks],k=>rowE ks fun ns=>k (.int ns.length)
 | _,_=>False
def rLenAll(K:PySem.W.Frag):List V->Hp->VK->Prop:=fun xs H Q =>∃x n,xs = [x]/\LenV K x H n/\Q (.int n) H
theorem sim_len{K:PySem.W.Frag}:SimC (rLenAll K) fLen:=by
 intro F H xs ds P Q ex r h q
 match ds,r,h with
 | [.list ds],r,h =>
  obtain⟨v,rfl,r1⟩:=rps1 r
  cases r1 with
  | lst h1 k1 =>
   refine⟨_,_,rfl,.inl ⟨_,SqL.of (ex _ _ h1),rfl⟩, ?_⟩
   rw [k1.len]
   exact q _ _ _ _ tr0 ex (.int _) h
 | [.tuple ds],r,h =>
  obtain⟨v,rfl,r1⟩:=rps1 r
  cases r1 with
  | tup h1 k1 =>
   refine⟨_,_,rfl,.inr ⟨_,SqT.of (ex _ _ h1),rfl⟩, ?_⟩
   rw [k1.len]
   exact q _ _ _ _ tr0 ex (.int _) h
 | [.str z],r,h =>
  obtain⟨v,rfl,r1⟩:=rps1 r
  cases r1
  exact⟨_,_,rfl,⟨h.1,rfl⟩,q _ _ _ _ tr0 ex (.int _) h.2⟩
 | [.dict ks],r,h =>
  obtain⟨v,rfl,r1⟩:=rps1 r
  have h:rowE _ _:=h
  obtain⟨ns,a,o,rfl,rfl,h1,hd,hk⟩:=Rp.asRow h r1
  refine⟨_,_,rfl,.inr ⟨_,.inl (.inr ⟨o,ex _ _ h1⟩),rfl⟩, ?_⟩
  rw [List.length_map]
  exact q _ _ _ _ tr0 ex (.int _) hk
theorem ae_len{p:Pos}(hg:Gl X "len")(hm:X.mg "len" =none)(ha:APA X [e] su tu)(he:starEach (e :: []) X.env=(false,eval e X.env)::starEach [] X.env:=by rfl)(hpl:(backTo pos (starEach [] X.env)).any (·.1)=false:=by rfl):AE X (.Call (.Name "len" p) [e] [] pos) (tCB (rLenAll X.K) su) (aCall fLen tu) :=
 ae_callB (show CallR X (.builtin "len") (rLenAll X.K)from call_len) sim_len hg hm PySem.boot_len ha (he:=he) (hpl:=hpl)
def fAbs:List PyData->(PyData->Prop)->Prop
 | [.int i],k=>k (.int (if i<0 then -i else i))
 | _,_=>False
theorem sim_abs:SimC (fun xs H Q =>∃i,xs = [.int i]/\Q (.int (if i<0 then -i else i)) H) fAbs:=by
 intro F H xs ds P Q ex r h q
 match ds,r,h with
 | [.int i],r,h =>
  obtain⟨v,rfl,r1⟩:=rps1 r
  cases r1
  exact⟨i,rfl,q _ _ _ _ tr0 ex (.int _) h⟩
def fIntOf:List PyData->(PyData->Prop)->Prop
 | [.int i],k=>k (.int i)
 | [.bool b],k=>k (.int (if b then 1 else 0))
 | _,_=>False
theorem sim_intOf:SimC (fun xs H Q=>(∃i,xs = [.int i]/\Q (.int i) H) ∨∃k,xs = [.bl k]/\Q (.int (if k then 1 else 0)) H) fIntOf:=by
 intro F H xs ds P Q ex r h q
 match ds,r,h with
 | [.int i],r,h =>
  obtain⟨v,rfl,r1⟩:=rps1 r
  cases r1
  exact .inl ⟨i,rfl,q _ _ _ _ tr0 ex (.int _) h⟩
 | [.bool i],r,h =>
  obtain⟨v,rfl,r1⟩:=rps1 r
  cases r1
  exact .inr ⟨i,rfl,q _ _ _ _ tr0 ex (.int _) h⟩
def fMax2:List PyData->(PyData->Prop)->Prop
 | [.int i,.int j],k=>k (.int (if j > i then j else i))
 | _,_=>False
theorem sim_max2:SimC (fun xs H Q =>∃i j,xs = [.int i,.int j]/\Q (.int (if j > i then j else i)) H) fMax2:=by
 intro F H xs ds P Q ex r h q
 match ds,r,h with
 | [.int i,.int j],r,h =>
  obtain⟨v,w,rfl,r1,r2⟩:=rps2 r
  cases r1
  cases r2
  exact⟨i,j,rfl,q _ _ _ _ tr0 ex (.int _) h⟩
def fSum:List PyData->(PyData->Prop)->Prop:=fun ds k =>∃ns:List Int,ds = [.list (ns.map .int)]/\k (.int ns.sum)
theorem sim_sum{K:PySem.W.Frag}:SimC (rSum K) fSum:=by
 intro F H xs ds P Q ex r h q
 obtain⟨ns,rfl,h⟩:=h
 obtain⟨v,rfl,r1⟩:=rps1 r
 cases r1 with
 | lst h1 k1 =>
  cases k1.ints
  exact⟨_,ns,rfl,SqL.of (ex _ _ h1),q _ _ _ _ tr0 ex (.int _) h⟩
def fAll:List PyData->(PyData->Prop)->Prop:=fun ds k =>∃bs:List Bool,ds = [.list (bs.map .bool)]/\k (.bool (bs.all id))
theorem sim_all{K:PySem.W.Frag}:SimC (rAll K) fAll:=by
 intro F H xs ds P Q ex r h q
 obtain⟨ns,rfl,h⟩:=h
 obtain⟨v,rfl,r1⟩:=rps1 r
 cases r1 with
 | lst h1 k1 =>
  cases k1.bools
  exact⟨_,ns,rfl,SqL.of (ex _ _ h1),q _ _ _ _ tr0 ex (.bl _) h⟩
def fTuple:List PyData->(PyData->Prop)->Prop
 | [.list ds],k=>k (.tuple ds)
 | [.tuple ds],k=>k (.tuple ds)
 | _,_=>False
def rTupleOf(K:PySem.W.Frag):List V->Hp->VK->Prop:=fun xs H Q =>∃p ys,xs = [.ref p]/\((SqL K H p ys /\∀l,H l=none->Q (.ref l) (upd H l (.tup ys)))∨(SqT K H p ys/\Q (.ref p) H))
theorem sim_tuple{K:PySem.W.Frag}:SimC (rTupleOf K) fTuple:=by
 intro F H xs ds P Q ex r h q
 match ds,r,h with
 | [.list ds],r,h =>
  obtain⟨v,rfl,r1⟩:=rps1 r
  cases r1 with
  | lst h1 k1 =>
   refine⟨_,_,rfl,.inl ⟨SqL.of (ex _ _ h1),fun p hp => ?_⟩⟩
   obtain⟨t,x⟩:=tr_new (o := .tup _) hp ex
   exact q _ _ _ _ t x (.tup upd_same (k1.up t.ex)) h
 | [.tuple ds],r,h =>
  obtain⟨v,rfl,r1⟩:=rps1 r
  cases r1 with
  | tup h1 k1=>exact⟨_,_,rfl,.inr ⟨SqT.of (ex _ _ h1),q _ _ _ _ tr0 ex (.tup h1 k1) h⟩⟩
def SimCo(r:List V->Hp->VK->Prop)(f:List PyData->(List PyData->Prop)->Prop):Prop :=∀{F H:Hp} {xs:List V} {ds:List PyData} (P:List PyData->Prop) (Q:VK),Ex F H->Rps F xs ds->f ds P ->
 (∀p ys es,H p=none->Rps F ys es->P es->Q (.ref p) (upd H p (.lst ys)))->r xs H Q
def aCallO(f:List PyData->(List PyData->Prop)->Prop)(tu:AL):AO:=fun env P=>tu env fun ds e=>f ds fun d=>P (.lst d) e
theorem Tr.backs{F H F' H':Hp}{fp fp':List Addr}(t:Tr F H fp F' H' fp'){fo:List Addr}{fq:List Addr}(h:∀b∈fo,F' b=none/\b∉fq/\(b∈fp'∨H' b=none)):∀b∈fo,F' b=none/\b∉fq/\(b∈fp∨H b=none):=fun b hb =>
 ⟨(h b hb).1,(h b hb).2.1,(h b hb).2.2.elim (fun z=>t.nf b z) t.back⟩
theorem sim_callO{r:List V->Hp->VK->Prop}{f:List PyData->(List PyData->Prop)->Prop}(hf:SimCo r f)(ha:SimA su tu):SimO (tCB r su) (aCallO f tu):=fun Q P ok h q =>
 ha _ _ ok h fun vs ds e1 F1 H1 fp1 t1 ok1 r1 h1=>hf _ _ ok1.ex r1 h1 fun p ys es hp r3 h3=>by
  obtain⟨t2,ok2,m,hf⟩:=ok1.newLst hp r3
  exact q _ _ _ _ _ _ _ (t1.trans t2) ok2 m (t1.backs hf) h3
theorem ao_callTy{x:Str}{p:Pos}{id:String}{r:List V->Hp->VK->Prop}{f:List PyData->(List PyData->Prop)->Prop}(hc:CallR X (.type id) r)(hf:SimCo r f)(hg:Gl X x)(hm:X.mg x=none)(hv:bootBuiltins x=some (.type id))(ha:APA X (e::es) su tu)(hn:x ≠ "__name__" :=by decide)(hdb:(x==("__debug__" : Str))=false:=by decide)
  (he:starEach (e::es) X.env=(false,eval e X.env)::starEach es X.env:=by rfl) (hpl:(backTo pos (starEach es X.env)).any (·.1)=false:=by rfl):AEO X (.Call (.Name x p) (e::es) [] pos) (tCB r su) (aCallO f tu) :=
 ⟨pe_callTy hc hg hm hv ha.pe hn hdb he hpl,sim_callO hf ha.sm⟩
def fList:List PyData->(List PyData->Prop)->Prop
 | [.list ds],k=>k ds
 | [.tuple ds],k=>k ds
 | _,_=>False
def rListOf(K:PySem.W.Frag):List V->Hp->VK->Prop:=fun xs H Q =>∃p ys,xs = [.ref p]/\(SqL K H p ys∨SqT K H p ys) /\∀l,H l=none->Q (.ref l) (upd H l (.lst ys))
theorem sim_list{K:PySem.W.Frag}:SimCo (rListOf K) fList:=by
 intro F H xs ds P Q ex r h q
 match ds,r,h with
 | [.list ds],r,h =>
  obtain⟨v,rfl,r1⟩:=rps1 r
  cases r1 with
  | lst h1 k1=>exact⟨_,_,rfl,.inl (SqL.of (ex _ _ h1)),fun p hp=>q _ _ _ hp k1 h⟩
 | [.tuple ds],r,h =>
  obtain⟨v,rfl,r1⟩:=rps1 r
  cases r1 with
  | tup h1 k1=>exact⟨_,_,rfl,.inr (SqT.of (ex _ _ h1)),fun p hp=>q _ _ _ hp k1 h⟩
def aSlO(ta:AD)(tl th:AOp):AO:=fun env P=>ta env fun d e=>tl e fun lo e2=>th e2 fun hi e3=>match d with
 | .list ds=>P (.lst (cutL ds lo hi)) e3
 | _=>False
def frz(t:AO):AD:=fun env P=>t env fun o e=>match o.data with
 | some d=>P d e
 | none=>False
theorem sim_frz{te:TE}{t:AO}(h:SimO te t):SimE te (frz t):=fun Q P ok hh q=>h _ _ ok hh fun a o env' F' H' fp' fo tr ok' m hf h'=>by
 cases e2:o.data with
 | none=>simp only [e2]at h'
 | some d =>
  simp only [e2]at h'
  obtain⟨F2,g1,g2,g3,g4⟩:=m.freeze e2 ok'.ex fun b hb=>(hf b hb).1
  have old:∀b∈fp',F2 b=none:=fun b hb=>by
   cases e3:F2 b with
   | none=>rfl
   | some u =>
    rcases g4 b (some_ne e3)with z | z
    ·exact absurd (ok'.fr b hb) z
    ·exact absurd hb (hf b z).2.1
  refine q _ _ _ F2 H' fp' ⟨tr.ex.trans g1,tr.kp,fun b z => ?_,tr.nf⟩ ⟨g2,ok'.env.mono g1 (fun _ _ _ u=>u),old⟩ g3 h'
  rcases g4 b z with y | y
  ·exact tr.nw b y
  ·rcases(hf b y).2.2 with w | w
   ·exact .inr (.inr w)
   ·exact .inr (.inl w)
theorem AEO.frz{te:TE}{t:AO}(h:AEO X e te t):AE X e te (frz t):=⟨h.pe,sim_frz h.sm⟩
end
end
section
structure AEnds where
 nx:List Sl->Prop
 rt:Sl->List Sl->Prop
 bk:List Sl->Prop:=fun _=>False
 ct:List Sl->Prop:=fun _=>False
abbrev ATS:=AEnds->List Sl->Prop
def Kept(ks:List Nat)(σ σ':St):Prop :=∀i∈ks,σ'[i]? =σ[i]?
theorem Kept.refl{ks:List Nat}{σ:St}:Kept ks σ σ:=fun _ _=>rfl
theorem Kept.trans{ks:List Nat}{σ σ1 σ2:St}(a:Kept ks σ σ1)(b:Kept ks σ1 σ2):Kept ks σ σ2:=fun i h=>(b i h).trans (a i h)
structure SEnd(ks:List Nat)(σ:St)(F H:Hp)(fp:List Addr)(D:Ends)(A:AEnds):Prop where
 nx:∀σ' env' F' H' fp',Tr F H fp F' H' fp'->Ok F' H' σ' env' fp'->Kept ks σ σ'->A.nx env'->D.nx σ' H'
 bk:∀σ' env' F' H' fp',Tr F H fp F' H' fp'->Ok F' H' σ' env' fp'->Kept ks σ σ'->A.bk env'->D.bk σ' H'
 ct:∀σ' env' F' H' fp',Tr F H fp F' H' fp'->Ok F' H' σ' env' fp'->Kept ks σ σ'->A.ct env'->D.ct σ' H'
 rt:∀v r σ' env' F' H' fp',Tr F H fp F' H' fp'->Ok F' H' (some v::σ') (r::env') fp'->Kept ks σ σ'->A.rt r env'->D.rt v H'
def SimS(ks:List Nat)(ts:TS)(t:ATS):Prop :=∀{σ:St} {env:List Sl} {F H:Hp} {fp:List Addr} (D:Ends) (A:AEnds),Ok F H σ env fp->t A env->SEnd ks σ F H fp D A->ts D σ H
structure AS(X:Cx)(ks:List Nat)(st:Stmt)(ts:TS)(t:ATS):Prop where
 pe:PS X st ts
 sm:SimS ks ts t
structure ASs(X:Cx)(ks:List Nat)(st:List Stmt)(ts:TS)(t:ATS):Prop where
 pe:PSs X st ts
 sm:SimS ks ts t
theorem SEnd.step{ks:List Nat}{σ σ1:St}{F H F1 H1:Hp}{fp fp1:List Addr}{D:Ends}{A:AEnds}(q:SEnd ks σ F H fp D A)(t:Tr F H fp F1 H1 fp1)(k:Kept ks σ σ1):SEnd ks σ1 F1 H1 fp1 D A :=
 ⟨fun _ _ _ _ _ t' ok' k' h=>q.nx _ _ _ _ _ (t.trans t') ok' (k.trans k') h,fun _ _ _ _ _ t' ok' k' h=>q.bk _ _ _ _ _ (t.trans t') ok' (k.trans k') h,
  fun _ _ _ _ _ t' ok' k' h=>q.ct _ _ _ _ _ (t.trans t') ok' (k.trans k') h,fun _ _ _ _ _ _ _ t' ok' k' h=>q.rt _ _ _ _ _ _ _ (t.trans t') ok' (k.trans k') h⟩
theorem Ok.put{F H:Hp}{σ:St}{env:List Sl}{fp:List Addr}{i:Nat}{v:V}{d:PyData}(ok:Ok F H σ env fp)(hi:i<env.length)(r:Rp F v d) :
  ∃fp',Ok F H (σ.set i (some v)) (env.set i (.dat d)) fp'/\Tr F H fp F H fp':=by
 obtain⟨x,fi,fr,e1,hs,hm,hd,put⟩:=ok.env.at (List.getElem?_eq_getElem hi)
 obtain⟨fp',he,hm'⟩:=put F H (some v) (.dat d) [] (Ex.refl F) (fun _ _ _ u=>u) (.dat r) (fun _ hb=>by simp at hb)
 have sub:∀b,b∈fp'->b∈fp:=fun b hb=>(hm b).mpr (((hm' b).mp hb).elim (fun z=>by simp at z) .inr)
 exact⟨fp',⟨ok.ex,he,fun b hb=>ok.fr b (sub b hb)⟩,Ex.refl F,fun _ _ z _=>z,fun _ z => .inl z,fun b hb => .inl (sub b hb)⟩
theorem Ok.putNon{F H:Hp}{σ:St}{env:List Sl}{fp:List Addr}{i:Nat}{x':Option V}(ok:Ok F H σ env fp)(hi:i<env.length) :
  ∃fp',Ok F H (σ.set i x') (env.set i .non) fp'/\Tr F H fp F H fp':=by
 obtain⟨x,fi,fr,e1,hs,hm,hd,put⟩:=ok.env.at (List.getElem?_eq_getElem hi)
 obtain⟨fp',he,hm'⟩:=put F H x' .non [] (Ex.refl F) (fun _ _ _ u=>u) .non (fun _ hb=>by simp at hb)
 have sub:∀b,b∈fp'->b∈fp:=fun b hb=>(hm b).mpr (((hm' b).mp hb).elim (fun z=>by simp at z) .inr)
 exact⟨fp',⟨ok.ex,he,fun b hb=>ok.fr b (sub b hb)⟩,Ex.refl F,fun _ _ z _=>z,fun _ z => .inl z,fun b hb => .inl (sub b hb)⟩
theorem Ok.putO{F H:Hp}{σ:St}{env:List Sl}{fp fo:List Addr}{i:Nat}{a:Addr}{o:MO}(ok:Ok F H σ env fp)(hi:i<env.length)(m:MoAt F H a o fo)(hf:∀b∈fo,F b=none/\b∉fp) :
  ∃fp',Ok F H (σ.set i (some (.ref a))) (env.set i (.own o)) fp'/\(∀b,b∈fp'->b∈fo∨b∈fp):=by
 obtain⟨x,fi,fr,e1,hs,hm,hd,put⟩:=ok.env.at (List.getElem?_eq_getElem hi)
 obtain⟨fp',he,hm'⟩:=put F H (some (.ref a)) (.own o) fo (Ex.refl F) (fun _ _ _ u=>u) (.own m) (fun b hb z=>(hf b hb).2 ((hm b).mpr (.inr z)))
 have sub:∀b,b∈fp'->b∈fo∨b∈fp:=fun b hb=>((hm' b).mp hb).elim .inl fun z => .inr ((hm b).mpr (.inr z))
 exact⟨fp',⟨ok.ex,he,fun b hb=>(sub b hb).elim (fun z=>(hf b z).1) (ok.fr b)⟩,sub⟩
theorem Ok.ownL{F H:Hp}{σ:St}{env:List Sl}{fp:List Addr}{i:Nat}{ds:List PyData}(ok:Ok F H σ env fp)(hi:env[i]? =some (.own (.lst ds))) :
  ∃a xs,σ[i]? =some (some (.ref a))/\H a=some (.lst xs)/\Rps F xs ds /\
   ∀F' ys es,Ex F F'->Ex F' H->(∀b∈fp,F' b=none)->(∀b,F' b≠none->F b≠none∨H b=none)->Rps F' ys es ->∃fp',Ok F' (upd H a (.lst ys)) σ (env.set i (.own (.lst es))) fp'/\Tr F H fp F' (upd H a (.lst ys)) fp':=by
 obtain⟨x,fi,fr,e1,hs,hm,hd,put⟩:=ok.env.at hi
 cases hs with
 | own m =>
  rename_i a
  obtain⟨rfl,xs,h1,h2⟩:=m
  refine⟨a,xs,e1,h1,h2,fun F' ys es ex ex2 hf hn r => ?_⟩
  have na:a∉fr:=hd a (by simp)
  have hne:∀b∈fr,b≠a:=fun b hb z=>na (z ▸ hb)
  obtain⟨fp',he,hm'⟩:=put F' (upd H a (.lst ys)) (some (.ref a)) (.own (.lst es)) [a] ex (fun b hb u z=>by rw [upd_ne (hne b hb)];exact z) (.own ⟨rfl,ys,upd_same,r⟩) hd
  rw [set_same e1]at he
  have sub:∀b,b∈fp'↔b∈fp:=fun b=>(hm' b).trans (hm b).symm
  have fa:F' a=none:=hf a ((hm a).mpr (.inl (by simp)))
  refine⟨fp',⟨fun b u z => ?_,he,fun b hb=>hf b ((sub b).mp hb)⟩,ex,fun b u z n => ?_,fun b z => ?_,fun b hb => .inl ((sub b).mp hb)⟩
  ·have:b≠a:=fun e=>by rw [e,fa]at z;cases z
   rw [upd_ne this];exact ex2 b u z
  ·have:b≠a:=fun e=>n (e ▸ (hm a).mpr (.inl (by simp)))
   rw [upd_ne this];exact z
  ·rcases hn b z with y | y
   ·exact .inl y
   ·exact .inr (.inl y)
theorem Ok.mutL{F H:Hp}{σ:St}{env:List Sl}{fp:List Addr}{i:Nat}{ds:List PyData}(ok:Ok F H σ env fp)(hi:env[i]? =some (.own (.lst ds))) :
  ∃a xs,σ[i]? =some (some (.ref a))/\H a=some (.lst xs)/\Rps F xs ds /\∀ys es,Rps F ys es ->∃fp',Ok F (upd H a (.lst ys)) σ (env.set i (.own (.lst es))) fp'/\Tr F H fp F (upd H a (.lst ys)) fp':=by
 obtain⟨a,xs,h1,h2,h3,h4⟩:=ok.ownL hi
 exact⟨a,xs,h1,h2,h3,fun ys es r=>h4 F ys es (Ex.refl F) ok.ex ok.fr (fun _ z => .inl z) r⟩
section
variable {X:Cx} {ks:List Nat} {st:Stmt} {rest:List Stmt} {s1 s2:TS} {t u:ATS} {e e2:Expr} {se se2:TE} {te te2:AD} {pos:Pos}
def aNext:ATS:=fun A env=>A.nx env
def aSeq(t u:ATS):ATS:=fun A env=>t { A with nx:=u A } env
theorem ass_nil:ASs X ks [] tNext aNext:=⟨pss_nil,fun D A ok h q=>q.nx _ _ _ _ _ Tr.refl ok Kept.refl h⟩
theorem ass_cons(h1:AS X ks st s1 t)(h2:ASs X ks rest s2 u):ASs X ks (st::rest) (tSeq s1 s2) (aSeq t u):=⟨pss_cons h1.pe h2.pe,fun D A ok h q =>
 h1.sm { D with nx:=s2 D } { A with nx:=u A } ok h ⟨fun σ' env' F' H' fp' t' ok' k h'=>h2.sm D A ok' h' (q.step t' k),q.bk,q.ct,q.rt⟩⟩
theorem ass_one(h1:AS X ks st s1 t):ASs X ks [st] s1 t:=⟨pss_one h1.pe,h1.sm⟩
def aIfS(c:AT)(t u:ATS):ATS:=fun A env=>c env fun b e=>(b=true->t A e)/\(b=false->u A e)
theorem as_if{c:Expr}{sc:TT}{tc:AT}{aa bb:List Stmt}(hc:APT X c sc tc)(ha:ASs X ks aa s1 t)(hb:ASs X ks bb s2 u):AS X ks (.If c aa bb pos) (tIfS sc s1 s2) (aIfS tc t u):=⟨ps_if hc.pe ha.pe hb.pe,fun D A ok h q =>
 hc.sm _ _ ok h fun b env' F' H' fp' t' ok' h'=>by
  cases b with
  | true =>
   show s1 _ _ _
   exact ha.sm D A ok' (h'.1 rfl) (q.step t' Kept.refl)
  | false =>
   show s2 _ _ _
   exact hb.sm D A ok' (h'.2 rfl) (q.step t' Kept.refl)⟩
def aSet(i:Nat)(te:AD):ATS:=fun A env=>te env fun d e=>i<e.length/\A.nx (e.set i (.dat d))
def aSetO(i:Nat)(te:AO):ATS:=fun A env=>te env fun o e=>i<e.length/\A.nx (e.set i (.own o))
theorem kept_set{i:Nat}{σ:St}{v:Option V}(h:i∉ks):Kept ks σ (σ.set i v):=fun j hj=>by rw [List.getElem?_set_ne (fun z=>h (by rw [z];exact hj))]
theorem sim_set{i:Nat}(h:i∉ks)(hs:SimE se te):SimS ks (tAsg se (gName i)) (aSet i te):=fun D A ok hh q=>hs _ _ ok hh fun v d env' F' H' fp' t' ok' r h'=>by
 obtain⟨fp2,ok2,t2⟩:=ok'.put h'.1 r
 exact q.nx _ _ _ _ _ (t'.trans t2) ok2 (kept_set h) h'.2
theorem sim_setO{i:Nat}{to:AO}(h:i∉ks)(hs:SimO se to):SimS ks (tAsg se (gName i)) (aSetO i to):=fun D A ok hh q=>hs _ _ ok hh fun a o env' F' H' fp' fo t' ok' m hf h'=>by
 obtain⟨fp2,ok2,sub⟩:=ok'.putO h'.1 m fun b hb=>⟨(hf b hb).1,(hf b hb).2.1⟩
 refine q.nx _ _ _ _ _ ⟨t'.ex,t'.kp,t'.nw,fun b hb => ?_⟩ ok2 (kept_set h) h'.2
 rcases sub b hb with z | z
 ·exact(hf b z).2.2
 ·exact t'.nf b z
theorem as_set{i:Nat}{x:Str}{pos2:Pos}(hN:X.N.Nodup)(hi:X.N[i]? =some x)(hx:Loc X.env.scope x)(he:AE X e se te)(hk:i∉ks:=by decide)(hs:swapsWith e (some (.Name x pos2)) pos.line X.env=pure false:=by rfl)(hf:X.fn x=true∨X.env.scope.names.lookup x=some .local:=by first | exact .inl rfl | exact .inr rfl | assumption) :
  AS X ks (.Assign [.Name x pos2] e pos) (tAsg se (gName i)) (aSet i te):=⟨ps_set hN hi hx he.pe hs hf,sim_set hk he.sm⟩
theorem as_setO{i:Nat}{x:Str}{pos2:Pos}{to:AO}(hN:X.N.Nodup)(hi:X.N[i]? =some x)(hx:Loc X.env.scope x)(he:AEO X e se to)(hk:i∉ks:=by decide)(hs:swapsWith e (some (.Name x pos2)) pos.line X.env=pure false:=by rfl)(hf:X.fn x=true∨X.env.scope.names.lookup x=some .local:=by first | exact .inl rfl | exact .inr rfl | assumption) :
  AS X ks (.Assign [.Name x pos2] e pos) (tAsg se (gName i)) (aSetO i to):=⟨ps_set hN hi hx he.pe hs hf,sim_setO hk he.sm⟩
def aPar(i j:Nat)(tu:AL):ATS:=fun A env=>tu env fun ds e=>match ds with
 | [d1,d2]=>(i<e.length/\j<e.length)/\A.nx ((e.set i (.dat d1)).set j (.dat d2))
 | _=>False
theorem as_par{i j:Nat}{x y:Str}{su:TA}{tu:AL}{px py pt:Pos}{kt k2 pt2}(hc:X.calm=true)(hN:X.N.Nodup)(hi:X.N[i]? =some x)(hj:X.N[j]? =some y)(hij:i≠j)
  (hx:X.env.scope.names.lookup x=some .local) (hy:X.env.scope.names.lookup y=some .local) (ha:APA X [e,e2] su tu)
  (hw:swappedStores [.Tuple [.Name x px,.Name y py] kt pt] (.Tuple [e,e2] k2 pt2) X.env=pure (some [x,y])) (hki:i∉ks:=by decide) (hkj:j∉ks:=by decide)
  (hs:swapsWithSole [.Tuple [.Name x px,.Name y py] kt pt] (.Tuple [e,e2] k2 pt2) pos.line X.env=pure false:=by rfl) :
  AS X ks (.Assign [.Tuple [.Name x px,.Name y py] kt pt] (.Tuple [e,e2] k2 pt2) pos) (tPar i j su) (aPar i j tu):=⟨ps_par hc hN hi hj hij hx hy ha.pe hw hs,fun D A ok hh q=>ha.sm _ _ ok hh fun vs ds env' F' H' fp' t' ok' r h'=>by
 match ds,r,h' with
 | [d1,d2],r,h' =>
  obtain⟨v,w,rfl,r1,r2⟩:=rps2 r
  obtain⟨fp2,ok2,t2⟩:=ok'.put h'.1.1 r1
  obtain⟨fp3,ok3,t3⟩:=ok2.put (by rw [List.length_set];exact h'.1.2) r2
  exact⟨v,w,rfl,q.nx _ _ _ _ _ ((t'.trans t2).trans t3) ok3 ((kept_set hki).trans (kept_set hkj)) h'.2⟩⟩
def aRet(te:AD):ATS:=fun A env=>te env fun d e=>A.rt (.dat d) e
def aRetO(te:AO):ATS:=fun A env=>te env fun o e=>A.rt (.own o) e
theorem Ok.cons{F H:Hp}{σ:St}{env:List Sl}{fp:List Addr}{v:V}{d:PyData}(ok:Ok F H σ env fp)(r:Rp F v d):Ok F H (some v::σ) (.dat d::env) fp:=⟨ok.ex,.cons (fp :=[]) (.dat r) ok.env (fun _ h=>by simp at h),ok.fr⟩
theorem Ok.consO{F H:Hp}{σ:St}{env:List Sl}{fp fo:List Addr}{a:Addr}{o:MO}(ok:Ok F H σ env fp)(m:MoAt F H a o fo)(hf:∀b∈fo,F b=none/\b∉fp):Ok F H (some (.ref a)::σ) (.own o::env) (fo++fp) :=
 ⟨ok.ex,.cons (.own m) ok.env (fun b h=>(hf b h).2),fun b h=>(List.mem_append.mp h).elim (fun z=>(hf b z).1) (ok.fr b)⟩
theorem as_ret(he:AE X e se te):AS X ks (.Return (some e) pos) (tRet se) (aRet te):=⟨ps_ret he.pe,fun D A ok hh q=>he.sm _ _ ok hh fun v d env' F' H' fp' t' ok' r h'=>q.rt _ _ _ _ _ _ _ t' (ok'.cons r) Kept.refl h'⟩
theorem as_retO{to:AO}(he:AEO X e se to):AS X ks (.Return (some e) pos) (tRet se) (aRetO to):=⟨ps_ret he.pe,fun D A ok hh q=>he.sm _ _ ok hh fun a o env' F' H' fp' fo t' ok' m hf h' =>
 q.rt _ _ _ _ _ _ (fo++fp') ⟨t'.ex,t'.kp,t'.nw,fun b hb=>(List.mem_append.mp hb).elim (fun z=>(hf b z).2.2) (t'.nf b)⟩ (ok'.consO m fun b hb=>⟨(hf b hb).1,(hf b hb).2.1⟩) Kept.refl h'⟩
def ownAt(i:Nat)(env:List Sl):Prop:=match env[i]? with
 | some (.own (.lst _))=>True
 | _=>False
theorem Ok.ownV{F H:Hp}{σ:St}{env:List Sl}{fp:List Addr}{i:Nat}(ok:Ok F H σ env fp)(h:ownAt i env):∃a xs,σ[i]? =some (some (.ref a))/\H a=some (.lst xs):=by
 unfold ownAt at h
 split at h
 ·rename_i ds e
  obtain⟨x,fi,fr,e1,hs,_⟩:=ok.env.at e
  cases hs with
  | own m =>
   obtain⟨_,xs,h1,_⟩:=m
   exact⟨_,xs,e1,h1⟩
 ·exact h.elim
def withL(i:Nat)(e:List Sl)(k:List PyData->Prop):Prop:=match e[i]? with
 | some (.own (.lst ds))=>k ds
 | _=>False
theorem withL_of{i:Nat}{e:List Sl}{k:List PyData->Prop}(h:withL i e k):∃ds,e[i]? =some (.own (.lst ds))/\k ds:=by
 unfold withL at h
 split at h
 ·exact⟨_,by assumption,h⟩
 ·exact h.elim
def aIxO(i:Nat)(te:AD):AD:=fun env P=>ownAt i env/\te env fun d e=>withL i e fun ds=>match d with
 | .int j =>∃x,atI ds j=some x/\P x e
 | _=>False
theorem sim_ixO{i:Nat}(he:SimE se te){K:PySem.W.Frag}:SimE (tOp (rIx K) (tVar i) se) (aIxO i te):=by
 intro σ env F H fp Q P ok h q
 obtain⟨a,xs0,ha,h0⟩:=ok.ownV h.1
 refine⟨_,ha,he _ _ ok h.2 fun v2 d2 e2 F2 H2 fp2 t2 ok2 r2 h2 => ?_⟩
 obtain⟨ds,hd,h3⟩:=withL_of h2
 obtain⟨a',xs,g1,g2,g3,_⟩:=ok2.ownL hd
 rw [ha]at g1
 cases g1
 cases r2 with
 | int j =>
  obtain⟨x,hx,hp⟩:=h3
  obtain⟨v,hv,rv⟩:=atI_rps g3 hx
  exact .inl ⟨_,_,j,v,rfl,rfl,SqL.of g2,hv,q _ _ _ _ _ _ t2 ok2 rv hp⟩
 | _=>exact h3.elim
theorem ae_ixO(i:Nat){x:Str}{px:Pos}(he:AE X e se te)(hs:PlainIx e:=by intro _ _;rfl)(hN:X.N[i]? =some x:=by rfl)(hv:Vis X.env.scope x:=by first | exact Or.inl rfl | exact Or.inr (Or.inl rfl) | exact Or.inr (Or.inr rfl))(hd:(x==("__debug__" : Str))=false:=by decide)
  (hcd:(x==("__classdict__" : Str))=false:=by decide):AE X (.Subscript (.Name x px) e pos) (tOp (rIx X.K) (tVar i) se) (aIxO i te):=⟨pe_ix ix_seq (pe_var hN hv hd hcd) he.pe hs,sim_ixO he.sm⟩
def aLenO(i:Nat):AD:=fun env P=>withL i env fun ds=>P (.int ds.length) env
theorem ae_lenO(i:Nat){x:Str}{px p:Pos}(hg:Gl X "len")(hm:X.mg "len" =none)(hN:X.N[i]? =some x:=by rfl)(hv:Vis X.env.scope x:=by first | exact Or.inl rfl | exact Or.inr (Or.inl rfl) | exact Or.inr (Or.inr rfl))(hd:(x==("__debug__" : Str))=false:=by decide)
  (hcd:(x==("__classdict__" : Str))=false:=by decide) (he:starEach ((.Name x px) :: []) X.env=(false,eval (.Name x px) X.env)::starEach [] X.env:=by rfl) (hpl:(backTo pos (starEach [] X.env)).any (·.1)=false:=by rfl) :
  AE X (.Call (.Name "len" p) [.Name x px] [] pos) (tCB (rLenAll X.K) (tCons (tVar i) tNil)) (aLenO i):=⟨pe_callB (show CallR X (.builtin "len") (rLenAll X.K)from call_len) hg hm PySem.boot_len (pa_cons (pe_var hN hv hd hcd) pa_nil he) (he:=he) (hpl:=hpl),fun Q P ok h q=>by
 obtain⟨ds,hd,h3⟩:=withL_of h
 obtain⟨a,xs,g1,g2,g3,_⟩:=ok.ownL hd
 refine⟨_,g1,_,_,rfl,.inl ⟨_,SqL.of g2,rfl⟩, ?_⟩
 rw [g3.len]
 exact q _ _ _ _ _ _ Tr.refl ok (.int _) h3⟩
def aApp(i:Nat)(te:AD):ATS:=fun A env=>ownAt i env/\te env fun d e=>withL i e fun ds=>ds.length<sizeLine/\A.nx (e.set i (.own (.lst (ds ++ [d]))))
theorem sim_app{i:Nat}(he:SimE se te){K:PySem.W.Frag}:SimS ks (tDrop (tBM K "list" rAppend (tVar i) (tCons se tNil))) (aApp i te):=by
 intro σ env F H fp D A ok h q
 obtain⟨a,xs0,ha,h0⟩:=ok.ownV h.1
 refine⟨_,ha,.inl ⟨rfl,_,SqL.of h0⟩,he _ _ ok h.2 fun v2 d2 e2 F2 H2 fp2 t2 ok2 r2 h2 => ?_⟩
 obtain⟨ds,hd,h3⟩:=withL_of h2
 obtain⟨a',xs,g1,g2,g3,g4⟩:=ok2.mutL hd
 rw [ha]at g1
 cases g1
 obtain⟨fp3,ok3,t3⟩:=g4 _ _ (g3.app (.one r2))
 exact⟨_,_,_,rfl,rfl,g2,by rw [g3.len];exact h3.1,q.nx _ _ _ _ _ (t2.trans t3) ok3 Kept.refl h3.2⟩
theorem as_app(i:Nat){x:Str}{px apos cpos:Pos}(he:AE X e se te)(hN:X.N[i]? =some x:=by rfl)(hv:Vis X.env.scope x:=by first | exact Or.inl rfl | exact Or.inr (Or.inl rfl) | exact Or.inr (Or.inr rfl))(hd:(x==("__debug__" : Str))=false:=by decide)
  (hcd:(x==("__classdict__" : Str))=false:=by decide) (hbase:attributeBase (.Name x px) "append" X.env (eval (.Name x px) X.env)=eval (.Name x px) X.env:=by rfl)
  (hfew:((backTo cpos (starEach (e :: []) X.env)).all (fun x => !x.1)&&(backToKw cpos (keywordEach [] X.env)).all (fun x=>x.1.isSome)
   && decide ((e :: []).length+([]:List Keyword).length+(if ([]:List Keyword).isEmpty then 0 else 1)<30))=true:=by rfl)
  (hline:(apos.endLine==cpos.line)=true:=by rfl) (hst:starEach (e :: []) X.env=(false,eval e X.env)::starEach [] X.env:=by rfl) (hplain:(backTo cpos (starEach [] X.env)).any (·.1)=false:=by rfl)
  (hs:swapsWith (.Call (.Attribute (.Name x px) "append" apos) [e] [] cpos) none pos.line X.env=pure false:=by rfl) :
  AS X ks (.Expr (.Call (.Attribute (.Name x px) "append" apos) [e] [] cpos) pos) (tDrop (tBM X.K "list" rAppend (tVar i) (tCons se tNil))) (aApp i te) :=
 ⟨ps_expr (pe_bm PySem.F.plainAttrs_list PySem.F.slot_list_append PySem.F.type_list_append mt_append (pe_var hN hv hd hcd) (pa_cons he.pe pa_nil hst) hbase hfew hline hst hplain) hs,sim_app he.sm⟩
def insAt{α:Type}(xs:List α)(k:Nat)(y:α):List α:=xs.take k++y::xs.drop k
def aIns(i:Nat)(te te2:AD):ATS:=fun A env=>ownAt i env/\te env fun d e=>te2 e fun d2 e2=>withL i e2 fun ds=>match d with
 | .int k=>(ds.length<sizeLine/\0<=k/\k<=ds.length)/\A.nx (e2.set i (.own (.lst (insAt ds k.toNat d2))))
 | _=>False
def aSetI(i:Nat)(te tk:AD):ATS:=fun A env=>te env fun d e=>ownAt i e/\tk e fun k e2=>withL i e2 fun ds=>match k with
 | .int k =>∃j,ixN ds.length k=some j/\A.nx (e2.set i (.own (.lst (ds.set j d))))
 | _=>False
theorem sim_setI{i:Nat}(he:SimE se te)(hk:SimE se2 te2):SimS ks (tAsg se (gSub (tVar i) se2 rSetL)) (aSetI i te te2):=by
 intro σ env F H fp D A ok h q
 refine he _ _ ok h fun v1 d1 e1 F1 H1 fp1 t1 ok1 r1 h1 => ?_
 obtain⟨a,xs0,ha,h0⟩:=ok1.ownV h1.1
 refine⟨_,ha,hk _ _ ok1 h1.2 fun v2 d2 e2 F2 H2 fp2 t2 ok2 r2 h2 => ?_⟩
 obtain⟨ds,hd,h3⟩:=withL_of h2
 obtain⟨a',xs,g1,g2,g3,g4⟩:=ok2.mutL hd
 rw [ha]at g1
 cases g1
 cases r2 with
 | int k =>
  obtain⟨j,hj,h4⟩:=h3
  obtain⟨fp3,ok3,t3⟩:=g4 _ _ (Rps.set (r1.up t2.ex) j g3)
  exact⟨_,xs,k,j,rfl,rfl,g2,by rw [g3.len];exact hj,q.nx _ _ _ _ _ ((t1.trans t2).trans t3) ok3 Kept.refl h4⟩
 | _=>exact h3.elim
theorem as_setI(i:Nat){x:Str}{px p2:Pos}(he:AE X e se te)(hk:AE X e2 se2 te2)(hN:X.N[i]? =some x:=by rfl)(hv:Vis X.env.scope x:=by first | exact Or.inl rfl | exact Or.inr (Or.inl rfl) | exact Or.inr (Or.inr rfl))(hd:(x==("__debug__" : Str))=false:=by decide)
  (hcd:(x==("__classdict__" : Str))=false:=by decide)
  (ha:∀v,assign (.Subscript (.Name x px) e2 p2) X.env v=(do
   let ov <- holding [v] (eval (.Name x px) X.env)
   let iv <- holding [v,ov] (eval e2 X.env)
   standAt p2
   holding [v,ov,iv] (setItem ov iv v)
   release [v,ov,iv] []):=by intro _;rfl)
  (hs:swapsWithSole [.Subscript (.Name x px) e2 p2] e pos.line X.env=pure false:=by rfl) (hw:swappedStores [.Subscript (.Name x px) e2 p2] e X.env=pure none:=by rfl)
  (h1:(assignEach [.Subscript (.Name x px) e2 p2] X.env).map (·.2) = [assign (.Subscript (.Name x px) e2 p2) X.env]:=by rfl) :
  AS X ks (.Assign [.Subscript (.Name x px) e2 p2] e pos) (tAsg se (gSub (tVar i) se2 rSetL)) (aSetI i te te2) :=
 ⟨ps_asg he.pe (pg_sub (pe_var hN hv hd hcd) hk.pe set_list ha) hs hw h1,sim_setI he.sm hk.sm⟩
def rInsert:V->List V->Hp->VK->Prop:=fun x vs H Q =>∃(l:Addr) (xs:List V) (i:Int) (y:V),x = .ref l/\vs = [.int i,y]/\H l=some (.lst xs)/\xs.length<sizeLine/\0<=i/\i<2^63 /\
  Q .non (upd H l (.lst (xs.take i.toNat ++ [y]++xs.drop i.toNat)))
theorem sim_ins{i:Nat}(he:SimE se te)(he2:SimE se2 te2){K:PySem.W.Frag}:SimS ks (tDrop (tBM K "list" rInsert (tVar i) (tCons se (tCons se2 tNil)))) (aIns i te te2):=by
 intro σ env F H fp D A ok h q
 obtain⟨a,xs0,ha,h0⟩:=ok.ownV h.1
 refine⟨_,ha,.inl ⟨rfl,_,SqL.of h0⟩,he _ _ ok h.2 fun v1 d1 e1 F1 H1 fp1 t1 ok1 r1 h1=>he2 _ _ ok1 h1 fun v2 d2 e2 F2 H2 fp2 t2 ok2 r2 h2 => ?_⟩
 obtain⟨ds,hd,h3⟩:=withL_of h2
 obtain⟨a',xs,g1,g2,g3,g4⟩:=ok2.mutL hd
 rw [ha]at g1
 cases g1
 cases r1 with
 | int k =>
  obtain⟨⟨h4,h5,h6⟩,h7⟩:=h3
  obtain⟨fp3,ok3,t3⟩:=g4 (xs.take k.toNat ++ [v2]++xs.drop k.toNat) (insAt ds k.toNat d2) (by
   unfold insAt
   rw [List.append_assoc]
   exact(g3.take _).app (.cons r2 (g3.drop _)))
  refine⟨_,_,k,_,rfl,rfl,g2,by rw [g3.len];exact h4,h5, ?_,q.nx _ _ _ _ _ ((t1.trans t2).trans t3) ok3 Kept.refl h7⟩
  have:=sizeLine_eq
  omega
 | _=>exact h3.elim
theorem as_ins(i:Nat){x:Str}{px apos cpos:Pos}(he:AE X e se te)(he2:AE X e2 se2 te2)(hN:X.N[i]? =some x:=by rfl)(hv:Vis X.env.scope x:=by first | exact Or.inl rfl | exact Or.inr (Or.inl rfl) | exact Or.inr (Or.inr rfl))(hd:(x==("__debug__" : Str))=false:=by decide)
  (hcd:(x==("__classdict__" : Str))=false:=by decide) (hbase:attributeBase (.Name x px) "insert" X.env (eval (.Name x px) X.env)=eval (.Name x px) X.env:=by rfl)
  (hfew:((backTo cpos (starEach (e :: [e2]) X.env)).all (fun x => !x.1)&&(backToKw cpos (keywordEach [] X.env)).all (fun x=>x.1.isSome)
   && decide ((e :: [e2]).length+([]:List Keyword).length+(if ([]:List Keyword).isEmpty then 0 else 1)<30))=true:=by rfl)
  (hline:(apos.endLine==cpos.line)=true:=by rfl) (hst:starEach (e :: [e2]) X.env=(false,eval e X.env)::starEach [e2] X.env:=by rfl) (hst2:starEach (e2 :: []) X.env=(false,eval e2 X.env)::starEach [] X.env:=by rfl) (hplain:(backTo cpos (starEach [e2] X.env)).any (·.1)=false:=by rfl)
  (hs:swapsWith (.Call (.Attribute (.Name x px) "insert" apos) [e,e2] [] cpos) none pos.line X.env=pure false:=by rfl) :
  AS X ks (.Expr (.Call (.Attribute (.Name x px) "insert" apos) [e,e2] [] cpos) pos) (tDrop (tBM X.K "list" rInsert (tVar i) (tCons se (tCons se2 tNil)))) (aIns i te te2) :=
 ⟨ps_expr (pe_bm PySem.F.plainAttrs_list PySem.F.slot_list_insert PySem.F.type_list_insert (show MtR X "list.insert" rInsert from mt_insert) (pe_var hN hv hd hcd) (pa_cons he.pe (pa_cons he2.pe pa_nil hst2) hst) hbase hfew hline hst hplain) hs,sim_ins he.sm he2.sm⟩
end
end
section
abbrev AG:=PyData->List Sl->(List Sl->Prop)->Prop
abbrev AGs:=List PyData->List Sl->(List Sl->Prop)->Prop
def Touch(ts:List Nat)(σ σ':St):Prop:=σ'.length=σ.length /\∀i,i∉ts->σ'[i]? =σ[i]?
def SimG(ts:List Nat)(g:TG)(t:AG):Prop :=∀{σ:St} {env:List Sl} {F H:Hp} {fp:List Addr} {v:V} {d:PyData} (Q:St->Hp->Prop) (P:List Sl->Prop),Ok F H σ env fp->Rp F v d->t d env P ->
 (∀σ' env' F' H' fp',Tr F H fp F' H' fp'->Ok F' H' σ' env' fp'->Touch ts σ σ'->P env'->Q σ' H')->g v σ H Q
def SimGs(ts:List Nat)(g:TGs)(t:AGs):Prop :=∀{σ:St} {env:List Sl} {F H:Hp} {fp:List Addr} {v:List V} {d:List PyData} (Q:St->Hp->Prop) (P:List Sl->Prop),Ok F H σ env fp->Rps F v d->t d env P ->
 (∀σ' env' F' H' fp',Tr F H fp F' H' fp'->Ok F' H' σ' env' fp'->Touch ts σ σ'->P env'->Q σ' H')->g v σ H Q
structure APG(X:Cx)(ts:List Nat)(e:Expr)(g:TG)(t:AG):Prop where
 pe:PG X e g
 sm:SimG ts g t
structure APGs(X:Cx)(ts:List Nat)(e:List Expr)(g:TGs)(t:AGs):Prop where
 pe:PGs X e g
 sm:SimGs ts g t
def agName(i:Nat):AG:=fun d env P=>i<env.length/\P (env.set i (.dat d))
theorem Touch.refl{ts:List Nat}{σ:St}:Touch ts σ σ:=⟨rfl,fun _ _=>rfl⟩
theorem Touch.trans{ts us:List Nat}{σ σ1 σ2:St}(a:Touch ts σ σ1)(b:Touch us σ1 σ2):Touch (ts++us) σ σ2:=⟨b.1.trans a.1,fun i h=>(b.2 i fun z=>h (List.mem_append_right _ z)).trans (a.2 i fun z=>h (List.mem_append_left _ z))⟩
theorem Touch.kept{ts ks:List Nat}{σ σ':St}(t:Touch ts σ σ')(h:∀i∈ks,i∉ts):Kept ks σ σ':=fun i hi=>t.2 i (h i hi)
section
variable {X:Cx} {pos:Pos} {ks:List Nat}
theorem ag_name{i:Nat}{x:Str}(hN:X.N.Nodup)(hi:X.N[i]? =some x)(hx:Loc X.env.scope x)(hf:X.fn x=true∨X.env.scope.names.lookup x=some .local:=by first | exact .inl rfl | exact .inr rfl | assumption):APG X [i] (.Name x pos) (gName i) (agName i) :=
 ⟨pg_name hN hi hx hf,fun Q P ok r h q=>by
  obtain⟨fp2,ok2,t2⟩:=ok.put h.1 r
  exact q _ _ _ _ _ t2 ok2 ⟨List.length_set,fun j hj=>by rw [List.getElem?_set_ne (fun z=>hj (by simp [z]))]⟩ h.2⟩
def agNil:AGs:=fun ds env P=>match ds with
 | []=>P env
 | _=>False
def agCons(t:AG)(u:AGs):AGs:=fun ds env P=>match ds with
 | d::ds=>t d env fun e=>u ds e P
 | []=>False
theorem ags_nil:APGs X [] [] gNil agNil:=⟨pgs_nil,fun Q P ok r h q=>by
 cases r with
 | nil=>exact⟨rfl,q _ _ _ _ _ Tr.refl ok Touch.refl h⟩
 | cons _ _=>exact h.elim⟩
theorem ags_cons{e:Expr}{es:List Expr}{g:TG}{gs:TGs}{t:AG}{u:AGs}{ts us:List Nat}(h1:APG X ts e g t)(h2:APGs X us es gs u)(hs:(assignEach (e::es) X.env).map (·.2)=assign e X.env::(assignEach es X.env).map (·.2):=by rfl):APGs X (ts++us) (e::es) (gCons g gs) (agCons t u) :=
 ⟨pgs_cons h1.pe h2.pe hs,fun Q P ok r h q=>by
  cases r with
  | nil=>exact h.elim
  | cons r1 r2=>exact⟨_,_,rfl,h1.sm _ _ ok r1 h fun σ1 env1 F1 H1 fp1 t1 ok1 k1 h3=>h2.sm _ _ ok1 (r2.up t1.ex) h3 fun σ2 env2 F2 H2 fp2 t2 ok2 k2 h4=>q _ _ _ _ _ (t1.trans t2) ok2 (k1.trans k2) h4⟩⟩
def agTup(n:Nat)(u:AGs):AG:=fun d env P=>match d with
 | .tuple ds=>ds.length=n/\u ds env P
 | _=>False
theorem ag_tup{es:List Expr}{k:Nat}{g:TGs}{u:AGs}{n:Nat}{ts:List Nat}(hc:X.calm=true)(h:APGs X ts es g u)
  (hn:(assignEach es X.env).length=n:=by rfl) (hst:(assignEach es X.env).findIdx? (·.1)=none:=by rfl):APG X ts (.Tuple es k pos) (gTup X.K n g) (agTup n u) :=
 ⟨pg_tup hc h.pe hn hst,fun Q P ok r hh q=>by
  cases r with
  | tup h1 k1=>exact⟨_,_,rfl,SqT.of (ok.ex _ _ h1),by rw [k1.len];exact hh.1,h.sm _ _ ok k1 hh.2 q⟩
  | _=>exact hh.elim⟩
theorem ag_tupk{K':PySem.W.Frag}(hK:X.K=K'){es:List Expr}{k:Nat}{g:TGs}{u:AGs}{n:Nat}{ts:List Nat}(hc:X.calm=true)(h:APGs X ts es g u)(hn:(assignEach es X.env).length=n:=by rfl)(hst:(assignEach es X.env).findIdx? (·.1)=none:=by rfl):APG X ts (.Tuple es k pos) (gTup K' n g) (agTup n u):=by
 subst hK
 exact ag_tup (hc:=hc) (h:=h) (hn:=hn) (hst:=hst)
abbrev AI:=List Sl->(List PyData->List Sl->Prop)->Prop
structure WalkD(J:It)(F:Hp)(ds:List PyData):Prop where
 go:∀F2 H2 i,Ex F F2->Ex F2 H2->i<ds.length->J.go i H2
 stop:∀F2 H2,Ex F F2->Ex F2 H2->J.stop ds.length H2
 yld:∀F2 H2 i x H3,Ex F F2->Ex F2 H2->i<ds.length->J.yld i H2 x H3 ->∃F3 d,ds[i]? =some d/\Tr F2 H2 [] F3 H3 []/\Ex F3 H3/\Rp F3 x d
def SimI(wi:TI)(t:AI):Prop :=∀{σ:St} {env:List Sl} {F H:Hp} {fp:List Addr} (R:It->Hp->Prop) (P:List PyData->List Sl->Prop),Ok F H σ env fp->t env P ->
 (∀J ds env' F' H' fp',Tr F H fp F' H' fp'->Ok F' H' σ env' fp'->WalkD J F' ds->P ds env'->R J H')->wi σ H R
structure API(X:Cx)(tg it:Expr)(wi:TI)(t:AI):Prop where
 pe:PI X tg it wi
 sm:SimI wi t
variable {tg e e2:Expr} {se:TE} {te:AD} {su:TA} {tu:AL}
theorem walkd_list{K:PySem.W.Frag}{F:Hp}{a:Addr}{xs:List V}{ds:List PyData}(h:F a=some (.lst xs))(r:Rps F xs ds):WalkD (Itl K a) F ds :=
 ⟨fun F2 H2 i e1 e2 hi=>by
  obtain⟨v,hv,_⟩:=r.get (List.getElem?_eq_getElem hi)
  exact⟨xs,v,SqL.of (e2 _ _ (e1 _ _ h)),hv⟩,fun F2 H2 e1 e2=>⟨xs,SqL.of (e2 _ _ (e1 _ _ h)),by rw [r.len];exact Nat.le_refl _⟩,fun F2 H2 i x H3 e1 e2 hi y=>by
  obtain⟨rfl,y⟩:=y
  have hx:=y xs (SqL.of (e2 _ _ (e1 _ _ h)))
  obtain⟨d,hd,rv⟩:=r.getV hx
  exact⟨F2,d,hd,tr0,e2,rv.up e1⟩⟩
theorem walkd_tup{K:PySem.W.Frag}{F:Hp}{a:Addr}{xs:List V}{ds:List PyData}(h:F a=some (.tup xs))(r:Rps F xs ds):WalkD (Itt K a) F ds :=
 ⟨fun F2 H2 i e1 e2 hi=>by
  obtain⟨v,hv,_⟩:=r.get (List.getElem?_eq_getElem hi)
  exact⟨xs,v,SqT.of (e2 _ _ (e1 _ _ h)),hv⟩,fun F2 H2 e1 e2=>⟨xs,SqT.of (e2 _ _ (e1 _ _ h)),by rw [r.len];exact Nat.le_refl _⟩,fun F2 H2 i x H3 e1 e2 hi y=>by
  obtain⟨rfl,y⟩:=y
  have hx:=y xs (SqT.of (e2 _ _ (e1 _ _ h)))
  obtain⟨d,hd,rv⟩:=r.getV hx
  exact⟨F2,d,hd,tr0,e2,rv.up e1⟩⟩
def rgD(lo:Int)(n:Nat):List PyData:=(List.range n).map fun(i:Nat) => .int (lo+i)
theorem rgD_len(lo:Int)(n:Nat):(rgD lo n).length=n:=by unfold rgD;rw [List.length_map,List.length_range]
theorem rgD_get(lo:Int){n i:Nat}(h:i<n):(rgD lo n)[i]? =some (.int (lo+i)):=by unfold rgD;rw [List.getElem?_map,List.getElem?_range h];rfl
theorem walkd_range{F:Hp}{lo:Int}{n:Nat}:WalkD (Itr lo n) F (rgD lo n) :=
 ⟨fun F2 H2 i e1 e2 hi=>by rw [rgD_len]at hi;exact hi,fun F2 H2 e1 e2=>by rw [rgD_len];exact Nat.le_refl _,fun F2 H2 i x H3 e1 e2 hi y=>by
  rw [rgD_len]at hi
  obtain⟨rfl,rfl⟩:=y
  exact⟨F2,_,rgD_get lo hi,tr0,e2,.int _⟩⟩
def rgOk(i:Int):Prop := -(2^62)<=i/\i<2^62
def aiRng1(tu:AL):AI:=fun env P=>tu env fun ds e=>match ds with
 | [.int j]=>rgOk j/\P (rgD 0 j.toNat) e
 | _=>False
theorem ai_range1{a:Expr}{p:Pos}(hg:Gl X "range")(hm:X.mg "range" =none)(ha:APA X [a] su tu)(hs:starEach [a] X.env = [(false,eval a X.env)]:=by rfl):API X tg (.Call (.Name "range" p) [a] [] pos) (iRng1 su) (aiRng1 tu):=⟨pi_range1 hg hm ha.pe hs,fun R P ok h q=>ha.sm _ _ ok h fun vs ds env' F' H' fp' t ok' r h'=>by
 match ds,r,h' with
 | [.int j],r,h' =>
  obtain⟨v,rfl,r1⟩:=rps1 r
  cases r1
  exact⟨j,rfl,h'.1.1,h'.1.2,q _ _ _ _ _ _ t ok' walkd_range h'.2⟩⟩
def signs(z:Str):List PyData:=z.cps.toList.map fun c => .str ⟨#[c]⟩
def aiStr(te:AD):AI:=fun env P=>te env fun d e=>match d with
 | .str z=>P (signs z) e
 | _=>False
theorem signs_len(z:Str):(signs z).length=z.cps.size:=by unfold signs;rw [List.length_map,Array.length_toList]
theorem walkd_str{F:Hp}{z:Str}:WalkD (Its z) F (signs z) :=
 ⟨fun F2 H2 i e1 e2 hi=>by rw [signs_len]at hi;exact hi,fun F2 H2 e1 e2=>by rw [signs_len];exact Nat.le_refl _,fun F2 H2 i x H3 e1 e2 hi y=>by
  obtain⟨rfl,c,hc,rfl⟩:=y
  refine⟨F2,_, ?_,tr0,e2,.str ⟨#[c]⟩⟩
  unfold signs
  rw [List.getElem?_map,Array.getElem?_toList,hc]
  rfl⟩
def pairs(f g:Nat->Option PyData)(n:Nat):List PyData:=(List.range n).map fun i => .tuple [(f i).getD .none,(g i).getD .none]
def enumD(ds:List PyData):List PyData:=ds.zipIdx.map fun p => .tuple [.int (p.2:Nat),p.1]
def zipD(ds es:List PyData):List PyData:=(ds.zip es).map fun p => .tuple [p.1,p.2]
theorem enumD_get{ds:List PyData}{i:Nat}{d:PyData}(h:ds[i]? =some d):(enumD ds)[i]? =some (.tuple [.int (i:Nat),d]):=by
 unfold enumD
 rw [List.getElem?_map,List.getElem?_zipIdx,h]
 simp
theorem zipD_get{ds es:List PyData}{i:Nat}{d e:PyData}(h:ds[i]? =some d)(k:es[i]? =some e):(zipD ds es)[i]? =some (.tuple [d,e]):=by
 unfold zipD
 rw [List.getElem?_map,(List.getElem?_zip_eq_some (z:=(d,e))).mpr ⟨h,k⟩]
 rfl
theorem walkd_enum{K:PySem.W.Frag}{F:Hp}{a:Addr}{xs:List V}{ds:List PyData}(h:F a=some (.lst xs))(r:Rps F xs ds):WalkD (Ite K a) F (enumD ds):=by
 have hl:(enumD ds).length=ds.length:=by unfold enumD;rw [List.length_map,List.length_zipIdx]
 refine⟨fun F2 H2 i e1 e2 hi => ?_,fun F2 H2 e1 e2=>⟨xs,SqL.of (e2 _ _ (e1 _ _ h)),by rw [r.len,hl];exact Nat.le_refl _⟩,fun F2 H2 i x H3 e1 e2 hi y => ?_⟩
 ·obtain⟨v,hv,_⟩:=r.get (List.getElem?_eq_getElem (hl ▸ hi))
  exact⟨xs,v,SqL.of (e2 _ _ (e1 _ _ h)),hv⟩
 ·obtain⟨T,y,rfl,hT,rfl,hy⟩:=y
  have hx:=hy xs (SqL.of (e2 _ _ (e1 _ _ h)))
  obtain⟨d,hd,rv⟩:=r.getV hx
  obtain⟨t,x⟩:=tr_new (o := .tup [.int (i:Nat),y]) hT e2
  exact⟨_,_,enumD_get hd,t,x,.tup upd_same (.cons (.int _) (.one ((rv.up e1).up t.ex)))⟩
theorem walkd_zip{K:PySem.W.Frag}{F:Hp}{a b:Addr}{xs ys:List V}{ds es:List PyData}(h:F a=some (.lst xs))(r:Rps F xs ds)(h2:F b=some (.lst ys))(r2:Rps F ys es):WalkD (Itz K a b) F (zipD ds es):=by
 have hl:(zipD ds es).length=min ds.length es.length:=by unfold zipD;rw [List.length_map,List.length_zip]
 refine⟨fun F2 H2 i e1 e2 hi => ?_,fun F2 H2 e1 e2=>⟨xs,ys,SqL.of (e2 _ _ (e1 _ _ h)),SqL.of (e2 _ _ (e1 _ _ h2)),by rw [r.len,r2.len,hl];omega⟩,fun F2 H2 i x H3 e1 e2 hi y => ?_⟩
 ·rw [hl]at hi
  obtain⟨v,hv,_⟩:=r.get (List.getElem?_eq_getElem (show i<ds.length by omega))
  obtain⟨w,hw,_⟩:=r2.get (List.getElem?_eq_getElem (show i<es.length by omega))
  exact⟨xs,ys,v,w,SqL.of (e2 _ _ (e1 _ _ h)),SqL.of (e2 _ _ (e1 _ _ h2)),hv,hw⟩
 ·obtain⟨T,y,z,rfl,hT,rfl,hy,hz⟩:=y
  obtain⟨d,hd,rv⟩:=r.getV (hy xs (SqL.of (e2 _ _ (e1 _ _ h))))
  obtain⟨d2,hd2,rv2⟩:=r2.getV (hz ys (SqL.of (e2 _ _ (e1 _ _ h2))))
  obtain⟨t,x⟩:=tr_new (o := .tup [y,z]) hT e2
  exact⟨_,_,zipD_get hd hd2,t,x,.tup upd_same (.cons ((rv.up e1).up t.ex) (.one ((rv2.up e1).up t.ex)))⟩
def forL(g:AG)(tb:ATS)(A:AEnds):List PyData->List Sl->Prop
 | [],env=>A.nx env
 | d::ds,env=>g d env fun e2=>tb { A with nx:=forL g tb A ds,ct:=forL g tb A ds,bk:=A.nx } e2
def aFor(ti:AI)(g:AG)(tb:ATS):ATS:=fun A env=>ti env fun ds e=>forL g tb A ds e
theorem as_for{iter:Expr}{body:List Stmt}{wi:TI}{ti:AI}{g:TG}{tg':AG}{sb:TS}{tb:ATS}{ts:List Nat}(hp:PassesOwn (model X.prog X.w) X.A X.env X.xe)(hc:X.calm=true)(hi:API X tg iter wi ti)(hg:APG X ts tg g tg')(hb:ASs X ks body sb tb)(hk:∀i∈ks,i∉ts:=by decide)
  (hs:∀x,foldedSetIterable iter X.env x=pure x:=by intro _;rfl):AS X ks (.For tg iter body [] pos) (tFor wi g sb) (aFor ti tg' tb):=⟨ps_for hp hc hi.pe hg.pe hb.pe hs,by
 intro σ env F H fp D A ok h q
 refine hi.sm _ _ ok h fun J ds env1 F1 H1 fp1 t1 ok1 w h1 => ?_
 refine⟨fun i m σ2 H2=>m=ds.length-i/\i<=ds.length /\∃env2 F2 fp2,Tr F1 H1 fp1 F2 H2 fp2/\Ok F2 H2 σ2 env2 fp2/\Kept ks σ σ2/\forL tg' tb A (ds.drop i) env2,⟨ds.length,by simp,Nat.zero_le _,env1,F1,fp1,Tr.refl,ok1,Kept.refl,h1⟩, ?_⟩
 rintro i m σ2 H2 ⟨rfl,hi,env2,F2,fp2,t2,ok2,k2,h2⟩
 by_cases hlt:i<ds.length
 ·refine .inr ⟨w.go F2 H2 i t2.ex ok2.ex hlt,fun σ3 H3 =>∃env3 F3 fp3,Tr F1 H1 fp1 F3 H3 fp3/\Ok F3 H3 σ3 env3 fp3/\Kept ks σ σ3/\forL tg' tb A (ds.drop (i+1)) env3,fun σ3 H3 ⟨env3,F3,fp3,t3,ok3,k3,h3⟩=>⟨ds.length-(i+1),by omega,rfl,hlt,env3,F3,fp3,t3,ok3,k3,h3⟩,fun x H3 y => ?_⟩
  obtain⟨F3,d,hd,t3,x3,r3⟩:=w.yld F2 H2 i x H3 t2.ex ok2.ex hlt y
  obtain⟨ok3,t3'⟩:=ok2.pure t3 x3
  have e:ds.drop i=d::ds.drop (i+1):=by
   rw [List.drop_eq_getElem_cons hlt]
   rw [List.getElem?_eq_getElem hlt]at hd
   cases hd
   rfl
  rw [e]at h2
  refine hg.sm _ _ ok3 r3 h2 fun σ4 env4 F4 H4 fp4 t4 ok4 k4 h4 => ?_
  have tt:=(t2.trans t3').trans t4
  have kk:=k2.trans (k4.kept hk)
  refine hb.sm _ _ ok4 h4 ⟨fun σ5 env5 F5 H5 fp5 t5 ok5 k5 h5=>⟨env5,F5,fp5,tt.trans t5,ok5,kk.trans k5,h5⟩,fun σ5 env5 F5 H5 fp5 t5 ok5 k5 h5 => ?_,fun σ5 env5 F5 H5 fp5 t5 ok5 k5 h5=>⟨env5,F5,fp5,tt.trans t5,ok5,kk.trans k5,h5⟩,fun v r σ5 env5 F5 H5 fp5 t5 ok5 k5 h5 => ?_⟩
  ·exact q.nx _ _ _ _ _ ((t1.trans tt).trans t5) ok5 (kk.trans k5) h5
  ·exact q.rt _ _ _ _ _ _ _ ((t1.trans tt).trans t5) ok5 (kk.trans k5) h5
 ·have e:i=ds.length:=by omega
  subst e
  rw [List.drop_length]at h2
  exact .inl ⟨w.stop F2 H2 t2.ex ok2.ex,q.nx _ _ _ _ _ (t1.trans t2) ok2 k2 h2⟩⟩
end
end
section
def wipeE(env:List Sl):List Nat->List Sl
 | []=>env
 | v::vs=>(wipeE env vs).set v .non
def keepD(e0:List Sl)(v:Nat):Sl:=match e0[v]? with
 | some (.dat d) => .dat d
 | _ => .non
def backE(e0:List Sl):List Nat->List Sl->List Sl
 | [],e=>e
 | v::vs,e=>backE e0 vs (e.set v (keepD e0 v))
def backS(s0:St):List Nat->St->St
 | [],e=>e
 | v::vs,e=>backS s0 vs (e.set v (s0.getD v none))
theorem set_big{α:Type}{l:List α}{i:Nat}{x:α}(h:l.length<=i):l.set i x=l:=List.set_eq_of_length_le h
theorem Ok.wipe{F H:Hp}{σ:St}{env:List Sl}{fp:List Addr}(ok:Ok F H σ env fp):∀vs:List Nat,∃fp',Ok F H (wipe σ vs) (wipeE env vs) fp'/\Tr F H fp F H fp'
 | []=>⟨fp,ok,Tr.refl⟩
 | v::vs=>by
  obtain⟨fp1,ok1,t1⟩:=ok.wipe vs
  by_cases hv:v<(wipeE env vs).length
  ·obtain⟨fp2,ok2,t2⟩:=ok1.putNon (x':=none) hv
   exact⟨fp2,ok2,t1.trans t2⟩
  ·refine⟨fp1, ?_,t1⟩
   show Ok F H ((L2.wipe σ vs).set v none) ((wipeE env vs).set v .non) fp1
   have el:=ok1.env.len
   rw [set_big (show (L2.wipe σ vs).length<=v by omega),set_big (show (wipeE env vs).length<=v by omega)]
   exact ok1
theorem backS_get(s0:St):∀(vs:List Nat) (s:St),s.length=s0.length->(∀i,i∉vs->s[i]? =s0[i]?)->backS s0 vs s=s0
 | [],s,hl,h=>List.ext_getElem? fun i=>h i (by simp)
 | v::vs,s,hl,h=>by
  show backS s0 vs (s.set v (s0.getD v none))=s0
  refine backS_get s0 vs _ (by rw [List.length_set];exact hl) fun i hi => ?_
  by_cases e:v=i
  ·subst e
   by_cases hv:v<s.length
   ·rw [List.getElem?_set_self hv,List.getD_eq_getElem?_getD,List.getElem?_eq_getElem (by omega)]
    rfl
   ·rw [List.getElem?_eq_none (by rw [List.length_set];omega),List.getElem?_eq_none (by omega)]
  ·rw [List.getElem?_set_ne e]
   exact h i fun m=>(List.mem_cons.mp m).elim (fun z=>e z.symm) hi
theorem Ok.back{F0 F H H0:Hp}{σ0:St}{env0:List Sl}{fp0:List Addr}(ok0:Ok F0 H0 σ0 env0 fp0)(ex:Ex F0 F):∀(vs:List Nat) {σ:St} {env:List Sl} {fp:List Addr},Ok F H σ env fp ->∃fp',Ok F H (backS σ0 vs σ) (backE env0 vs env) fp'/\Tr F H fp F H fp'
 | [],σ,env,fp,ok=>⟨fp,ok,Tr.refl⟩
 | v::vs,σ,env,fp,ok=>by
  have one:∃fp1,Ok F H (σ.set v (σ0.getD v none)) (env.set v (keepD env0 v)) fp1/\Tr F H fp F H fp1:=by
   by_cases hv:v<env.length
   ·unfold keepD
    split
    ·rename_i d e
     obtain⟨x,fi,fr,e1,hs,_⟩:=ok0.env.at e
     cases hs with
     | dat r =>
      rw [List.getD_eq_getElem?_getD,e1]
      exact ok.put hv (r.up ex)
    ·exact ok.putNon hv
   ·have el:=ok.env.len
    rw [set_big (show σ.length<=v by omega),set_big (show env.length<=v by omega)]
    exact⟨fp,ok,Tr.refl⟩
  obtain⟨fp1,ok1,t1⟩:=one
  obtain⟨fp2,ok2,t2⟩:=Ok.back ok0 ex vs ok1
  exact⟨fp2,ok2,t1.trans t2⟩
def lcL(g:AG)(tt:AT)(te:AD)(vs:List Nat)(K:List PyData->List Sl->Prop):List PyData->List PyData->List Sl->Prop
 | [],acc,env=>K acc env
 | d::ds,acc,env=>g d (wipeE env vs) fun e2=>tt e2 fun b e3=>(b=true->te e3 fun y e4=>acc.length<sizeLine/\lcL g tt te vs K ds (acc ++ [y]) e4)/\(b=false->lcL g tt te vs K ds acc e3)
def aLc(ti:AI)(g:AG)(tt:AT)(te:AD)(vs:List Nat):AO:=fun env P=>ti env fun ds e0=>lcL g tt te vs (fun acc e=>P (.lst acc) (backE e0 vs e)) ds [] e0
theorem wipe_eq_of{σ σ':St}{vs:List Nat}(hl:σ'.length=σ.length)(h:∀i,i∉vs->σ'[i]? =σ[i]?):wipe σ' vs=wipe σ vs:=by
 apply List.ext_getElem?
 intro i
 by_cases hi:i∈vs
 ·have go:∀(s:St) (vs:List Nat),i∈vs->(wipe s vs)[i]? =if i<s.length then some none else none:=by
   intro s vs
   induction vs with
   | nil=>intro h;simp at h
   | cons v vs ih =>
    intro h
    show ((wipe s vs).set v none)[i]? =_
    by_cases e:v=i
    ·subst e
     by_cases hv:v<s.length
     ·rw [List.getElem?_set_self (by rw [wipe_length];exact hv),if_pos hv]
     ·rw [List.getElem?_eq_none (by rw [List.length_set,wipe_length];omega),if_neg hv]
    ·rw [List.getElem?_set_ne e]
     exact ih ((List.mem_cons.mp h).elim (fun z=>absurd z.symm e) id)
  rw [go _ _ hi,go _ _ hi,hl]
 ·rw [wipe_out hi,wipe_out hi]
  exact h i hi
theorem sim_lc{wi:TI}{ti:AI}{g:TG}{ag:AG}{tt:TT}{at':AT}{te:TE}{ae:AD}{vs ts:List Nat}(hi:SimI wi ti)(hg:SimG ts g ag)(ht:SimT tt at')(he:SimE te ae)(hts:∀i∈ts,i∈vs):SimO (tLc wi g tt te vs) (aLc ti ag at' ae vs):=by
 intro σ env F H fp Q P ok h q
 refine hi _ _ ok h fun J ds env1 F1 H1 fp1 t1 ok1 w h1 => ?_
 intro D hD
 have D1:F1 D=none:=ok1.ex.none hD
 have Df:D∉fp1:=fun m=>ok1.env.there D m hD
 refine⟨fun i m H2=>m=ds.length-i/\i<=ds.length /\∃σ2 env2 F2 fp2 acc xs,Tr F1 H1 fp1 F2 H2 fp2/\Ok F2 H2 σ2 env2 fp2/\σ2.length=σ.length/\(∀j,j∉vs->σ2[j]? =σ[j]?)/\H2 D=some (.lst xs)/\Rps F2 xs acc/\F2 D=none/\D∉fp2/\lcL ag at' ae vs (fun acc e=>P (.lst acc) (backE env1 vs e)) (ds.drop i) acc env2, ?_, ?_⟩
 ·obtain⟨tn,xn⟩:=tr_newO (o := .lst []) hD ok1.ex
  obtain⟨okn,tn'⟩:=ok1.pure tn xn
  exact⟨ds.length,by simp,Nat.zero_le _,σ,env1,F1,fp1,[],[],tn',okn,rfl,fun _ _=>rfl,upd_same,.nil,D1,Df,h1⟩
 ·rintro i m H2 ⟨rfl,hi,σ2,env2,F2,fp2,acc,xs,t2,ok2,l2,k2,hD2,r2,fD2,nD2,h2⟩
  by_cases hlt:i<ds.length
  ·refine .inr ⟨w.go F2 H2 i t2.ex ok2.ex hlt,fun H3 =>∃σ2 env2 F2 fp2 acc xs,Tr F1 H1 fp1 F2 H3 fp2/\Ok F2 H3 σ2 env2 fp2/\σ2.length=σ.length/\(∀j,j∉vs->σ2[j]? =σ[j]?)/\H3 D=some (.lst xs)/\Rps F2 xs acc/\F2 D=none/\D∉fp2/\lcL ag at' ae vs (fun acc e=>P (.lst acc) (backE env1 vs e)) (ds.drop (i+1)) acc env2,
    fun H3 hh=>⟨ds.length-(i+1),by omega,rfl,hlt,hh⟩,fun x H3 y => ?_⟩
   obtain⟨F3,d,hd,t3,x3,r3⟩:=w.yld F2 H2 i x H3 t2.ex ok2.ex hlt y
   obtain⟨ok3,t3'⟩:=ok2.pure t3 x3
   obtain⟨fp4,ok4,t4⟩:=ok3.wipe vs
   have ew:wipe σ2 vs=wipe σ vs:=wipe_eq_of l2 k2
   rw [ew]at ok4
   have e:ds.drop i=d::ds.drop (i+1):=by
    rw [List.drop_eq_getElem_cons hlt]
    rw [List.getElem?_eq_getElem hlt]at hd
    cases hd
    rfl
   rw [e]at h2
   refine hg _ _ ok4 r3 h2 fun σ5 env5 F5 H5 fp5 t5 ok5 k5 h5 => ?_
   have agree:∀j,j∉vs->σ5[j]? =σ[j]? :=fun j hj=>(k5.2 j fun z=>hj (hts j z)).trans (wipe_out hj)
   have len5:σ5.length=σ.length:=k5.1.trans (wipe_length σ vs)
   refine⟨(wipe_eq_of len5 agree),ht _ _ ok5 h5 fun b env6 F6 H6 fp6 t6 ok6 h6 => ?_⟩
   have tt:=((t3'.trans t4).trans t5).trans t6
   obtain⟨q1,q2,q3⟩:=tt.keeps (fq :=[D]) (fun a ha=>by simp at ha;subst ha;exact nD2) (fun a ha=>by simp at ha;subst ha;rw [hD2];exact fun z=>by cases z) (fun a ha=>by simp at ha;subst ha;exact fD2)
   have hD6:=q1 D (by simp) _ hD2
   have nD6:=q2 D (by simp)
   have fD6:=q3 D (by simp)
   cases b with
   | true =>
    rw [if_pos rfl]
    refine he _ _ ok6 (h6.1 rfl) fun v y env7 F7 H7 fp7 t7 ok7 r7 h7 => ?_
    obtain⟨p1,p2,p3⟩:=t7.keeps (fq :=[D]) (fun a ha=>by simp at ha;subst ha;exact nD6) (fun a ha=>by simp at ha;subst ha;rw [hD6];exact fun z=>by cases z) (fun a ha=>by simp at ha;subst ha;exact fD6)
    have hD7:=p1 D (by simp) _ hD6
    have nD7:=p2 D (by simp)
    have fD7:=p3 D (by simp)
    have rr:Rps F7 (xs ++ [v]) (acc ++ [y]):=((r2.up tt.ex).up t7.ex).app (.one r7)
    refine⟨xs,hD7,by rw [r2.len];exact h7.1,σ5,env7,F7,fp7,acc ++ [y],xs ++ [v], ?_, ?_,len5,agree,upd_same,rr,fD7,nD7,h7.2⟩
    ·have tall:=(t2.trans tt).trans t7
     refine⟨tall.ex,fun b u z n => ?_,tall.nw,tall.nf⟩
     have:b≠D:=fun e=>by rw [e,hD]at z;cases z
     rw [upd_ne this]
     exact tall.kp b u z n
    ·refine⟨fun b u z => ?_,ok7.env.mono (Ex.refl F7) fun b hb u z => ?_,ok7.fr⟩
     ·have:b≠D:=fun e=>by rw [e,fD7]at z;cases z
      rw [upd_ne this]
      exact ok7.ex b u z
     ·have:b≠D:=fun e=>nD7 (e ▸ hb)
      rw [upd_ne this]
      exact z
   | false =>
    rw [if_neg Bool.false_ne_true]
    exact⟨σ5,env6,F6,fp6,acc,xs,t2.trans tt,ok6,len5,agree,hD6,r2.up tt.ex,fD6,nD6,h6.2 rfl⟩
  ·have e:i=ds.length:=by omega
   subst e
   rw [List.drop_length]at h2
   refine .inl ⟨w.stop F2 H2 t2.ex ok2.ex, ?_⟩
   obtain⟨fp3,ok3,t3⟩:=Ok.back ok1 t2.ex vs ok2
   rw [backS_get σ vs σ2 l2 k2]at ok3
   refine q D (.lst acc) _ F2 H2 fp3 [D] (t1.trans (t2.trans t3)) ok3 ⟨rfl,xs,hD2,r2⟩ (fun b hb => ?_) h2
   have e:b=D:=by simpa using hb
   subst e
   refine⟨fD2,fun m => ?_,t1.back hD⟩
   rcases t3.nf b m with z | z
   ·exact nD2 z
   ·rw [hD2]at z;cases z
structure APTs(X:Cx)(ifs:List Expr)(te:TT)(t:AT):Prop where
 pe:PTs X ifs te
 sm:SimT te t
def aYes:AT:=fun env P=>P true env
section
variable {X:Cx} {ks:List Nat}
theorem ats_nil:APTs X [] tYes aYes:=⟨pts_nil,fun Q P ok h q=>q _ _ _ _ _ Tr.refl ok h⟩
theorem ao_lc{elt tg iter:Expr}{ifs:List Expr}{scope:Scope}{own:List (Str×Nat)}{pos:Pos}{wi:TI}{ti:AI}{g:TG}{ag:AG}{tt:TT}{at':AT}{te:TE}{ae:AD}{ts:List Nat}(hc:X.calm=true)(hN:X.N.Nodup)(hi:API X tg iter wi ti)(ok:BlkOk X.N X.env.scope scope own)
  (hg:∀(s:Shared) (H:Hp) (C:Addr) (cl:List (Str×Addr)) (fp:List Addr),APG (X.blk s H scope (compEnvC scope cl C X.env) fp) ts tg g ag) (ht:∀(s:Shared) (H:Hp) (C:Addr) (cl:List (Str×Addr)) (fp:List Addr),APTs (X.blk s H scope (compEnvC scope cl C X.env) fp) ifs tt at')
  (he:∀(s:Shared) (H:Hp) (C:Addr) (cl:List (Str×Addr)) (fp:List Addr),AE (X.blk s H scope (compEnvC scope cl C X.env) fp) elt te ae) (hts:∀i∈ts,i∈own.map (·.2):=by decide) (hs:∀x,foldedSetIterable iter X.env x=pure x:=by intro _;rfl) :
  AEO X (.ListComp elt [⟨tg,iter,ifs,0⟩] scope pos) (tLc wi g tt te (own.map (·.2))) (aLc ti ag at' ae (own.map (·.2))) :=
 ⟨pe_lc hc hN hi.pe ok (fun s H C cl fp=>(hg s H C cl fp).pe) (fun s H C cl fp=>(ht s H C cl fp).pe) (fun s H C cl fp=>(he s H C cl fp).pe) hs,
  fun Q P okk h q=>sim_lc hi.sm (hg {} (fun _=>none) 0 [] []).sm (ht {} (fun _=>none) 0 [] []).sm (he {} (fun _=>none) 0 [] []).sm hts Q P okk h q⟩
end
end
section
structure RoomG(k:Nat)(A:Around):Prop where
 r:Room k A
 g:A.guards=some []
theorem RoomG.mono{j k:Nat}{A:Around}(r:RoomG k A)(h:j<=k):RoomG j A:=⟨r.r.mono h,r.g⟩
theorem RoomG.deeper{k:Nat}{A:Around}(r:RoomG (k+1) A)(env:Env):RoomG k (A.deeper env):=⟨r.r.deeper env,r.g⟩
theorem RoomG.u64{k:Nat}{A:Around}(r:RoomG k A):A.units+64<cLine:=by have:=r.r.un;omega
structure FnG(Pr:Program)(wo:World)(K:PySem.W.Frag)(gl:Str->Option Value)(hb:Heap)(CX:CXT)(lv:Nat)(fa:Addr)(fd:FuncData)(ps:List Str)(pm:Sp):Prop where
 len:∀xs H Q E,pm xs H Q E->xs.length=ps.length
 run:∀(A:Around) (fr:List Env) (st:Shared) (H:Hp) (ar:Args) (ys:List Value) (xs:List V) (Q:VK) (E:XK),
  RoomG lv A->Env0 Pr wo K gl hb A fr st H->BindsTo st fd ar (ps.zip ys)->Vals xs ys->pm xs H Q E->codeAny (model Pr wo) A (.call (.ref fa) ar) (CR CX fr Pr wo H st Q E) st
section
variable {Pr:Program} {wo:World} {K:PySem.W.Frag} {gl:Str->Option Value} {hb:Heap} {CX:CXT} {lv:Nat} {fa:Addr} {fd:FuncData} {ps:List Str} {pm:Sp}
theorem fng_of{nm qu:Str}{pa:Arguments}{bo:List Stmt}{sc:Scope}{dV kV doc pmv cdv ct oc:Value}{an od:Option Addr}{osl:Array (Option Value)}{N:List Str}
  (lk:K.lookup fa=some ⟨oc,od,.func (PySem.W.fnOf nm qu pa bo sc dV kV doc pmv an cdv ct),osl⟩) (hcd:PySem.W.codeIn K cdv qu=true) (S:FnScope N ps sc) (len:∀xs H Q E,pm xs H Q E->xs.length=ps.length)
  (hbody:∀(A:Around) (fr:List Env) (st:Shared) (H:Hp) (xs:List V) (Q:VK) (E:XK),RoomG lv (A.deeper (envOfC qu sc st.heap.objs.size fa cdv))->pm xs H Q E ->
   ∃t,PSs (cxOf CX Pr wo K gl hb N qu sc fa cdv A fr st H E) bo t/\t { nx:=fun _ G=>Q .non G,rt:=Q } (start N xs) H):FnG Pr wo K gl hb CX (lv+1) fa (PySem.W.fnOf nm qu pa bo sc dV kV doc pmv an cdv ct) ps pm:=by
 refine⟨len,fun A fr st H ar ys xs Q E room e0 bi rv wish => ?_⟩
 have ln:=len _ _ _ _ wish
 have kin:K.In st.heap:=e0.mod.kin.keeps fun b o q=>(e0.bs b o q).1
 have nol:st.heap.NoLimit:=e0.mod.nolimit.keeps fun b o q=>(e0.bs b o q).1
 have kinds:∀q∈ps.zip ys,sc.names.lookup q.1=some .local∨(sc.names.lookup q.1=some .cell/\((cellsFrom (st.heap.objs.size+1) sc.names []).lookup q.1).isSome=true):=fun⟨n,v⟩ hq =>
  (S.par n (List.of_mem_zip hq).1).elim .inl fun z => .inr ⟨z,PySem.W.cellsFrom_some _ _ _ (.inl z)⟩
 refine codeAny_call_function room.r.depth (kin _ _ lk) rfl S.co S.gen rfl (PySem.W.codeRec_of kin hcd) (bi _ _ _ _ (wpAny_newFunctionEnv_cells S.kind kinds fun env he s1 x => ?_))
 subst he
 refine⟨nol.keeps x.toInCall.keep,codeAny_func ?_⟩
 obtain⟨t,ht,hq⟩:=hbody A fr st H xs Q E (room.deeper _) wish
 have I0:Inv (cxOf CX Pr wo K gl hb N qu sc fa cdv A fr st H E) [] (start N xs) H s1:=inv_start S room.r.hd e0 ln rv x
 refine wpAny_mono (ht.run [] s1 (start N xs) H _ I0 hq) (fun fl s2 hs => ?_) fun _ _ hs=>hs
 have fin:∀{σ2:St} {G:Hp} {v:V} {u:Value},Inv (cxOf CX Pr wo K gl hb N qu sc fa cdv A fr st H E) [] σ2 G s2->RelV v u->Q v G->CE fr Pr wo H st Q u s2:=fun {_ G v _} J r q=>⟨v,G,J.os,J.bare,J.base,J.hok,r,q⟩
 match fl,hs with
 | .ret u,⟨v,_,G,J,r,q⟩=>exact fin J r q
 | .next,⟨_,G,J,q⟩=>exact fin (v:=V.non) (u:=Value.none) J rfl q
 | .brk,⟨_,_,_,q⟩=>exact q.elim
 | .cont,⟨_,_,_,q⟩=>exact q.elim
theorem cr_ep{X:Cx}{pins:List (Addr×Obj)}{σ:St}{H:Hp}{st:Shared}{Q:VK}{E:XK}(hx:Passes CX X E)(I:Inv X pins σ H st):∀(r:Result) (s2:Shared),CR CX X.stack X.prog X.w H st Q E r s2 ->
  match r with
  | .ok (.ret u)=>EP X pins σ Q u s2
  | .ok _=>False
  | .error e=>X.xe e s2
 | .error e,s2,q=>hx pins σ H st e s2 I q
 | .ok (.ret _),_,q=>I.after q
 | .ok .next,_,q=>q
 | .ok .brk,_,q=>q
 | .ok .cont,_,q=>q
theorem call_end{X:Cx}{pins:List (Addr×Obj)}{σ:St}{H:Hp}{st:Shared}{Q:VK}{E:XK}{fv:Value}{ar:List Value}{kw:List (Str×Value)}(hx:Passes CX X E)(I:Inv X pins σ H st)
  (h:codeAny (model X.prog X.w) X.A (.call fv ⟨ar,kw⟩) (CR CX X.stack X.prog X.w H st Q E) st):wpAny (model X.prog X.w) X.A (call fv ar kw) (EP X pins σ Q) X.xe st:=by
 refine wpAny_call (codeAny_mono h fun r s2 q => ?_)
 have z:=cr_ep hx I r s2 q
 match r,z with
 | .error _,z=>exact z
 | .ok (.ret _),z=>exact z
section
variable {X:Cx} {E:XK} {x:Str} {p pos:Pos} {e:Expr} {es:List Expr} {t:TA} {dvs:List V} {ds:List Value}
theorem run_fng{pins:List (Addr×Obj)}{σ:St}{H:Hp}{st:Shared}{Q:VK}{us:List Value}{vs:List V}(F:FnG X.prog X.w X.K X.mg X.base CX lv fa fd ps pm)(hr:RoomG lv X.A)(hb:Binds X.K fd ps ds)(hd:Vals dvs ds)(hx:Passes CX X E)
  (I:Inv X pins σ H st) (r:Vals vs us) (h:pm (vs++dvs) H Q E):wpAny (model X.prog X.w) X.A (call (.ref fa) us) (EP X pins σ Q) X.xe st:=by
 have r2:=r.append hd
 exact call_end hx I (F.run X.A X.stack st H ⟨us,[]⟩ _ _ Q E hr I.env0 (hb st us I.kIn (r2.length.symm.trans (F.len _ _ _ _ h))) r2 h)
theorem peg_call(F:FnG X.prog X.w X.K X.mg X.base CX lv fa fd ps pm)(hr:RoomG lv X.A)(hg:Gl X x)(hm:X.mg x=some (.ref fa))(hk:PySem.W.keepIn X.K (.ref fa)=true)(hb:Binds X.K fd ps ds)(hd:Vals dvs ds)(hx:Passes CX X E)
  (ha:PA X (e::es) t) (hdb:(x==("__debug__" : Str))=false:=by decide) (he:starEach (e::es) X.env=(false,eval e X.env)::starEach es X.env:=by rfl)
  (hpl:(backTo pos (starEach es X.env)).any (·.1)=false:=by rfl):PE X (.Call (.Name x p) (e::es) [] pos) (tCall pm dvs E t) :=
 ⟨fun pins st σ H Q I h=>wpAny_Call_Name_kw (ld_glob I hg hm (PySem.W.callWith_K (h₀:=X.base) I.ok.mod.kin hk (thn (ha.run pos pins st σ H _ I h) fun us s1 ⟨vs,H1,I1,r,q⟩=>⟨I1.kIn,run_fng F hr hb hd hx I1 r q⟩) he hpl) hdb)⟩
variable {n:Nat} {ks:List Str} {kws:List Keyword} {tk:TA} {g:List Value->List Value->List Value} {gV:List V->List V->List V}
end
end
end
section
abbrev ASp:=List Sl->(Sl->List Sl->Prop)->Prop
def spA(R:ASp):Sp:=fun vs H Q _ =>∃F fp args P,Ok F H (vs.map some) args fp/\R args P /\
 ∀v r args' F' H' fp',Tr F H fp F' H' fp'->Ok F' H' (some v::vs.map some) (r::args') fp'->P r args'->Q v H'
def maskL(ks:List Nat):Nat->Nat->List Sl->List Sl
 | _,0,_ =>[]
 | o,n+1,s::env=>(if o∈ks then s else .non)::maskL ks (o+1) n env
 | o,n+1,[] => .non::maskL ks (o+1) n []
abbrev mask(ks:List Nat)(n:Nat)(env:List Sl):List Sl:=maskL ks 0 n env
theorem EnvAt.mask{F H:Hp}{ks:List Nat}:∀{σ:St} {env:List Sl} {fp:List Addr} (τ:St) (o:Nat),EnvAt F H σ env fp->(∀i∈ks,o<=i->i<o+τ.length->σ[i-o]? =τ[i-o]?) ->
  ∃fp',EnvAt F H τ (maskL ks o τ.length env) fp' /\∀a∈fp',a∈fp
 | _,_,_,[],o,_,_=>⟨[],.nil,fun _ h=>by simp at h⟩
 | _,_,_,y::τ,o,.nil,hk=>by
  have go:∀(τ:St) (o:Nat),EnvAt F H τ (maskL ks o τ.length []) []:=by
   intro τ
   induction τ with
   | nil=>intro o;exact .nil
   | cons y τ ih=>intro o;exact .cons (fp :=[]) .non (ih (o+1)) (fun _ h=>by simp at h)
  exact⟨[],go (y::τ) o,fun _ h=>h⟩
 | x::σ,s::env,_,y::τ,o,.cons (fp:=fp) (fq:=fq) h1 h2 h3,hk=>by
  obtain⟨fp',he,hs⟩:=EnvAt.mask τ (o+1) h2 fun i hi h1 h2=>by
   have e:=hk i hi (by omega) (by rw [List.length_cons];omega)
   have e1:i-o=(i-(o+1))+1:=by omega
   rw [e1]at e
   exact e
  by_cases hm:o∈ks
  ·have e:=hk o hm (Nat.le_refl _) (by rw [List.length_cons];omega)
   rw [Nat.sub_self]at e
   have e:x=y:=Option.some.inj e
   subst e
   refine⟨fp++fp', ?_,fun a ha => ?_⟩
   ·show EnvAt F H (x::τ) ((if o∈ks then s else .non)::_) _
    rw [if_pos hm]
    exact .cons h1 he fun a ha hb=>h3 a ha (hs a hb)
   ·exact(List.mem_append.mp ha).elim (List.mem_append_left _) fun z=>List.mem_append_right _ (hs a z)
  ·refine⟨fp', ?_,fun a ha=>List.mem_append_right _ (hs a ha)⟩
   show EnvAt F H (y::τ) ((if o∈ks then s else .non)::_) _
   rw [if_neg hm]
   exact .cons (fp :=[]) .non he (fun _ h=>by simp at h)
theorem EnvAt.start{F H:Hp}{vs:List V}{args:List Sl}{fp:List Addr}(h:EnvAt F H (vs.map some) args fp)(n:Nat):EnvAt F H (vs.map some++List.replicate n none) (args++List.replicate n .non) fp:=by
 have nons:∀n:Nat,EnvAt F H (List.replicate n none) (List.replicate n .non) []:=fun n=>by
  induction n with
  | zero=>exact .nil
  | succ n ih=>exact .cons (fp :=[]) .non ih (fun _ h=>by simp at h)
 generalize vs.map some=σ at h
 induction h with
 | nil=>exact nons n
 | cons h1 h2 h3 ih=>exact .cons h1 ih h3
inductive Arg where
 | dat (d:PyData)
 | bor (i:Nat)
 | own (o:MO)
 | scr (i:Nat)
inductive ArgsAt(F H:Hp)(σ:St):List V->List Arg->List Addr->Prop
 | nil:ArgsAt F H σ [] [] []
 | dat {v:V} {d:PyData} {vs:List V} {as:List Arg} {fo:List Addr}:Rp F v d->ArgsAt F H σ vs as fo->ArgsAt F H σ (v::vs) (.dat d::as) fo
 | bor {v:V} {i:Nat} {vs:List V} {as:List Arg} {fo:List Addr}:σ[i]? =some (some v)->ArgsAt F H σ vs as fo->ArgsAt F H σ (v::vs) (.bor i::as) fo
 | own {a:Addr} {o:MO} {vs:List V} {as:List Arg} {f1 fo:List Addr}:MoAt F H a o f1->ArgsAt F H σ vs as fo->(∀b∈f1,b∉fo)->ArgsAt F H σ (.ref a::vs) (.own o::as) (f1++fo)
 | scr {v:V} {i:Nat} {vs:List V} {as:List Arg} {fo:List Addr}:σ[i]? =some (some v)->ArgsAt F H σ vs as fo->ArgsAt F H σ (v::vs) (.scr i::as) fo
abbrev AAr:=List Sl->(List Arg->List Sl->Prop)->Prop
def SimAr(ta:TA)(t:AAr):Prop :=∀{σ:St} {env:List Sl} {F H:Hp} {fp:List Addr} (Q:List V->Hp->Prop) (P:List Arg->List Sl->Prop),Ok F H σ env fp->t env P ->
 (∀vs as env' F' H' fp' fo,Tr F H fp F' H' fp'->Ok F' H' σ env' fp'->ArgsAt F' H' σ vs as fo->(∀b∈fo,F' b=none/\b∉fp'/\(b∈fp∨H b=none))->P as env'->Q vs H')->ta σ H Q
structure APR(X:Cx)(es:List Expr)(te:TA)(t:AAr):Prop where
 pe:PA X es te
 sm:SimAr te t
def arNil:AAr:=fun env P=>P [] env
def arDat(t:AD)(u:AAr):AAr:=fun env P=>t env fun d e=>u e fun as e2=>P (.dat d::as) e2
def arBor(i:Nat)(u:AAr):AAr:=fun env P=>(ownAt i env)/\u env fun as e2=>P (.bor i::as) e2
def arOwn(t:AO)(u:AAr):AAr:=fun env P=>t env fun o e=>u e fun as e2=>P (.own o::as) e2
theorem sar_nil:SimAr tNil arNil:=fun Q P ok h q=>q _ _ _ _ _ _ [] Tr.refl ok .nil (fun _ hb=>by simp at hb) h
theorem sar_dat{se:TE}{t:AD}{su:TA}{tu:AAr}(ha:SimE se t)(hr:SimAr su tu):SimAr (tCons se su) (arDat t tu):=fun Q P ok h q=>ha _ _ ok h fun v d env' F' H' fp' t ok' r h' =>
 hr _ _ ok' h' fun vs as e2 F2 H2 fp2 fo t2 ok2 r2 hf h2=>q _ _ _ _ _ _ fo (t.trans t2) ok2 (.dat (r.up t2.ex) r2) (fun b hb=>⟨(hf b hb).1,(hf b hb).2.1,(hf b hb).2.2.elim (t.nf b) t.back⟩) h2
theorem sar_bor{i:Nat}{su:TA}{tu:AAr}(hr:SimAr su tu):SimAr (tCons (tVar i) su) (arBor i tu):=fun Q P ok h q=>by
 obtain⟨a,xs,e1,_⟩:=ok.ownV h.1
 exact⟨_,e1,hr _ _ ok h.2 fun vs as e2 F2 H2 fp2 fo t2 ok2 r2 hf h2=>q _ _ _ _ _ _ fo t2 ok2 (.bor e1 r2) hf h2⟩
def arScr(i:Nat)(u:AAr):AAr:=fun env P=>(∃K ns,env[i]? =some (.scr K ns))/\u env fun as e2=>P (.scr i::as) e2
theorem sar_scr{i:Nat}{su:TA}{tu:AAr}(hr:SimAr su tu):SimAr (tCons (tVar i) su) (arScr i tu):=fun Q P ok h q=>by
 obtain⟨K,ns,e⟩:=h.1
 obtain⟨x,fi,fr,e1,hs,_⟩:=ok.env.at e
 cases hs with
 | scr hh=>exact⟨_,e1,hr _ _ ok h.2 fun vs as e2 F2 H2 fp2 fo t2 ok2 r2 hf h2=>q _ _ _ _ _ _ fo t2 ok2 (.scr e1 r2) hf h2⟩
theorem sar_own{se:TE}{t:AO}{su:TA}{tu:AAr}(ha:SimO se t)(hr:SimAr su tu):SimAr (tCons se su) (arOwn t tu):=fun Q P ok h q=>ha _ _ ok h fun a o env' F' H' fp' f1 t ok' m hf1 h' =>
 hr _ _ ok' h' fun vs as e2 F2 H2 fp2 fo t2 ok2 r2 hf h2=>by
  have th:=m.there
  obtain⟨q1,q2,q3⟩:=t2.keeps (fq:=f1) (fun b hb=>(hf1 b hb).2.1) th (fun b hb=>(hf1 b hb).1)
  refine q _ _ _ _ _ _ (f1++fo) (t.trans t2) ok2 (.own (m.mono t2.ex q1) r2 fun b hb hc => ?_) (fun b hb => ?_) h2
  ·rcases(hf b hc).2.2 with z | z
   ·exact(hf1 b hb).2.1 z
   ·exact th b hb z
  ·rcases List.mem_append.mp hb with z | z
   ·exact⟨q3 b z,q2 b z,(hf1 b z).2.2⟩
   ·exact⟨(hf b z).1,(hf b z).2.1,(hf b z).2.2.elim (t.nf b) t.back⟩
section
variable {X:Cx} {e:Expr} {es:List Expr} {se:TE} {t:AD} {to:AO} {su:TA} {tu:AAr} {kws:List Keyword} {nm:Option Str} {kpos:Pos}
theorem ar_nil:APR X [] tNil arNil:=⟨pa_nil,sar_nil⟩
theorem ar_dat(ha:AE X e se t)(hr:APR X es su tu)(hs:starEach (e::es) X.env=(false,eval e X.env)::starEach es X.env:=by rfl):APR X (e::es) (tCons se su) (arDat t tu):=⟨pa_cons ha.pe hr.pe hs,sar_dat ha.sm hr.sm⟩
theorem ar_own(ha:AEO X e se to)(hr:APR X es su tu)(hs:starEach (e::es) X.env=(false,eval e X.env)::starEach es X.env:=by rfl):APR X (e::es) (tCons se su) (arOwn to tu):=⟨pa_cons ha.pe hr.pe hs,sar_own ha.sm hr.sm⟩
theorem ar_bor(i:Nat){x:Str}{px:Pos}(hr:APR X es su tu)(hN:X.N[i]? =some x:=by rfl)(hv:Vis X.env.scope x:=by first | exact Or.inl rfl | exact Or.inr (Or.inl rfl) | exact Or.inr (Or.inr rfl))(hd:(x==("__debug__" : Str))=false:=by decide)
  (hcd:(x==("__classdict__" : Str))=false:=by decide) (hs:starEach (.Name x px::es) X.env=(false,eval (.Name x px) X.env)::starEach es X.env:=by rfl):APR X (.Name x px::es) (tCons (tVar i) su) (arBor i tu):=⟨pa_cons (pe_var hN hv hd hcd) hr.pe hs,sar_bor hr.sm⟩
theorem ar_scr(i:Nat){x:Str}{px:Pos}(hr:APR X es su tu)(hN:X.N[i]? =some x:=by rfl)(hv:Vis X.env.scope x:=by first | exact Or.inl rfl | exact Or.inr (Or.inl rfl) | exact Or.inr (Or.inr rfl))(hd:(x==("__debug__" : Str))=false:=by decide)
  (hcd:(x==("__classdict__" : Str))=false:=by decide) (hs:starEach (.Name x px::es) X.env=(false,eval (.Name x px) X.env)::starEach es X.env:=by rfl):APR X (.Name x px::es) (tCons (tVar i) su) (arScr i tu):=⟨pa_cons (pe_var hN hv hd hcd) hr.pe hs,sar_scr hr.sm⟩
end
def grab:List Arg->List Sl->Option (List Sl×List Sl)
 | [],env=>some ([],env)
 | .dat d::as,env=>(grab as env).map fun p=>(.dat d::p.1,p.2)
 | .own o::as,env=>(grab as env).map fun p=>(.own o::p.1,p.2)
 | .bor i::as,env=>match env[i]? with
  | some (.own o)=>(grab as (env.set i .non)).map fun p=>(.own o::p.1,p.2)
  | _=>none
 | .scr i::as,env=>match env[i]? with
  | some (.scr K ns)=>(grab as env).map fun p=>(.scr K ns::p.1,p.2)
  | _=>none
def give:List Arg->List Sl->List Sl->List Sl
 | .bor i::as,s::ss,env=>give as ss (env.set i s)
 | _::as,_::ss,env=>give as ss env
 | _,_,env=>env
theorem grab_ok{F H:Hp}{σ:St}:∀{vs:List V} {as:List Arg} {fo:List Addr} {env:List Sl} {fp:List Addr} {xs e:List Sl},Ok F H σ env fp->ArgsAt F H σ vs as fo->(∀b∈fo,F b=none/\b∉fp)->grab as env=some (xs,e) ->
  ∃fa fe,EnvAt F H (vs.map some) xs fa/\Ok F H σ e fe/\(∀b∈fa,b∈fp∨b∈fo)/\(∀b∈fe,b∈fp)/\(∀b∈fa,b∉fe)
 | _,_,_,env,fp,xs,e,ok,.nil,hf,h=>by
  cases h
  exact⟨[],fp,.nil,ok,fun _ h=>by simp at h,fun _ h=>h,fun _ h=>by simp at h⟩
 | _,_,_,env,fp,xs,e,ok,.dat (d:=d) r t,hf,h=>by
  simp only [grab,Option.map_eq_some_iff]at h
  obtain⟨p,hp,e1⟩:=h
  cases e1
  obtain⟨fa,fe,h1,h2,h3,h4,h5⟩:=grab_ok ok t hf (show grab _ env=some (p.1,p.2)from hp)
  exact⟨fa,fe,.cons (fp :=[]) (.dat r) h1 (fun _ h=>by simp at h),h2,h3,h4,h5⟩
 | _,_,_,env,fp,xs,e,ok,.own (f1:=f1) (fo:=fo) m t hd,hf,h=>by
  simp only [grab,Option.map_eq_some_iff]at h
  obtain⟨p,hp,e1⟩:=h
  cases e1
  obtain⟨fa,fe,h1,h2,h3,h4,h5⟩:=grab_ok ok t (fun b hb=>hf b (List.mem_append_right _ hb)) (show grab _ env=some (p.1,p.2)from hp)
  refine⟨f1++fa,fe,.cons (.own m) h1 (fun b hb hc => ?_),h2,fun b hb => ?_,h4,fun b hb hc => ?_⟩
  ·rcases h3 b hc with z | z
   ·exact(hf b (List.mem_append_left _ hb)).2 z
   ·exact hd b hb z
  ·rcases List.mem_append.mp hb with z | z
   ·exact .inr (List.mem_append_left _ z)
   ·exact(h3 b z).imp id (List.mem_append_right _)
  ·rcases List.mem_append.mp hb with z | z
   ·exact(hf b (List.mem_append_left _ z)).2 (h4 b hc)
   ·exact h5 b z hc
 | _,_,_,env,fp,xs,e,ok,.bor (v:=v) (i:=i) e0 t,hf,h=>by
  simp only [grab]at h
  split at h
  ·rename_i o eo
   simp only [Option.map_eq_some_iff]at h
   obtain⟨p,hp,e1⟩:=h
   cases e1
   obtain⟨x,fi,fr,e2,hs,hm,hd,put⟩:=ok.env.at eo
   rw [e0]at e2
   cases e2
   obtain⟨fp',he,hm'⟩:=put F H (some v) .non [] (Ex.refl F) (fun _ _ _ u=>u) .non (fun _ hb=>by simp at hb)
   rw [set_same e0]at he
   have sub:∀b,b∈fp'->b∈fr:=fun b hb=>((hm' b).mp hb).elim (fun z=>by simp at z) id
   have okn:Ok F H σ (env.set i .non) fp':=⟨ok.ex,he,fun b hb=>ok.fr b ((hm b).mpr (.inr (sub b hb)))⟩
   obtain⟨fa,fe,h1,h2,h3,h4,h5⟩:=grab_ok okn t (fun b hb=>⟨(hf b hb).1,fun z=>(hf b hb).2 ((hm b).mpr (.inr (sub b z)))⟩) (show grab _ _=some (p.1,p.2)from hp)
   refine⟨fi++fa,fe,.cons hs h1 (fun b hb hc => ?_),h2,fun b hb => ?_,fun b hb=>(hm b).mpr (.inr (sub b (h4 b hb))),fun b hb hc => ?_⟩
   ·rcases h3 b hc with z | z
    ·exact hd b hb (sub b z)
    ·exact(hf b z).2 ((hm b).mpr (.inl hb))
   ·rcases List.mem_append.mp hb with z | z
    ·exact .inl ((hm b).mpr (.inl z))
    ·rcases h3 b z with y | y
     ·exact .inl ((hm b).mpr (.inr (sub b y)))
     ·exact .inr y
   ·rcases List.mem_append.mp hb with z | z
    ·exact hd b z (sub b (h4 b hc))
    ·exact h5 b z hc
  ·cases h
 | _,_,_,env,fp,xs,e,ok,.scr (v:=v) (i:=i) e0 t,hf,h=>by
  simp only [grab]at h
  split at h
  ·rename_i K ns eo
   simp only [Option.map_eq_some_iff]at h
   obtain⟨p,hp,e1⟩:=h
   cases e1
   obtain⟨x,fi,fr,e2,hs,hm,hd,put⟩:=ok.env.at eo
   rw [e0]at e2
   cases e2
   obtain⟨fa,fe,h1,h2,h3,h4,h5⟩:=grab_ok ok t hf (show grab _ env=some (p.1,p.2)from hp)
   cases hs with
   | scr hh=>exact⟨fa,fe,.cons (fp :=[]) (.scr hh) h1 (fun _ h=>by simp at h),h2,h3,h4,h5⟩
  ·cases h
theorem give_ok{F H:Hp}{σ:St}{F0 H0:Hp}:∀{vs:List V} {as:List Arg} {fo:List Addr} {ss e:List Sl} {fa fe:List Addr},ArgsAt F0 H0 σ vs as fo->EnvAt F H (vs.map some) ss fa->EnvAt F H σ e fe->(∀b∈fa,b∉fe) ->
  ∃fp,EnvAt F H σ (give as ss e) fp /\∀b∈fp,b∈fa∨b∈fe
 | _,_,_,ss,e,fa,fe,.nil,_,he,hd=>⟨fe,by cases ss <;> exact he,fun _ h => .inr h⟩
 | _,_,_,s::ss,e,_,fe,.dat r t,.cons (fp:=f1) (fq:=f2) h1 h2 h3,he,hd=>by
  obtain⟨fp,g1,g2⟩:=give_ok t h2 he fun b hb=>hd b (List.mem_append_right _ hb)
  exact⟨fp,g1,fun b hb=>(g2 b hb).imp (List.mem_append_right _) id⟩
 | _,_,_,s::ss,e,_,fe,.scr r t,.cons (fp:=f1) (fq:=f2) h1 h2 h3,he,hd=>by
  obtain⟨fp,g1,g2⟩:=give_ok t h2 he fun b hb=>hd b (List.mem_append_right _ hb)
  exact⟨fp,g1,fun b hb=>(g2 b hb).imp (List.mem_append_right _) id⟩
 | _,_,_,s::ss,e,_,fe,.own m t hd1,.cons (fp:=f1) (fq:=f2) h1 h2 h3,he,hd=>by
  obtain⟨fp,g1,g2⟩:=give_ok t h2 he fun b hb=>hd b (List.mem_append_right _ hb)
  exact⟨fp,g1,fun b hb=>(g2 b hb).imp (List.mem_append_right _) id⟩
 | _,_,_,s::ss,e,_,fe,.bor (v:=v) (i:=i) e0 t,.cons (fp:=f1) (fq:=f2) h1 h2 h3,he,hd=>by
  have one:∃fn,EnvAt F H σ (e.set i s) fn /\∀b∈fn,b∈f1∨b∈fe:=by
   by_cases hi:i<e.length
   ·obtain⟨x,fi,fr,e2,hs,hm,hdd,put⟩:=he.at (List.getElem?_eq_getElem hi)
    obtain⟨fp',he',hm'⟩:=put F H (some v) s f1 (Ex.refl F) (fun _ _ _ u=>u) h1 (fun b hb hc=>hd b (List.mem_append_left _ hb) ((hm b).mpr (.inr hc)))
    rw [set_same e0]at he'
    exact⟨fp',he',fun b hb=>((hm' b).mp hb).imp id fun z=>(hm b).mpr (.inr z)⟩
   ·rw [set_big (by omega)]
    exact⟨fe,he,fun _ h => .inr h⟩
  obtain⟨fn,hn,hsub⟩:=one
  obtain⟨fp,g1,g2⟩:=give_ok t h2 hn fun b hb hc=>by
   rcases hsub b hc with z | z
   ·exact h3 b z hb
   ·exact hd b (List.mem_append_right _ hb) z
  refine⟨fp,g1,fun b hb => ?_⟩
  rcases g2 b hb with z | z
  ·exact .inl (List.mem_append_right _ z)
  ·exact(hsub b z).imp (List.mem_append_left _) id
def Sl.data:Sl->Option PyData
 | .dat d=>some d
 | .own o=>o.data
 | _=>none
theorem call_sim{R:ASp}{σ:St}{F0 H0 F H:Hp}{fp0 fp fo:List Addr}{env:List Sl}{vs:List V}{as:List Arg}{xs e:List Sl}{Q:VK}{E:XK}{P:Sl->List Sl->Prop}(tr:Tr F0 H0 fp0 F H fp)(ok:Ok F H σ env fp)(ar:ArgsAt F H σ vs as fo)(hf:∀b∈fo,F b=none/\b∉fp/\(b∈fp0∨H0 b=none))
  (hg:grab as env=some (xs,e)) (hR:R xs fun r ys=>P r (give as ys e)) (q:∀v r env' F' H' fpv fp',Tr F0 H0 fp0 F' H' (fpv++fp')->Ok F' H' σ env' fp'->SlAt F' H' (some v) r fpv->(∀b∈fpv,F' b=none/\b∉fp')->P r env'->Q v H'):spA R vs H Q E:=by
 obtain⟨fa,fe,h1,h2,h3,h4,h5⟩:=grab_ok ok ar (fun b hb=>⟨(hf b hb).1,(hf b hb).2.1⟩) hg
 refine⟨F,fa,xs,_,⟨ok.ex,h1,fun b hb => ?_⟩,hR,fun v r ys F' H' fq t' ok' hp => ?_⟩
 ·rcases h3 b hb with z | z
  ·exact ok.fr b z
  ·exact(hf b z).1
 ·obtain⟨k1,k2,k3⟩:=t'.keeps (fq:=fe) (fun b hb hc=>h5 b hc hb) h2.env.there h2.fr
  have he':=ok'.env
  cases he' with
  | cons s1 s2 s3 =>
   rename_i fpv fys
   have hE:EnvAt F' H' σ e fe:=h2.env.mono t'.ex k1
   obtain⟨fpn,g1,g2⟩:=give_ok ar s2 hE fun b hb hc=>k2 b hc (List.mem_append_right _ hb)
   have fpn_fr:∀b∈fpn,F' b=none:=fun b hb=>(g2 b hb).elim (fun z=>ok'.fr b (List.mem_append_right _ z)) (k3 b)
   refine q v r _ F' H' fpv fpn ⟨tr.ex.trans t'.ex,fun b u z n => ?_,fun b z => ?_,fun b hb => ?_⟩ ⟨ok'.ex,g1,fpn_fr⟩ s1 (fun b hb=>⟨ok'.fr b (List.mem_append_left _ hb),fun hc => ?_⟩) hp
   ·refine t'.kp b u (tr.kp b u z n) fun hc => ?_
    rcases h3 b hc with y | y
    ·rcases tr.nf b y with w | w
     ·exact n w
     ·rw [z]at w;cases w
    ·rcases(hf b y).2.2 with w | w
     ·exact n w
     ·rw [z]at w;cases w
   ·rcases t'.nw b z with y | y | y
    ·exact tr.nw b y
    ·exact(tr.back y).elim (fun w => .inr (.inr w)) fun w => .inr (.inl w)
    ·rcases h3 b y with x | x
     ·exact(tr.nf b x).elim (fun w => .inr (.inr w)) fun w => .inr (.inl w)
     ·exact(hf b x).2.2.elim (fun w => .inr (.inr w)) fun w => .inr (.inl w)
   ·have back:∀c,c∈fa∨H c=none->c∈fp0∨H0 c=none:=fun c hc=>by
     rcases hc with y | y
     ·rcases h3 c y with x | x
      ·exact tr.nf c x
      ·exact(hf c x).2.2
     ·exact tr.back y
    rcases List.mem_append.mp hb with y | y
    ·exact back b (t'.nf b (List.mem_append_left _ y))
    ·rcases g2 b y with x | x
     ·exact back b (t'.nf b (List.mem_append_right _ x))
     ·exact tr.nf b (h4 b x)
   ·rcases g2 b hc with y | y
    ·exact s3 b hb y
    ·exact k2 b y (List.mem_append_left _ hb)
def aFn(R:ASp)(tu:AAr):AD:=fun env P=>tu env fun as e=>match grab as e with
 | some (xs,e2)=>R xs fun r ys=>match r.data with
  | some d=>P d (give as ys e2)
  | none=>False
 | none=>False
def aFnO(R:ASp)(tu:AAr):AO:=fun env P=>tu env fun as e=>match grab as e with
 | some (xs,e2)=>R xs fun r ys=>match r with
  | .own o=>P o (give as ys e2)
  | _=>False
 | none=>False
theorem sim_fn{R:ASp}{su:TA}{tu:AAr}{E:XK}(ha:SimAr su tu):SimE (tCall (spA R) [] E su) (aFn R tu):=fun Q P ok h q=>ha _ _ ok h fun vs as env' F' H' fp' fo t ok' ar hf h'=>by
 cases hg:grab as env' with
 | none=>simp only [hg]at h'
 | some p =>
  obtain⟨xs,e⟩:=p
  simp only [hg]at h'
  rw [List.append_nil]
  refine call_sim (P:=fun r e2=>match r.data with
   | some d=>P d e2
   | none=>False) t ok' ar hf hg h' fun v r env2 F2 H2 fpv fp2 t2 ok2 s hfv hp => ?_
  cases s with
  | non=>exact hp.elim
  | scr _=>exact hp.elim
  | ks _ _ _ _=>exact hp.elim
  | tab _=>exact hp.elim
  | fn _ _=>exact hp.elim
  | dat r=>exact q _ _ _ _ _ _ ⟨t2.ex,t2.kp,t2.nw,fun b hb=>t2.nf b hb⟩ ok2 r hp
  | own m =>
   rename_i a o
   cases e2:o.data with
   | none=>simp only [Sl.data,e2]at hp
   | some d =>
    simp only [Sl.data,e2]at hp
    obtain⟨F3,g1,g2,g3,g4⟩:=m.freeze e2 ok2.ex fun b hb=>(hfv b hb).1
    refine q _ _ _ F3 H2 fp2 ⟨t2.ex.trans g1,t2.kp,fun b z => ?_,fun b hb=>t2.nf b (List.mem_append_right _ hb)⟩ ⟨g2,ok2.env.mono g1 (fun _ _ _ u=>u),fun b hb => ?_⟩ g3 hp
    ·rcases g4 b z with y | y
     ·exact t2.nw b y
     ·exact(t2.nf b (List.mem_append_left _ y)).elim (fun w => .inr (.inr w)) fun w => .inr (.inl w)
    ·cases e3:F3 b with
     | none=>rfl
     | some u =>
      rcases g4 b (some_ne e3)with z | z
      ·exact absurd (ok2.fr b hb) z
      ·exact absurd hb (hfv b z).2
theorem sim_fnO{R:ASp}{su:TA}{tu:AAr}{E:XK}(ha:SimAr su tu):SimO (tCall (spA R) [] E su) (aFnO R tu):=fun Q P ok h q=>ha _ _ ok h fun vs as env' F' H' fp' fo t ok' ar hf h'=>by
 cases hg:grab as env' with
 | none=>simp only [hg]at h'
 | some p =>
  obtain⟨xs,e⟩:=p
  simp only [hg]at h'
  rw [List.append_nil]
  refine call_sim (P:=fun r e2=>match r with
   | .own o=>P o e2
   | _=>False) t ok' ar hf hg h' fun v r env2 F2 H2 fpv fp2 t2 ok2 s hfv hp => ?_
  cases s with
  | non=>exact hp.elim
  | scr _=>exact hp.elim
  | ks _ _ _ _=>exact hp.elim
  | tab _=>exact hp.elim
  | fn _ _=>exact hp.elim
  | dat r=>exact hp.elim
  | own m=>exact q _ _ _ _ _ _ fpv ⟨t2.ex,t2.kp,t2.nw,fun b hb=>t2.nf b (List.mem_append_right _ hb)⟩ ok2 m (fun b hb=>⟨(hfv b hb).1,(hfv b hb).2,t2.nf b (List.mem_append_left _ hb)⟩) hp
section
variable {X:Cx} {CX:CXT} {k:Nat} {f:Addr} {fd:FuncData} {ps:List Str} {R:ASp} {E:XK} {x:Str} {p pos:Pos} {e:Expr} {es:List Expr} {su:TA} {tu:AAr}
theorem ae_fn(F:FnG X.prog X.w X.K X.mg X.base CX k f fd ps (spA R))(hr:RoomG k X.A)(hg:Gl X x)(hm:X.mg x=some (.ref f))(hk:PySem.W.keepIn X.K (.ref f)=true)(hb:Binds X.K fd ps [])(hx:Passes CX X E)
  (ha:APR X (e::es) su tu) (hdb:(x==("__debug__" : Str))=false:=by decide) (he:starEach (e::es) X.env=(false,eval e X.env)::starEach es X.env:=by rfl) (hpl:(backTo pos (starEach es X.env)).any (·.1)=false:=by rfl) :
  AE X (.Call (.Name x p) (e::es) [] pos) (tCall (spA R) [] E su) (aFn R tu):=⟨peg_call F hr hg hm hk hb .nil hx ha.pe hdb he hpl,sim_fn ha.sm⟩
theorem ao_fn(F:FnG X.prog X.w X.K X.mg X.base CX k f fd ps (spA R))(hr:RoomG k X.A)(hg:Gl X x)(hm:X.mg x=some (.ref f))(hk:PySem.W.keepIn X.K (.ref f)=true)(hb:Binds X.K fd ps [])(hx:Passes CX X E)
  (ha:APR X (e::es) su tu) (hdb:(x==("__debug__" : Str))=false:=by decide) (he:starEach (e::es) X.env=(false,eval e X.env)::starEach es X.env:=by rfl) (hpl:(backTo pos (starEach es X.env)).any (·.1)=false:=by rfl) :
  AEO X (.Call (.Name x p) (e::es) [] pos) (tCall (spA R) [] E su) (aFnO R tu):=⟨peg_call F hr hg hm hk hb .nil hx ha.pe hdb he hpl,sim_fnO ha.sm⟩
end
end
section
section
variable {X:Cx} {a b e o:Expr} {es:List Expr} {pos:Pos} {sa sb se:TE} {ta tb t:AD} {su:TA} {tu:AL}
def aM0(C:Str->Prop)(g:Str->PyData)(ta:AD):AD:=fun env P=>ta env fun d e=>match d with
 | .str a=>C a/\P (g a) e
 | _=>False
theorem sim_m0{C:Str->Prop}{g:Str->V}{g':Str->PyData}(hg:∀F a,Rp F (g a) (g' a))(ha:SimE sa ta):SimE (tM0 (fun x xs H Q =>∃a,x = .str a/\xs = []/\C a/\Q (g a) H) sa) (aM0 C g' ta):=fun Q P ok h q =>
 ha _ _ ok h fun v d env' F' H' fp' t ok' r h'=>by
  cases r with
  | str z=>exact⟨⟨z,rfl⟩,z,rfl,rfl,h'.1,q _ _ _ _ _ _ t ok' (hg _ _) h'.2⟩
  | _=>exact h'.elim
abbrev aUpper(ta:AD):AD:=aM0 (fun a=>a.length<=5592405) (fun a => .str (Txt.upper a)) ta
abbrev aLower(ta:AD):AD:=aM0 (fun a=>a.length<=5592405) (fun a => .str (Txt.lower a)) ta
abbrev aIsupper(ta:AD):AD:=aM0 (fun _=>True) (fun a => .bool (Txt.isupper a)) ta
theorem ae_upper{apos:Pos}(ho:AE X o sa ta)(hbase:attributeBase o "upper" X.env (eval o X.env)=eval o X.env:=by rfl)(hline:(apos.endLine==pos.line)=true:=by rfl):AE X (.Call (.Attribute o "upper" apos) [] [] pos) (tM0 (fun x xs H Q =>∃a,x = .str a/\xs = []/\a.length<=5592405/\Q (.str (Txt.upper a)) H) sa) (aUpper ta):=⟨pe_upper ho.pe hbase hline,sim_m0 (fun _ _ => .str _) ho.sm⟩
theorem ae_lower{apos:Pos}(ho:AE X o sa ta)(hbase:attributeBase o "lower" X.env (eval o X.env)=eval o X.env:=by rfl)(hline:(apos.endLine==pos.line)=true:=by rfl):AE X (.Call (.Attribute o "lower" apos) [] [] pos) (tM0 (fun x xs H Q =>∃a,x = .str a/\xs = []/\a.length<=5592405/\Q (.str (Txt.lower a)) H) sa) (aLower ta):=⟨pe_lower ho.pe hbase hline,sim_m0 (fun _ _ => .str _) ho.sm⟩
theorem ae_isupper{apos:Pos}(ho:AE X o sa ta)(hbase:attributeBase o "isupper" X.env (eval o X.env)=eval o X.env:=by rfl)(hline:(apos.endLine==pos.line)=true:=by rfl):AE X (.Call (.Attribute o "isupper" apos) [] [] pos) (tM0 (fun x xs H Q =>∃a,x = .str a/\xs = []/\True/\Q (.bl (Txt.isupper a)) H) sa) (aIsupper ta):=⟨pe_m0 PySem.F.slot_str_isupper PySem.F.type_str_isupper mt_isupper ho.pe hbase hline,sim_m0 (fun _ _ => .bl _) ho.sm⟩
def joinOk(a:Str)(ys:List Str):Prop:=(ys.map (·.length)).sum+ys.length*a.length<=16777216
def aJoin(ta tb:AD):AD:=fun env P=>ta env fun d1 e1=>match d1 with
 | .str a=>tb e1 fun d2 e2 =>∃ys:List Str,(d2 = .list (ys.map .str)∨d2 = .tuple (ys.map .str))/\joinOk a ys/\P (.str (Txt.join a ys)) e2
 | _=>False
theorem ae_join{apos:Pos}(ho:AE X o sa ta)(he:AE X e se t)(hs:starEach [e] X.env = [(false,eval e X.env)]:=by rfl)(hbase:attributeBase o "join" X.env (eval o X.env)=eval o X.env:=by rfl)(hline:(apos.endLine==pos.line)=true:=by rfl) :
  AE X (.Call (.Attribute o "join" apos) [e] [] pos) (tM1 (fun x xs H Q =>∃a p,∃ys:List Str,x = .str a/\xs = [.ref p]/\(SqL X.K H p (ys.map V.str)∨SqT X.K H p (ys.map V.str)) /\
   (ys.map (·.length)).sum+ys.length*a.length<=16777216/\Q (.str (Txt.join a ys)) H) sa se) (aJoin ta t):=⟨pe_join ho.pe he.pe hs hbase hline,fun Q P ok h q =>
 ho.sm _ _ ok h fun v1 d1 e1 F1 H1 fp1 t1 ok1 r1 h1=>by
  cases r1 with
  | str z =>
   refine⟨⟨z,rfl⟩,he.sm _ _ ok1 h1 fun v2 d2 e2 F2 H2 fp2 t2 ok2 r2 h2 => ?_⟩
   obtain⟨ys,hd,hz,hp⟩:=h2
   rcases hd with rfl | rfl
   ·cases r2 with
    | lst g1 k1 =>
     cases k1.strs
     exact⟨z,_,ys,rfl,rfl,.inl (SqL.of (ok2.ex _ _ g1)),hz,q _ _ _ _ _ _ (t1.trans t2) ok2 (.str _) hp⟩
   ·cases r2 with
    | tup g1 k1 =>
     cases k1.strs
     exact⟨z,_,ys,rfl,rfl,.inr (SqT.of (ok2.ex _ _ g1)),hz,q _ _ _ _ _ _ (t1.trans t2) ok2 (.str _) hp⟩
  | _=>exact h1.elim⟩
def tyName:PyData->String
 | .none => "NoneType"
 | .bool _ => "bool"
 | .int _ => "int"
 | .str _ => "str"
 | .list _ => "list"
 | .tuple _ => "tuple"
 | .dict ds=>if isRow ds then "tuple" else "dict"
theorem Rp.ty{K:PySem.W.Frag}{H:Hp}{v:V}{d:PyData}(r:Rp H v d):TyX K H v (.type (tyName d)):=by
 cases r with
 | non=>exact .base .non
 | bl b=>exact .base (.bl b)
 | int i=>exact .base (.int i)
 | str x=>exact .base (.str x)
 | lst h _=>exact .base (.lst h)
 | tup h _=>exact .base (.tup h)
 | dk h k =>
  rw [show tyName (.dict _) = "dict" from if_neg (by rw [rpk_noRow k];decide)]
  rcases h with h | ⟨o,h⟩
  ·exact .base (.dK h)
  ·exact .fDict h
 | row h _=>exact .fTuple h
def aIsi(g:PyData->Bool)(ta:AD):AD:=fun env P=>ta env fun d e=>P (.bool (g d)) e
theorem ae_isi{T:String}{x:Str}{p p2:Pos}{g:PyData->Bool}(hk:∀d,kitB (tyName d) T=some (g d))(hg:Gl X "isinstance")(hm:X.mg "isinstance" =none)(ha:AE X a sa ta)(hgT:Gl X x)(hmT:X.mg x=none)(hvT:bootBuiltins x=some (.type T))(hn:x ≠ "__name__" :=by decide)(hdb:(x==("__debug__" : Str))=false:=by decide)
  (hs1:starEach (a :: [.Name x p2]) X.env=(false,eval a X.env)::starEach [.Name x p2] X.env:=by rfl) (hs2:starEach (.Name x p2 :: []) X.env=(false,eval (.Name x p2) X.env)::starEach [] X.env:=by rfl) (hpl:(backTo pos (starEach [.Name x p2] X.env)).any (·.1)=false:=by rfl) :
  AE X (.Call (.Name "isinstance" p) [a,.Name x p2] [] pos) (tCB (rIsi X.K) (tCons sa (tCons (tC (.ty T)) tNil))) (aIsi g ta) :=
 ⟨pe_callB call_isi hg hm (by decide +kernel) (pa_cons ha.pe (pa_cons (pe_bltn hgT hmT hvT rfl hn hdb) pa_nil hs2) hs1) (he:=hs1) (hpl:=hpl),fun Q P ok h q=>ha.sm _ _ ok h fun v d env' F' H' fp' t ok' r h' =>
  ⟨v,.ty T,.type (tyName d),.type T,g d,rfl,.ty T,(r.up ok'.ex).ty,kit_ty (hk d),q _ _ _ _ _ _ t ok' (.bl _) h'⟩⟩
theorem ae_isi2{T U:String}{x y:Str}{p p2 p3 p4:Pos}{k:Nat}{g g2:PyData->Bool}(hk:∀d,kitB (tyName d) T=some (g d))(hk2:∀d,kitB (tyName d) U=some (g2 d))(hg:Gl X "isinstance")(hm:X.mg "isinstance" =none)(ha:AE X a sa ta)
  (hgT:Gl X x) (hmT:X.mg x=none) (hvT:bootBuiltins x=some (.type T)) (hgU:Gl X y) (hmU:X.mg y=none) (hvU:bootBuiltins y=some (.type U)) (hn:x ≠ "__name__" :=by decide) (hdb:(x==("__debug__" : Str))=false:=by decide) (hnU:y ≠ "__name__" :=by decide) (hdbU:(y==("__debug__" : Str))=false:=by decide)
  (hs1:starEach (a :: [.Tuple [.Name x p2,.Name y p3] k p4]) X.env=(false,eval a X.env)::starEach [.Tuple [.Name x p2,.Name y p3] k p4] X.env:=by rfl) (hs2:starEach (.Tuple [.Name x p2,.Name y p3] k p4 :: []) X.env=(false,eval (.Tuple [.Name x p2,.Name y p3] k p4) X.env)::starEach [] X.env:=by rfl)
  (hs3:starEach (.Name x p2 :: [.Name y p3]) X.env=(false,eval (.Name x p2) X.env)::starEach [.Name y p3] X.env:=by rfl) (hs4:starEach (.Name y p3 :: []) X.env=(false,eval (.Name y p3) X.env)::starEach [] X.env:=by rfl) (hpl:(backTo pos (starEach [.Tuple [.Name x p2,.Name y p3] k p4] X.env)).any (·.1)=false:=by rfl) :
  AE X (.Call (.Name "isinstance" p) [a,.Tuple [.Name x p2,.Name y p3] k p4] [] pos) (tCB (rIsiT X.K) (tCons sa (tCons (tTup (tCons (tC (.ty T)) (tCons (tC (.ty U)) tNil))) tNil))) (aIsi (fun d=>g d||g2 d) ta) :=
 ⟨pe_callB call_isiT hg hm (by decide +kernel) (pa_cons ha.pe (pa_cons (pe_tup (pa_cons (pe_bltn hgT hmT hvT rfl hn hdb) (pa_cons (pe_bltn hgU hmU hvU rfl hnU hdbU) pa_nil hs4) hs3)) pa_nil hs2) hs1) (he:=hs1) (hpl:=hpl),fun Q P ok h q=>ha.sm _ _ ok h fun v d env' F' H' fp' t ok' r h'=>by
  refine⟨by show 2<=sizeLine;decide,fun tp hp => ?_⟩
  obtain⟨t1,x1⟩:=tr_new (o := .tup [.ty T,.ty U]) hp ok'.ex
  obtain⟨ok2,t2⟩:=ok'.pure t1 x1
  refine⟨v,tp,[.ty T,.ty U],.type (tyName d),[.type T,.type U],g d||g2 d,rfl,upd_same,.cons (.ty T) (.cons (.ty U) .nil),((r.up t1.ex).up ok2.ex).ty, ?_,q _ _ _ _ _ _ (t.trans t2) ok2 (.bl _) h'⟩
  refine kitAny_cons (kit_ty (hk d)) (fun e=>kitAny_cons (kit_ty (hk2 d)) (fun e2 => ?_) fun e2 => ?_) fun e => ?_
  ·rw [e,e2];exact kitAny_nil
  ·rw [e,e2];rfl
  ·rw [e];rfl⟩
def isStrD:PyData->Bool
 | .str _=>true
 | _=>false
def isIntD:PyData->Bool
 | .int _=>true
 | .bool _=>true
 | _=>false
def isBoolD:PyData->Bool
 | .bool _=>true
 | _=>false
def isListD:PyData->Bool
 | .list _=>true
 | _=>false
def isTupD:PyData->Bool
 | .tuple _=>true
 | .dict ds=>isRow ds
 | _=>false
theorem kit_str:∀d,kitB (tyName d) "str" =some (isStrD d):=fun d=>by
 cases d with
 | dict ds=>(show kitB _ _=some _;simp only [tyName,isStrD];cases isRow ds <;> decide +kernel)
 | _=>(show kitB _ _=some _;simp only [tyName,isStrD];decide +kernel)
theorem kit_int:∀d,kitB (tyName d) "int" =some (isIntD d):=fun d=>by
 cases d with
 | dict ds=>(show kitB _ _=some _;simp only [tyName,isIntD];cases isRow ds <;> decide +kernel)
 | _=>(show kitB _ _=some _;simp only [tyName,isIntD];decide +kernel)
theorem kit_bool:∀d,kitB (tyName d) "bool" =some (isBoolD d):=fun d=>by
 cases d with
 | dict ds=>(show kitB _ _=some _;simp only [tyName,isBoolD];cases isRow ds <;> decide +kernel)
 | _=>(show kitB _ _=some _;simp only [tyName,isBoolD];decide +kernel)
theorem kit_list:∀d,kitB (tyName d) "list" =some (isListD d):=fun d=>by
 cases d with
 | dict ds=>(show kitB _ _=some _;simp only [tyName,isListD];cases isRow ds <;> decide +kernel)
 | _=>(show kitB _ _=some _;simp only [tyName,isListD];decide +kernel)
theorem kit_tuple:∀d,kitB (tyName d) "tuple" =some (isTupD d):=fun d=>by
 cases d with
 | dict ds=>(show kitB _ _=some _;simp only [tyName,isTupD];cases isRow ds <;> decide +kernel)
 | _=>(show kitB _ _=some _;simp only [tyName,isTupD];decide +kernel)
def scrAt(K:PySem.W.Frag)(i:Nat)(env:List Sl):Prop :=∃ns,env[i]? =some (.scr K ns)
def aSlS(K:PySem.W.Frag)(i:Nat)(tl th:AOp):AO:=fun env P=>scrAt K i env/\tl env fun lo e2=>th e2 fun hi e3 =>∃ns,e3[i]? =some (.scr K ns)/\P (.lst ((cutL ns lo hi).map .int)) e3
theorem rps_ints{F:Hp}:∀ns:List Int,Rps F (ns.map V.int) (ns.map PyData.int)
 | [] => .nil
 | n::ns => .cons (.int n) (rps_ints ns)
theorem cutV_map{ns:List Int}{lo hi:Option Int}:cutV (ns.map V.int) lo hi=(cutL ns lo hi).map V.int:=by
 unfold cutV cutL
 rw [List.length_map,List.map_take,List.map_drop]
theorem ao_slS(i:Nat){x:Str}{px:Pos}{lo hi:Option Expr}{sl sh:TO}{tl th:AOp}{p2:Pos}(hl:APO X lo sl tl)(hh:APO X hi sh th)(hN:X.N[i]? =some x:=by rfl)(hv:Vis X.env.scope x:=by first | exact Or.inl rfl | exact Or.inr (Or.inl rfl) | exact Or.inr (Or.inr rfl))(hd:(x==("__debug__" : Str))=false:=by decide)
  (hcd:(x==("__classdict__" : Str))=false:=by decide):AEO X (.Subscript (.Name x px) (.Slice lo hi none p2) pos) (tSl (rSlL X.K) (tVar i) sl sh) (aSlS X.K i tl th):=⟨pe_slice sl_list (pe_var hN hv hd hcd) hl.pe hh.pe,fun Q P ok h q=>by
 obtain⟨⟨ns0,e0⟩,h⟩:=h
 obtain⟨x,fi,fr,e1,hs,_⟩:=ok.env.at e0
 cases hs with
 | scr hq =>
  refine⟨_,e1,hl.sm _ _ ok h fun lo e2 F2 H2 fp2 t2 ok2 h2=>hh.sm _ _ ok2 h2 fun hi e3 F3 H3 fp3 t3 ok3 h3 => ?_⟩
  obtain⟨ns,e4,h4⟩:=h3
  obtain⟨x,fi,fr,e5,hs,_⟩:=ok3.env.at e4
  rw [e1]at e5
  cases e5
  cases hs with
  | scr hq3 =>
   refine⟨_,_,rfl,ex_l ok3.ex hq3,fun p hp => ?_⟩
   rw [cutV_map]
   obtain⟨t4,ok4,m,hf⟩:=ok3.newLst hp (rps_ints (cutL ns lo hi))
   exact q _ _ _ _ _ _ _ ((t2.trans t3).trans t4) ok4 m ((t2.trans t3).backs hf) h4⟩
theorem args_dat{F H:Hp}{σ:St}:∀{vs:List V} {ds:List PyData},Rps F vs ds->ArgsAt F H σ vs (ds.map .dat) []
 | _,[],h=>by cases h;exact .nil
 | _,d::ds,h=>by
  cases h with
  | cons h1 h2=>exact .dat h1 (args_dat h2)
theorem grab_dat:∀(ds:List PyData) (env:List Sl),grab (ds.map .dat) env=some (ds.map .dat,env)
 | [],_=>rfl
 | d::ds,env=>by
  show (grab (ds.map .dat) env).map _=_
  rw [grab_dat ds env]
  rfl
theorem give_dat:∀(ds:List PyData) (ys env:List Sl),give (ds.map .dat) ys env=env
 | [],ys,env=>by cases ys <;> rfl
 | d::ds,[],env=>rfl
 | d::ds,y::ys,env=>give_dat ds ys env
theorem sim_fnD{R:ASp}{F H:Hp}{σ:St}{env:List Sl}{fp:List Addr}{vs:List V}{ds:List PyData}{Q:VK}{P:PyData->List Sl->Prop}{E:XK}{F0 H0:Hp}{fp0:List Addr}(tr:Tr F0 H0 fp0 F H fp)(ok:Ok F H σ env fp)(r:Rps F vs ds)(h:R (ds.map .dat) fun r _=>match r.data with
   | some d=>P d env
   | none=>False) (q:∀v d env' F' H' fp',Tr F0 H0 fp0 F' H' fp'->Ok F' H' σ env' fp'->Rp F' v d->P d env'->Q v H'):spA R vs H Q E:=by
 refine call_sim (P:=fun r e2=>match r.data with
   | some d=>P d e2
   | none=>False) tr ok (args_dat r) (fun _ hb=>by simp at hb) (grab_dat ds env) ?_ fun v r env2 F2 H2 fpv fp2 t2 ok2 s hfv hp => ?_
 ·have e:(fun(r:Sl) (ys:List Sl)=>(match r.data with
   | some d=>P d (give (ds.map .dat) ys env)
   | none=>False))=fun r _=>match r.data with
   | some d=>P d env
   | none=>False:=by
   funext r ys
   rw [give_dat]
  rw [e]
  exact h
 ·cases s with
  | non=>exact hp.elim
  | scr _=>exact hp.elim
  | ks _ _ _ _=>exact hp.elim
  | tab _=>exact hp.elim
  | fn _ _=>exact hp.elim
  | dat r=>exact q _ _ _ _ _ _ ⟨t2.ex,t2.kp,t2.nw,fun b hb=>t2.nf b hb⟩ ok2 r hp
  | own m =>
   rename_i a o
   cases e2:o.data with
   | none=>simp only [Sl.data,e2]at hp
   | some d =>
    simp only [Sl.data,e2]at hp
    obtain⟨F3,g1,g2,g3,g4⟩:=m.freeze e2 ok2.ex fun b hb=>(hfv b hb).1
    refine q _ _ _ F3 H2 fp2 ⟨t2.ex.trans g1,t2.kp,fun b z => ?_,fun b hb=>t2.nf b (List.mem_append_right _ hb)⟩ ⟨g2,ok2.env.mono g1 (fun _ _ _ u=>u),fun b hb => ?_⟩ g3 hp
    ·rcases g4 b z with y | y
     ·exact t2.nw b y
     ·exact(t2.nf b (List.mem_append_left _ y)).elim (fun w => .inr (.inr w)) fun w => .inr (.inl w)
    ·cases e3:F3 b with
     | none=>rfl
     | some u =>
      rcases g4 b (some_ne e3)with z | z
      ·exact absurd (ok2.fr b hb) z
      ·exact absurd hb (hfv b z).2
end
end
section
structure Cal(P:Program)(w:World)(K:PySem.W.Frag)(mg:Str->Option Value)(base:Heap)(k:Nat)(x:Str)(ps:List Str)(R:ASp):Prop where
 ex:∃f fd,FnG P w K mg base CX0 k f fd ps (spA R)/\mg x=some (.ref f)/\PySem.W.keepIn K (.ref f)=true/\Binds K fd ps []
section
variable {X:Cx} {k:Nat} {ps:List Str} {R:ASp} {x:Str} {p pos:Pos} {e:Expr} {es:List Expr} {su:TA} {tu:AAr} {ks:List Nat}
theorem ae_call(C:Cal X.prog X.w X.K X.mg X.base k x ps R)(hr:RoomG k X.A)(hg:Gl X x)(ha:APR X (e::es) su tu)(hdb:(x==("__debug__" : Str))=false:=by decide)(he:starEach (e::es) X.env=(false,eval e X.env)::starEach es X.env:=by rfl)(hpl:(backTo pos (starEach es X.env)).any (·.1)=false:=by rfl) :
  AE X (.Call (.Name x p) (e::es) [] pos) (tCall (spA R) [] E0 su) (aFn R tu):=by
 obtain⟨f,fd,a,b,c,d⟩:=C.ex
 exact ae_fn a hr hg b c d pass0 ha hdb he hpl
theorem ao_call(C:Cal X.prog X.w X.K X.mg X.base k x ps R)(hr:RoomG k X.A)(hg:Gl X x)(ha:APR X (e::es) su tu)(hdb:(x==("__debug__" : Str))=false:=by decide)(he:starEach (e::es) X.env=(false,eval e X.env)::starEach es X.env:=by rfl)(hpl:(backTo pos (starEach es X.env)).any (·.1)=false:=by rfl) :
  AEO X (.Call (.Name x p) (e::es) [] pos) (tCall (spA R) [] E0 su) (aFnO R tu):=by
 obtain⟨f,fd,a,b,c,d⟩:=C.ex
 exact ao_fn a hr hg b c d pass0 ha hdb he hpl
variable {n:Nat} {kn:List Str} {π:List Nat} {dvs:List V} {dds:List PyData} {tl tk:AL} {sk:TA} {kws:List Keyword}
def aAsg(t:AD)(g:AG):ATS:=fun A env=>t env fun d e=>g d e A.nx
theorem as_asg{tg:Expr}{se:TE}{t:AD}{g:TG}{ag:AG}{ts:List Nat}(he:AE X e se t)(hg:APG X ts tg g ag)(hk:∀i∈ks,i∉ts:=by decide)(hs:swapsWithSole [tg] e pos.line X.env=pure false:=by rfl)(hw:swappedStores [tg] e X.env=pure none:=by rfl)
  (h1:(assignEach [tg] X.env).map (·.2) = [assign tg X.env]:=by rfl):AS X ks (.Assign [tg] e pos) (tAsg se g) (aAsg t ag):=⟨ps_asg he.pe hg.pe hs hw h1,fun D A ok h q =>
 he.sm _ _ ok h fun v d env' F' H' fp' t' ok' r h'=>hg.sm _ _ ok' r h' fun σ2 env2 F2 H2 fp2 t2 ok2 k2 h2=>q.nx _ _ _ _ _ (t'.trans t2) ok2 (k2.kept hk) h2⟩
theorem ae_globI'{x:Str}{y:Int}{pos:Pos}(hg:Gl X x)(hm:∃t,X.mg x=some (.int y t))(hd:(x==("__debug__" : Str))=false:=by decide):AE X (.Name x pos) (tC (.int y)) (aC (.int y)):=by
 obtain⟨t,h⟩:=hm
 exact ae_globI hg h hd
def aAug(i:Nat)(f:Int->Int->Int)(t:AD):ATS:=fun A env=>(∃j,env[i]? =some (.dat (.int j))/\t env fun d e=>match d with
 | .int m=>i<e.length/\A.nx (e.set i (.dat (.int (f j m))))
 | _=>False)
theorem as_aug{i:Nat}{x:Str}{se:TE}{t:AD}{op:Operator}{f:Int->Int->Int}{pos':Pos}(hN:X.N.Nodup)(hi:X.N[i]? =some x)(hx:Loc X.env.scope x)(he:AE X e se t)(ho:PIp X op (ipI f))(hk:i∉ks:=by decide)(hf:X.fn x=true∨X.env.scope.names.lookup x=some .local:=by first | exact .inl rfl | exact .inr rfl | assumption) :
  AS X ks (.AugAssign (.Name x pos') op e pos) (tAug i se (ipI f)) (aAug i f t):=⟨ps_aug hN hi hx he.pe ho hf,fun D A ok h q=>by
 obtain⟨j,e1,h⟩:=h
 obtain⟨x,fi,fr,e2,hs,_⟩:=ok.env.at e1
 cases hs with
 | dat r =>
  cases r
  refine⟨_,e2,he.sm _ _ ok h fun v d env' F' H' fp' t' ok' r h' => ?_⟩
  cases r with
  | int m =>
   obtain⟨fp2,ok2,t2⟩:=ok'.put h'.1 (.int (f j m))
   exact⟨j,m,rfl,rfl,q.nx _ _ _ _ _ (t'.trans t2) ok2 (kept_set hk) h'.2⟩
  | _=>exact h'.elim⟩
def aMove(i:Nat):AO:=fun env P=>match env[i]? with
 | some (.own o)=>P o (env.set i .non)
 | _=>False
theorem sim_move{i:Nat}:SimO (tVar i) (aMove i):=by
 intro σ env F H fp Q P ok h q
 unfold aMove at h
 split at h
 ·rename_i o e
  obtain⟨x,fi,fr,e1,hs,hm,hd,put⟩:=ok.env.at e
  cases hs with
  | own m =>
   rename_i a
   obtain⟨fp',he,hm'⟩:=put F H (some (.ref a)) .non [] (Ex.refl F) (fun _ _ _ u=>u) .non (fun _ hb=>by simp at hb)
   rw [set_same e1]at he
   have sub:∀b,b∈fp'->b∈fr:=fun b hb=>((hm' b).mp hb).elim (fun z=>by simp at z) id
   exact⟨_,e1,q a o _ F H fp' fi ⟨Ex.refl F,fun _ _ z _=>z,fun _ z => .inl z,fun b hb => .inl ((hm b).mpr (.inr (sub b hb)))⟩ ⟨ok.ex,he,fun b hb=>ok.fr b ((hm b).mpr (.inr (sub b hb)))⟩ m
    (fun b hb=>⟨ok.fr b ((hm b).mpr (.inl hb)),fun z=>hd b hb (sub b z),.inl ((hm b).mpr (.inl hb))⟩) h⟩
 ·exact h.elim
theorem ao_move(i:Nat){x:Str}(hN:X.N[i]? =some x:=by rfl)(hv:Vis X.env.scope x:=by first | exact Or.inl rfl | exact Or.inr (Or.inl rfl) | exact Or.inr (Or.inr rfl))(hd:(x==("__debug__" : Str))=false:=by decide)
  (hcd:(x==("__classdict__" : Str))=false:=by decide):AEO X (.Name x pos) (tVar i) (aMove i):=⟨pe_var hN hv hd hcd,sim_move⟩
end
end
end Cf
namespace Cf
open PySem PySem.Spec PyProof.Rows L2 RZ
section
variable {X:Cx} {tg e e2:Expr} {se:TE} {te:AD} {su:TA} {tu:AL} {pos:Pos}
def iAny(K:PySem.W.Frag)(tl:TE):TI:=fun σ H R=>tl σ H fun x H1=>(∃a,x = .ref a/\(∃xs,SqL K H1 a xs)/\R (Itl K a) H1)∨(∃a,x = .ref a/\(∃xs,SqT K H1 a xs)/\R (Itt K a) H1) ∨∃z,x = .str z/\R (Its z) H1
theorem pi_any(hl:PE X e se):PI X tg e (iAny X.K se):=by
 refine⟨fun pins s σ H R I h => ?_⟩
 refine thn (hl.run pins s σ H _ I h) fun v s1 ⟨x,H1,I1,r1,q1⟩ => ?_
 rcases q1 with ⟨a,ex,⟨xs,hq⟩,q⟩ | ⟨a,ex,⟨xs,hq⟩,q⟩ | ⟨z,ex,q⟩
 ·subst ex
  cases r1
  obtain⟨its,rv,p,hz⟩:=I1.list hq
  refine wpAny_pyIter_list p.isList ?_
  refine⟨s1.heap.objs.size,[s1.heap.objs.size],_,_,H1,rfl,I1.kept (t':=s1.toks) fun b o e=>Heap.get?_push_of_some _ e,turn_list a _,⟨_,Heap.get?_push_size _ rfl,rfl,rfl⟩,fun b hb => ?_,q⟩
  have e:b=s1.heap.objs.size:=by simpa using hb
  subst e
  exact I1.fpOk (Nat.le_refl _) (I1.hok.fresh (Nat.le_refl _))
 ·subst ex
  cases r1
  obtain⟨its,rv,p,hz⟩:=I1.tuple hq
  refine wpAny_pyIter_tuple (show s1.heap.IsTuple a its.toArray from p) ?_
  refine⟨s1.heap.objs.size,[s1.heap.objs.size],_,_,H1,rfl,I1.kept (t':=s1.toks) fun b o e=>Heap.get?_push_of_some _ e,turn_tuple a _,⟨_,Heap.get?_push_size _ rfl,rfl,rfl⟩,fun b hb => ?_,q⟩
  have e:b=s1.heap.objs.size:=by simpa using hb
  subst e
  exact I1.fpOk (Nat.le_refl _) (I1.hok.fresh (Nat.le_refl _))
 ·subst ex
  obtain⟨t,rfl⟩:=r1
  cases ha:z.cps.all (· < 128)
  ·exact wpAny_pyIter_wide ha (pi_one (tk:=s1.toks) I1 _ (turn_str _ z t "str_iterator" (.inr rfl)) ⟨_,Heap.get?_push_size _ rfl,rfl,rfl⟩ q)
  ·exact wpAny_pyIter_ascii ha (pi_one (tk:=s1.toks) I1 _ (turn_str _ z t "str_ascii_iterator" (.inl rfl)) ⟨_,Heap.get?_push_size _ rfl,rfl,rfl⟩ q)
def aiAny(te:AD):AI:=fun env P=>te env fun d e=>match d with
 | .list ds=>P ds e
 | .tuple ds=>P ds e
 | .str z=>P (signs z) e
 | _=>False
theorem ai_any(he:AE X e se te):API X tg e (iAny X.K se) (aiAny te):=⟨pi_any he.pe,fun R P ok h q=>he.sm _ _ ok h fun v d env' F' H' fp' t ok' r h'=>by
 cases r with
 | lst h1 k1=>exact .inl ⟨_,rfl,⟨_,SqL.of (ok'.ex _ _ h1)⟩,q _ _ _ _ _ _ t ok' (walkd_list h1 k1) h'⟩
 | tup h1 k1=>exact .inr (.inl ⟨_,rfl,⟨_,SqT.of (ok'.ex _ _ h1)⟩,q _ _ _ _ _ _ t ok' (walkd_tup h1 k1) h'⟩)
 | str z=>exact .inr (.inr ⟨z,rfl,q _ _ _ _ _ _ t ok' walkd_str h'⟩)
 | _=>exact h'.elim⟩
theorem ai_anyk{K':PySem.W.Frag}(hK:X.K=K')(he:AE X e se te):API X tg e (iAny K' se) (aiAny te):=by
 subst hK
 exact ai_any (he:=he)
def aiZipA(tu:AL):AI:=fun env P=>tu env fun ds e=>match ds with
 | [.list ds,.list es]=>P (zipD ds es) e
 | [.tuple ds,.tuple es]=>P (zipD ds es) e
 | _=>False
theorem walkd_zipT{K:PySem.W.Frag}{F:Hp}{a b:Addr}{xs ys:List V}{ds es:List PyData}(h:F a=some (.tup xs))(r:Rps F xs ds)(h2:F b=some (.tup ys))(r2:Rps F ys es):WalkD (ItzT K a b) F (zipD ds es):=by
 have hl:(zipD ds es).length=min ds.length es.length:=by unfold zipD;rw [List.length_map,List.length_zip]
 refine⟨fun F2 H2 i e1 e2 hi => ?_,fun F2 H2 e1 e2=>⟨xs,ys,SqT.of (e2 _ _ (e1 _ _ h)),SqT.of (e2 _ _ (e1 _ _ h2)),by rw [r.len,r2.len,hl];omega⟩,fun F2 H2 i x H3 e1 e2 hi y => ?_⟩
 ·rw [hl]at hi
  obtain⟨v,hv,_⟩:=r.get (List.getElem?_eq_getElem (show i<ds.length by omega))
  obtain⟨w,hw,_⟩:=r2.get (List.getElem?_eq_getElem (show i<es.length by omega))
  exact⟨xs,ys,v,w,SqT.of (e2 _ _ (e1 _ _ h)),SqT.of (e2 _ _ (e1 _ _ h2)),hv,hw⟩
 ·obtain⟨T,y,z,rfl,hT,rfl,hy,hz⟩:=y
  obtain⟨d,hd,rv⟩:=r.getV (hy xs (SqT.of (e2 _ _ (e1 _ _ h))))
  obtain⟨d2,hd2,rv2⟩:=r2.getV (hz ys (SqT.of (e2 _ _ (e1 _ _ h2))))
  obtain⟨t,x⟩:=tr_new (o := .tup [y,z]) hT e2
  exact⟨_,_,zipD_get hd hd2,t,x,.tup upd_same (.cons ((rv.up e1).up t.ex) (.one ((rv2.up e1).up t.ex)))⟩
theorem ai_zipA{p tpos:Pos}{elts:List Expr}{kk:Nat}(hg:Gl X "zip")(hm:X.mg "zip" =none)(ha:APA X [e,e2] su tu)
  (hs:starEach [e,e2] X.env=(false,eval e X.env)::starEach [e2] X.env:=by rfl) (hpl:(backTo pos (starEach [e2] X.env)).any (·.1)=false:=by rfl):API X (.Tuple elts kk tpos) (.Call (.Name "zip" p) [e,e2] [] pos) (iZipA X.K su) (aiZipA tu):=⟨pi_zipA hg hm ha.pe hs hpl,fun R P ok h q=>ha.sm _ _ ok h fun vs ds env' F' H' fp' t ok' r h'=>by
 match ds,r,h' with
 | [.list ds,.list es],r,h' =>
  obtain⟨v,w,rfl,r1,r2⟩:=rps2 r
  cases r1 with
  | lst h1 k1 =>
   cases r2 with
   | lst h2 k2=>exact⟨_,_,_,_,rfl,.inl ⟨SqL.of (ok'.ex _ _ h1),SqL.of (ok'.ex _ _ h2),q _ _ _ _ _ _ t ok' (walkd_zip h1 k1 h2 k2) h'⟩⟩
 | [.tuple ds,.tuple es],r,h' =>
  obtain⟨v,w,rfl,r1,r2⟩:=rps2 r
  cases r1 with
  | tup h1 k1 =>
   cases r2 with
   | tup h2 k2=>exact⟨_,_,_,_,rfl,.inr ⟨SqT.of (ok'.ex _ _ h1),SqT.of (ok'.ex _ _ h2),q _ _ _ _ _ _ t ok' (walkd_zipT h1 k1 h2 k2) h'⟩⟩⟩
end
end Cf
namespace Cf
open PySem PySem.Spec PyProof.Rows L2
section
def revS(z:Str):Str:=⟨z.cps.toList.reverse.toArray⟩
theorem revS_is(z:Str)(u:Tok):Txt.sliceBy z none none (-1,u)=revS z:=by
 apply Str.ext'
 apply Array.toList_inj.mp
 rw [step_rev_list]
 show _=z.cps.toList.reverse.toArray.toList
 rw [List.toList_toArray]
 apply List.ext_getElem?
 intro i
 rw [List.getElem?_map]
 by_cases hi:i<z.length
 ·have h1:z.length=z.cps.toList.length:=by rw [Array.length_toList];rfl
  rw [List.getElem?_range hi,List.getElem?_reverse (by omega)]
  show some (z.cps.getD (z.length-1-i) 0)=_
  rw [h1]
  have h2:z.cps.toList.length-1-i<z.cps.toList.length:=by omega
  rw [List.getElem?_eq_getElem h2]
  have h3:z.cps.toList.length-1-i<z.cps.size:=by rw [Array.length_toList]at h2 ⊢;exact h2
  rw [Array.getElem_toList,Array.getD,dif_pos h3]
  rfl
 ·have h1:z.length=z.cps.toList.length:=by rw [Array.length_toList];rfl
  rw [List.getElem?_eq_none (by rw [List.length_range];omega),List.getElem?_eq_none (by rw [List.length_reverse];omega)]
  rfl
theorem revS_len(z:Str):(revS z).length=z.length:=by
 show z.cps.toList.reverse.toArray.size=z.cps.size
 rw [List.size_toArray,List.length_reverse,Array.length_toList]
section
variable {X:Cx} {e:Expr} {te:TE} {t:AD} {p2 p3 p4 pos:Pos} {j:Nat}
def tRevS(te:TE):TE:=fun σ H Q=>te σ H fun x H1 =>∃z,x = .str z/\z.length<=sizeLine/\Q (.str (revS z)) H1
theorem pe_revS(he:PE X e te):PE X (.Subscript e (.Slice none none (some (.UnaryOp .USub (.Constant (.int 1) j p3) p4)) p2) pos) (tRevS te):=by
 refine⟨fun pins s σ H Q I h => ?_⟩
 refine Subscript_ (thn (he.run pins s σ H _ I h) fun v s1 ⟨x,H1,I1,r1,z,ex,hz,q1⟩ => ?_)
 subst ex
 obtain⟨t,rfl⟩:=r1
 refine wpAny_Slice ?_
 rw [evalPart_none]
 refine wpAny_pure (wpAny_pure ?_)
 rw [evalPart_some]
 have hneg:PE X (.UnaryOp .USub (.Constant (.int 1) j p3) p4) (tUn (rU fun i => .int (-i)) (tC (.int 1))):=pe_un un_neg pe_int
 refine thn (hneg.run pins s1 σ H1 (fun y H2=>y = .int (-1)/\H2=H1) I1 ⟨1,rfl,rfl,rfl⟩) fun u s2 ⟨y,H2,I2,r2,ey,eH⟩ => ?_
 subst ey eH
 obtain⟨tu,rfl⟩:=r2
 have I4:Inv X pins σ H2 { s2 with heap:=s2.heap.push { cls := .type "slice",data := .fields #[.none,.none,.int (-1) tu] } }:=I2.kept (t':=s2.toks) fun b ob q=>Heap.get?_push_of_some _ q
 refine tail_any (T := "str") (ops :=[.str z t,.ref s2.heap.objs.size]) (typeIs_str _ z t) PySem.F.slot_str_getitem.lookup ?_ (by with_unfolding_all rfl)
 refine wpAny_getItem_str_slice (l:=none) (u:=none) (st:=some (-1,tu)) ⟨_,Heap.get?_push_size _ rfl,rfl,rfl⟩ rfl ?_
 have e1:sliceMade z t none none (some (-1,tu)) = .str (Txt.sliceBy z none none (-1,tu)):=by
  unfold sliceMade Txt.sliceBy
  have c:(((((some ((-1:Int),tu)).map (·.1)).getD 1==1)&&((slicePicked z none none (some (-1,tu))).length==z.length))=true)↔False:=by
   have:((((some ((-1:Int),tu)).map (·.1)).getD 1==1))=false:=rfl
   rw [this]
   simp
  rw [if_neg c.mp,if_neg c.mp]
 rw [e1,revS_is]
 exact⟨by rw [revS_len];exact hz,.str _,H2,I4.tok _,⟨_,rfl⟩,q1⟩
def aRevS(t:AD):AD:=fun env P=>t env fun d e=>match d with
 | .str z=>sz z.length/\P (.str (revS z)) e
 | _=>False
theorem ae_revS(he:AE X e te t):AE X (.Subscript e (.Slice none none (some (.UnaryOp .USub (.Constant (.int 1) j p3) p4)) p2) pos) (tRevS te) (aRevS t):=⟨pe_revS he.pe,fun Q P ok h q=>he.sm _ _ ok h fun v d env' F' H' fp' t ok' r h'=>by
 cases r with
 | str z=>exact⟨z,rfl,h'.1,q _ _ _ _ _ _ t ok' (.str _) h'.2⟩
 | _=>exact h'.elim⟩
end
end
section
def opt{α:Type}(o:Option α)(k:α->Prop):Prop:=match o with
 | some x=>k x
 | none=>False
theorem opt_s{α:Type}(x:α)(k:α->Prop):opt (some x) k=k x:=rfl
theorem opt_ex{α:Type}(o:Option α)(k:α->Prop):(∃x,o=some x/\k x)=opt o k:=by
 refine propext (Iff.intro (fun h => ?_) fun h => ?_)
 ·obtain⟨_,h,q⟩:=h
  rw [h]
  exact q
 ·cases o with
  | none=>exact False.elim h
  | some y=>exact⟨y,rfl,h⟩
theorem opt_mk{α:Type}{o:Option α}{x:α}{k:α->Prop}(h:o=some x)(q:k x):opt o k:=by rw [h];exact q
theorem ixN_nat{n j:Nat}(h:j<n):ixN n (j:Int)=some j:=by unfold ixN;rw [if_pos (by omega),if_pos (by omega)];simp
theorem atI_nat{α:Type}{xs:List α}{j:Nat}(h:j<xs.length):atI xs (j:Int)=some xs[j]:=by unfold atI;rw [ixN_nat h];simp
theorem ixN_0(n:Nat):ixN (n+1) 0=some 0:=ixN_nat (j:=0) (by omega)
theorem atI_0{α:Type}(x:α)(xs:List α):atI (x::xs) 0=some x:=atI_nat (xs:=x::xs) (j:=0) (by simp)
theorem atI_1{α:Type}(x y:α)(xs:List α):atI (x::y::xs) 1=some y:=atI_nat (xs:=x::y::xs) (j:=1) (by simp)
theorem atI_2{α:Type}(x y z:α)(xs:List α):atI (x::y::z::xs) 2=some z:=atI_nat (xs:=x::y::z::xs) (j:=2) (by simp)
theorem atI_3{α:Type}(x y z w:α)(xs:List α):atI (x::y::z::w::xs) 3=some w:=atI_nat (xs:=x::y::z::w::xs) (j:=3) (by simp)
theorem atI_m1{α:Type}(xs:List α):atI xs (-1)=xs.getLast? :=by
 unfold atI ixN
 rw [if_neg (by omega)]
 cases xs with
 | nil=>rfl
 | cons x t =>
  have h : -((x::t).length:Int) <= -1:=by rw [List.length_cons];omega
  have h2:(-1+((x::t).length:Int)).toNat=(x::t).length-1:=by omega
  rw [if_pos h,List.getLast?_eq_getElem?,h2]
  rfl
theorem ixN_32:ixN 3 2=some 2:=by decide
theorem blkOk_cx{CX:CXT}{P:Program}{w:World}{K:PySem.W.Frag}{mg:Str->Option Value}{base:Heap}{N:List Str}{q:Str}{sc:Scope}{f:Addr}{cd:Value}{A:Around}{outer:List Env}{s:Shared}{H:Hp}{E:XK}{scope:Scope}{own:List (Str×Nat)}(h:blkC N sc scope own=true) :
  BlkOk (cxOf CX P w K mg base N q sc f cd A outer s H E).nox.N (cxOf CX P w K mg base N q sc f cd A outer s H E).nox.env.scope scope own:=blkOk_by h
theorem cx_K{CX:CXT}{P:Program}{w:World}{K:PySem.W.Frag}{mg:Str->Option Value}{base:Heap}{N:List Str}{q:Str}{sc:Scope}{f:Addr}{cd:Value}{A:Around}{outer:List Env}{s:Shared}{H:Hp}{E:XK}:(cxOf CX P w K mg base N q sc f cd A outer s H E).K=K:=rfl
section
variable (i j k:Int) (K:PyData->Prop) (a b:Str) (xs ys:List PyData)
theorem f_addI:fAdd (.int i) (.int j) K=K (.int (i+j)):=rfl
theorem f_addS:fAdd (.str a) (.str b) K=(sz (a.length+b.length)/\K (.str (a++b))):=rfl
theorem f_addL:fAdd (.list xs) (.list ys) K=(sz (xs.length+ys.length)/\K (.list (xs++ys))):=rfl
theorem f_addT:fAdd (.tuple xs) (.tuple ys) K=(sz (xs.length+ys.length)/\K (.tuple (xs++ys))):=rfl
theorem f_int(C:Int->Int->Prop)(g:Int->Int->PyData):fInt C g (.int i) (.int j) K=(C i j/\K (g i j)):=rfl
theorem f_int0(g:Int->Int->PyData):fInt0 g (.int i) (.int j) K=K (g i j):=rfl
theorem f_neg:fNeg (.int i) K=K (.int (-i)):=rfl
theorem f_eq(d e:PyData):fEq d e K=(EqOk d e/\K (.bool (PyData.eqv d e))):=rfl
theorem f_ne(d e:PyData):fNe d e K=(EqOk d e/\K (.bool (!PyData.eqv d e))):=rfl
theorem f_ixL:fIx (.list xs) (.int i) K=opt (atI xs i) K:=by unfold fIx;exact opt_ex _ _
theorem f_ixT:fIx (.tuple xs) (.int i) K=opt (atI xs i) K:=by unfold fIx;exact opt_ex _ _
theorem f_ixS:fIx (.str a) (.int i) K=(sz a.length/\opt (atI a.cps.toList i) fun c=>K (.str ⟨#[c]⟩)):=by
 show (sz a.length /\∃c,atI a.cps.toList i=some c/\K (.str ⟨#[c]⟩))=_
 rw [opt_ex]
theorem f_slL(lo hi:Option Int):fSl (.list xs) lo hi K=K (.list (cutL xs lo hi)):=rfl
theorem f_slT(lo hi:Option Int):fSl (.tuple xs) lo hi K=K (.tuple (cutL xs lo hi)):=rfl
theorem f_lenL:fLen [.list xs] K=K (.int xs.length):=rfl
theorem f_lenT:fLen [.tuple xs] K=K (.int xs.length):=rfl
theorem f_lenS:fLen [.str a] K=(sz a.length/\K (.int a.length)):=rfl
theorem f_abs:fAbs [.int i] K=K (.int (if i<0 then -i else i)):=rfl
theorem f_intOfB(b:Bool):fIntOf [.bool b] K=K (.int (if b then 1 else 0)):=rfl
theorem f_max2:fMax2 [.int i,.int j] K=K (.int (if j > i then j else i)):=rfl
end
section
variable (env:List Sl) (P:PyData->List Sl->Prop) (PO:MO->List Sl->Prop) (PT:Bool->List Sl->Prop) (PL:List PyData->List Sl->Prop) (PP:Option Int->List Sl->Prop) (PA:List Arg->List Sl->Prop)
variable (ta tb:AD) (to to2:AO) (tc td:AT) (tu tv:AL) (tl th:AOp) (ti:AI) (ts tt:ATS) (tr:AAr) (A:AEnds) (i j n:Nat) (g:AG) (gs:AGs) (f:PyData->PyData->(PyData->Prop)->Prop) (fc:List PyData->(PyData->Prop)->Prop) (fo:List PyData->(List PyData->Prop)->Prop)
def rdV(i:Nat)(env:List Sl)(P:PyData->List Sl->Prop):Option Sl->Prop
 | some (.dat d)=>P d env
 | some (.own o)=>match o.data with
  | some d=>P d (env.set i (.dat d))
  | none=>False
 | _=>False
theorem x_var:aVar i env P=rdV i env P env[i]? :=by unfold aVar rdV;rfl
theorem x_varD(d:PyData):rdV i env P (some (.dat d))=P d env:=rfl
theorem x_varL(ds:List PyData):rdV i env P (some (.own (.lst ds)))=P (.list ds) (env.set i (.dat (.list ds))):=rfl
theorem x_c(d:PyData):aC d env P=P d env:=rfl
theorem x_op:aOp f ta tb env P=ta env fun d1 e1=>tb e1 fun d2 e2=>f d1 d2 fun d=>P d e2:=rfl
theorem x_isN(neg:Bool):aIsN neg ta env P=ta env fun d e=>P (.bool (if neg then !isNone d else isNone d)) e:=rfl
theorem x_un(f:PyData->(PyData->Prop)->Prop):aUn f ta env P=ta env fun d e=>f d fun d'=>P d' e:=rfl
def onB(P:Bool->Prop):PyData->Prop
 | .bool b=>P b
 | _=>False
theorem x_onB(b:Bool)(P:Bool->Prop):onB P (.bool b)=P b:=rfl
theorem x_test:aTest ta env PT=ta env fun d e=>onB (fun b=>PT b e) d:=rfl
theorem x_and:aAnd tc td env PT=tc env fun b e=>(b=true->td e PT)/\(b=false->PT false e):=rfl
theorem x_or:aOr tc td env PT=tc env fun b e=>(b=true->PT true e)/\(b=false->td e PT):=rfl
theorem x_not:aNot tc env PT=tc env fun b e=>PT (!b) e:=rfl
theorem x_andV:aAndV ta tb env P=ta env fun d e=>onB (fun b=>(b=true->tb e P)/\(b=false->P (.bool false) e)) d:=rfl
theorem x_orV:aOrV ta tb env P=ta env fun d e=>onB (fun b=>(b=true->P (.bool true) e)/\(b=false->tb e P)) d:=rfl
theorem x_notV:aNotV ta env P=ta env fun d e=>onB (fun b=>P (.bool (!b)) e) d:=rfl
theorem x_if:aIf tc ta tb env P=tc env fun b e=>(b=true->ta e P)/\(b=false->tb e P):=rfl
theorem x_alNil:alNil env PL=PL [] env:=rfl
theorem x_alCons:alCons ta tu env PL=ta env fun d e=>tu e fun ds e2=>PL (d::ds) e2:=rfl
theorem x_tup:aTup tu env P=tu env fun ds e=>sz ds.length/\P (.tuple ds) e:=rfl
theorem x_lst:aLst tu env PO=tu env fun ds e=>sz ds.length/\PO (.lst ds) e:=rfl
theorem x_noP:aNoP env PP=PP none env:=rfl
def onI(P:Int->Prop):PyData->Prop
 | .int b=>P b
 | _=>False
theorem x_onI(b:Int)(P:Int->Prop):onI P (.int b)=P b:=rfl
def onL(P:List PyData->Prop):PyData->Prop
 | .list b=>P b
 | _=>False
theorem x_onL(b:List PyData)(P:List PyData->Prop):onL P (.list b)=P b:=rfl
def onS(P:Str->Prop):PyData->Prop
 | .str b=>P b
 | _=>False
theorem x_onS(b:Str)(P:Str->Prop):onS P (.str b)=P b:=rfl
theorem x_part:aPart ta env PP=ta env fun d e=>onI (fun i=>PP (some i) e) d:=rfl
theorem x_sl:aSl ta tl th env P=ta env fun d e=>tl e fun lo e2=>th e2 fun hi e3=>fSl d lo hi fun d'=>P d' e3:=rfl
theorem x_call:aCall fc tu env P=tu env fun ds e=>fc ds fun d=>P d e:=rfl
theorem x_callO:aCallO fo tu env PO=tu env fun ds e=>fo ds fun d=>PO (.lst d) e:=rfl
def onD(P:PyData->Prop):Option PyData->Prop
 | some d=>P d
 | none=>False
theorem x_onD(d:PyData)(P:PyData->Prop):onD P (some d)=P d:=rfl
theorem x_frz:frz to env P=to env fun o e=>onD (fun d=>P d e) o.data:=by
 show to env _=to env _
 congr
theorem x_dataL(ds:List PyData):(MO.lst ds).data=some (.list ds):=rfl
theorem x_next:aNext A env=A.nx env:=rfl
theorem x_seq:aSeq ts tt A env=ts ⟨tt A,A.rt,A.bk,A.ct⟩ env:=rfl
theorem x_ifS:aIfS tc ts tt A env=tc env fun b e=>(b=true->ts A e)/\(b=false->tt A e):=rfl
theorem x_set:aSet i ta A env=ta env fun d e=>i<e.length/\A.nx (e.set i (.dat d)):=rfl
theorem x_setO:aSetO i to A env=to env fun o e=>i<e.length/\A.nx (e.set i (.own o)):=rfl
def onP(P:PyData->PyData->Prop):List PyData->Prop
 | [a,b]=>P a b
 | _=>False
theorem x_onP(P:PyData->PyData->Prop)(a b:PyData):onP P [a,b]=P a b:=rfl
theorem x_par:aPar i j tu A env=tu env fun ds e=>onP (fun d1 d2=>(i<e.length/\j<e.length)/\A.nx ((e.set i (.dat d1)).set j (.dat d2))) ds:=by
 unfold aPar onP
 rfl
def onDI(P:Int->Prop):Option Sl->Prop
 | some (.dat (.int j))=>P j
 | _=>False
theorem x_onDI(P:Int->Prop)(j:Int):onDI P (some (.dat (.int j)))=P j:=rfl
theorem x_aug(h:Int->Int->Int):aAug i h ta A env=onDI (fun j=>ta env fun d e=>onI (fun m=>i<e.length/\A.nx (e.set i (.dat (.int (h j m))))) d) env[i]? :=by
 have e:∀o:Option Sl,(∃j,o=some (.dat (.int j))/\ta env fun d e=>onI (fun m=>i<e.length/\A.nx (e.set i (.dat (.int (h j m))))) d)=onDI (fun j=>ta env fun d e=>onI (fun m=>i<e.length/\A.nx (e.set i (.dat (.int (h j m))))) d) o:=by
  intro o
  refine propext (Iff.intro (fun z => ?_) fun z => ?_)
  ·obtain⟨j,z,q⟩:=z
   rw [z]
   exact q
  ·unfold onDI at z
   split at z
   ·exact⟨_,rfl,z⟩
   ·exact z.elim
 rw [<- e]
 rfl
theorem x_ret:aRet ta A env=ta env fun d e=>A.rt (.dat d) e:=rfl
theorem x_retO:aRetO to A env=to env fun o e=>A.rt (.own o) e:=rfl
def onO(k:List PyData->Prop):Option Sl->Prop
 | some (.own (.lst ds))=>k ds
 | _=>False
theorem x_onO(ds:List PyData)(k:List PyData->Prop):onO k (some (.own (.lst ds)))=k ds:=rfl
theorem x_ownAt:ownAt i env=onO (fun _=>True) env[i]? :=by unfold ownAt onO;rfl
theorem x_withL(k:List PyData->Prop):withL i env k=onO k env[i]? :=by unfold withL onO;rfl
theorem x_ixO:aIxO i ta env P=(ownAt i env/\ta env fun d e=>withL i e fun ds=>onI (fun j=>opt (atI ds j) fun x=>P x e) d):=by
 have e:(fun(d:PyData) (e:List Sl)=>withL i e fun ds=>onI (fun j=>opt (atI ds j) fun x=>P x e) d)=(fun d e=>withL i e fun ds=>match d with
  | .int j =>∃x,atI ds j=some x/\P x e
  | _=>False):=by
  funext d e
  congr
  funext ds
  cases d <;> first | rfl | exact(opt_ex _ _).symm
 rw [e]
 rfl
theorem x_lenO:aLenO i env P=withL i env fun ds=>P (.int ds.length) env:=rfl
theorem x_app:aApp i ta A env=(ownAt i env/\ta env fun d e=>withL i e fun ds=>ds.length<sizeLine/\A.nx (e.set i (.own (.lst (ds ++ [d]))))):=rfl
theorem x_ins:aIns i ta tb A env=(ownAt i env/\ta env fun d e=>tb e fun d2 e2=>withL i e2 fun ds=>onI (fun k=>(ds.length<sizeLine/\0<=k/\k<=ds.length)/\A.nx (e2.set i (.own (.lst (insAt ds k.toNat d2))))) d):=rfl
theorem x_setI:aSetI i ta tb A env=ta env fun d e=>ownAt i e/\tb e fun k e2=>withL i e2 fun ds=>onI (fun k=>opt (ixN ds.length k) fun j=>A.nx (e2.set i (.own (.lst (ds.set j d))))) k:=by
 have e:(fun(d:PyData) (e:List Sl)=>ownAt i e/\tb e fun k e2=>withL i e2 fun ds=>onI (fun k=>opt (ixN ds.length k) fun j=>A.nx (e2.set i (.own (.lst (ds.set j d))))) k)=fun d e=>ownAt i e/\tb e fun k e2=>withL i e2 fun ds=>match k with
  | .int k =>∃j,ixN ds.length k=some j/\A.nx (e2.set i (.own (.lst (ds.set j d))))
  | _=>False:=by
  funext d e
  congr
  funext k e2
  congr
  funext ds
  cases k <;> first | rfl | exact(opt_ex _ _).symm
 rw [e]
 rfl
theorem x_agName(d:PyData)(Q:List Sl->Prop):agName i d env Q=(i<env.length/\Q (env.set i (.dat d))):=rfl
theorem x_agNil(Q:List Sl->Prop):agNil [] env Q=Q env:=rfl
theorem x_agCons(d:PyData)(ds:List PyData)(Q:List Sl->Prop):agCons g gs (d::ds) env Q=g d env fun e=>gs ds e Q:=rfl
theorem x_agTup(ds:List PyData)(Q:List Sl->Prop):agTup n gs (.tuple ds) env Q=(ds.length=n/\gs ds env Q):=rfl
theorem x_asg:aAsg ta g A env=ta env fun d e=>g d e A.nx:=rfl
def onAny(P:List PyData->Prop):PyData->Prop
 | .list b=>P b
 | .tuple b=>P b
 | .str z=>P (signs z)
 | _=>False
theorem x_onAnyL(b:List PyData)(P:List PyData->Prop):onAny P (.list b)=P b:=rfl
theorem x_onAnyT(b:List PyData)(P:List PyData->Prop):onAny P (.tuple b)=P b:=rfl
theorem x_onAnyS(b:Str)(P:List PyData->Prop):onAny P (.str b)=P (signs b):=rfl
theorem x_aiAny:aiAny ta env PL=ta env fun d e=>onAny (fun ds=>PL ds e) d:=rfl
def onR1(P:List PyData->Prop):List PyData->Prop
 | [.int j]=>rgOk j/\P (rgD 0 j.toNat)
 | _=>False
theorem x_onR1(j:Int)(P:List PyData->Prop):onR1 P [.int j]=(rgOk j/\P (rgD 0 j.toNat)):=rfl
theorem x_rng1:aiRng1 tu env PL=tu env fun ds e=>onR1 (fun xs=>PL xs e) ds:=rfl
def onZA(P:List PyData->Prop):List PyData->Prop
 | [.list ds,.list es]=>P (zipD ds es)
 | [.tuple ds,.tuple es]=>P (zipD ds es)
 | _=>False
theorem x_onZAL(ds es:List PyData)(P:List PyData->Prop):onZA P [.list ds,.list es]=P (zipD ds es):=rfl
theorem x_onZAT(ds es:List PyData)(P:List PyData->Prop):onZA P [.tuple ds,.tuple es]=P (zipD ds es):=rfl
theorem x_zipA:aiZipA tu env PL=tu env fun ds e=>onZA (fun xs=>PL xs e) ds:=rfl
theorem x_for:aFor ti g ts A env=ti env fun ds e=>forL g ts A ds e:=rfl
theorem x_lc(vs:List Nat):aLc ti g tc ta vs env PO=ti env fun ds e0=>lcL g tc ta vs (fun acc e=>PO (.lst acc) (backE e0 vs e)) ds [] e0:=rfl
theorem x_yes:aYes env PT=PT true env:=rfl
theorem x_wipeN:wipeE env []=env:=rfl
theorem x_wipeC(v:Nat)(vs:List Nat):wipeE env (v::vs)=(wipeE env vs).set v .non:=rfl
def keepO:Option Sl->Sl
 | some (.dat d) => .dat d
 | _ => .non
theorem x_keepD(v:Nat):keepD env v=keepO env[v]? :=by unfold keepD keepO;rfl
theorem x_keepO3:keepO (some .non) = .non:=rfl
theorem x_backN(e:List Sl):backE env [] e=e:=rfl
theorem x_backC(v:Nat)(vs:List Nat)(e:List Sl):backE env (v::vs) e=backE env vs (e.set v (keepD env v)):=rfl
theorem x_arNil:arNil env PA=PA [] env:=rfl
theorem x_arDat:arDat ta tr env PA=ta env fun d e=>tr e fun as e2=>PA (.dat d::as) e2:=rfl
theorem x_arBor:arBor i tr env PA=(ownAt i env/\tr env fun as e2=>PA (.bor i::as) e2):=rfl
theorem x_arOwn:arOwn to tr env PA=to env fun o e=>tr e fun as e2=>PA (.own o::as) e2:=rfl
theorem x_arScr:arScr i tr env PA=((∃K ns,env[i]? =some (.scr K ns))/\tr env fun as e2=>PA (.scr i::as) e2):=rfl
theorem x_grN:grab [] env=some ([],env):=rfl
theorem x_grD(d:PyData)(as:List Arg):grab (.dat d::as) env=(grab as env).map fun p:List Sl×List Sl=>(.dat d::p.1,p.2):=rfl
theorem x_grO(o:MO)(as:List Arg):grab (.own o::as) env=(grab as env).map fun p:List Sl×List Sl=>(.own o::p.1,p.2):=rfl
def grB(i:Nat)(as:List Arg)(env:List Sl):Option Sl->Option (List Sl×List Sl)
 | some (.own o)=>(grab as (env.set i .non)).map fun p:List Sl×List Sl=>(.own o::p.1,p.2)
 | _=>none
theorem x_grB(as:List Arg):grab (.bor i::as) env=grB i as env env[i]? :=by
 show (match env[i]? with
  | some (.own o)=>(grab as (env.set i .non)).map fun p:List Sl×List Sl=>(Sl.own o::p.1,p.2)
  | _=>none)=_
 unfold grB
 rfl
theorem x_grB1(as:List Arg)(o:MO):grB i as env (some (.own o))=(grab as (env.set i .non)).map fun p:List Sl×List Sl=>(.own o::p.1,p.2):=rfl
def grS(as:List Arg)(env:List Sl):Option Sl->Option (List Sl×List Sl)
 | some (.scr K ns)=>(grab as env).map fun p:List Sl×List Sl=>(.scr K ns::p.1,p.2)
 | _=>none
theorem x_grS(as:List Arg):grab (.scr i::as) env=grS as env env[i]? :=by
 show (match env[i]? with
  | some (.scr K ns)=>(grab as env).map fun p:List Sl×List Sl=>(Sl.scr K ns::p.1,p.2)
  | _=>none)=_
 unfold grS
 rfl
theorem x_grS1(as:List Arg)(K:PySem.W.Frag)(ns:List Int):grS as env (some (.scr K ns))=(grab as env).map fun p:List Sl×List Sl=>(.scr K ns::p.1,p.2):=rfl
theorem x_gvB(as:List Arg)(s:Sl)(ss:List Sl):give (.bor i::as) (s::ss) env=give as ss (env.set i s):=rfl
theorem x_gvD(d:PyData)(as:List Arg)(s:Sl)(ss:List Sl):give (.dat d::as) (s::ss) env=give as ss env:=rfl
theorem x_gvO(o:MO)(as:List Arg)(s:Sl)(ss:List Sl):give (.own o::as) (s::ss) env=give as ss env:=rfl
theorem x_gvS(as:List Arg)(s:Sl)(ss:List Sl):give (.scr i::as) (s::ss) env=give as ss env:=rfl
theorem x_gvN(ss:List Sl):give [] ss env=env:=by cases ss <;> rfl
def onSl(P:PyData->Prop):Sl->Prop:=fun r=>onD P r.data
theorem x_onSl(P:PyData->Prop)(d:PyData):onSl P (.dat d)=P d:=rfl
theorem x_onSlL(P:PyData->Prop)(d:List PyData):onSl P (.own (.lst d))=P (.list d):=rfl
def onOw(P:MO->Prop):Sl->Prop
 | .own o=>P o
 | _=>False
theorem x_onOw(P:MO->Prop)(o:MO):onOw P (.own o)=P o:=rfl
theorem x_fn(R:ASp):aFn R tr env P=tr env fun as e=>opt (grab as e) fun p=>R p.1 fun r ys=>onSl (fun d=>P d (give as ys p.2)) r:=by
 show tr env _=tr env _
 congr
 funext as e
 cases grab as e with
 | none=>rfl
 | some p =>
  obtain⟨x,y⟩:=p
  show R x _=R x _
  congr
theorem x_m0(C:Str->Prop)(g:Str->PyData):aM0 C g ta env P=ta env fun d e=>onS (fun a=>C a/\P (g a) e) d:=rfl
theorem x_join:aJoin ta tb env P=ta env fun d1 e1=>onS (fun a=>tb e1 fun d2 e2 =>∃ys:List Str,(d2 = .list (ys.map .str)∨d2 = .tuple (ys.map .str))/\joinOk a ys/\P (.str (Txt.join a ys)) e2) d1:=rfl
theorem x_isi(g:PyData->Bool):aIsi g ta env P=ta env fun d e=>P (.bool (g d)) e:=rfl
def onSc(K:PySem.W.Frag)(P:List Int->Prop)(o:Option Sl):Prop :=∃ns,o=some (.scr K ns)/\P ns
theorem x_onSc(K:PySem.W.Frag)(P:List Int->Prop)(ns:List Int):onSc K P (some (.scr K ns))=P ns:=propext ⟨fun⟨_,e,h⟩=>by cases e;exact h,fun h=>⟨_,rfl,h⟩⟩
theorem x_scrAt(K:PySem.W.Frag):scrAt K i env=onSc K (fun _=>True) env[i]? :=by unfold scrAt onSc;exact propext ⟨fun⟨n,h⟩=>⟨n,h,trivial⟩,fun⟨n,h,_⟩=>⟨n,h⟩⟩
theorem x_slS(K:PySem.W.Frag):aSlS K i tl th env PO=(scrAt K i env/\tl env fun lo e2=>th e2 fun hi e3=>onSc K (fun ns=>PO (.lst ((cutL ns lo hi).map .int)) e3) e3[i]?):=rfl
theorem x_move:aMove i env PO=onOw (fun o=>PO o (env.set i .non)) (env[i]?.getD .non):=by
 unfold aMove onOw
 cases env[i]? with
 | none=>rfl
 | some x=>cases x <;> rfl
theorem x_revS:aRevS ta env P=ta env fun d e=>onS (fun z=>sz z.length/\P (.str (revS z)) e) d:=rfl
theorem x_mask(ks:List Nat)(o n:Nat)(s:Sl)(e:List Sl):maskL ks o (n+1) (s::e)=(if o∈ks then s else .non)::maskL ks (o+1) n e:=rfl
theorem x_mask0(ks:List Nat)(o:Nat)(e:List Sl):maskL ks o 0 e = []:=rfl
end
end
section
theorem fmod_bd{a b:Int}(h:0<b):0<=a.fmod b/\a.fmod b<b:=⟨Int.fmod_nonneg_of_pos _ h,Int.fmod_lt_of_pos _ h⟩
theorem fdiv_bd{a b:Int}(ha:0<=a)(h:0<b):0<=a.fdiv b/\a.fdiv b<=a:=by
 rw [Int.fdiv_eq_ediv_of_nonneg _ (by omega)]
 exact⟨Int.ediv_nonneg ha (by omega),Int.ediv_le_self _ ha⟩
theorem DivOk.of{i j:Int}(h0:0<j)(h:j<2^64):DivOk i j:=⟨by omega,by
 have h2:j.natAbs<2^64:=by omega
 have:=(Nat.log2_lt (by omega)).mpr h2
 omega⟩
theorem MulOk.l{i j:Int}(h0:0<=i)(h:i<2^64):Cf.MulOk i j := .inl (.inl ⟨by omega,h⟩)
theorem MulOk.r{i j:Int}(h0:0<=j)(h:j<2^64):Cf.MulOk i j := .inl (.inr ⟨by omega,h⟩)
theorem lcL_ind{g:AG}{tt:AT}{te:AD}{vs:List Nat}{K:List PyData->List Sl->Prop}(I:List PyData->List PyData->List Sl->Prop)(fin:∀acc env,I [] acc env->K acc env)
  (step:∀d ds acc env,(∀acc' env',I ds acc' env'->lcL g tt te vs K ds acc' env')->I (d::ds) acc env ->
   g d (wipeE env vs) fun e2=>tt e2 fun b e3=>(b=true->te e3 fun y e4=>acc.length<sizeLine/\lcL g tt te vs K ds (acc ++ [y]) e4)/\(b=false->lcL g tt te vs K ds acc e3)) :
  ∀ds acc env,I ds acc env->lcL g tt te vs K ds acc env:=by
 intro ds
 induction ds with
 | nil=>exact fun acc env h=>fin acc env h
 | cons d ds ih=>exact fun acc env h=>step d ds acc env ih h
theorem forL_ind{g:AG}{tb:ATS}{A:AEnds}(I:List PyData->List Sl->Prop)(fin:∀env,I [] env->A.nx env)
  (step:∀d ds env,(∀env',I ds env'->forL g tb A ds env')->I (d::ds) env->g d env fun e2=>tb ⟨forL g tb A ds,A.rt,A.nx,forL g tb A ds⟩ e2):∀ds env,I ds env->forL g tb A ds env:=by
 intro ds
 induction ds with
 | nil=>exact fun env h=>fin env h
 | cons d ds ih=>exact fun env h=>step d ds env ih h
theorem Cal.none{P:Program}{w:World}{K:PySem.W.Frag}{mg:Str->Option Value}{base:Heap}{k:Nat}{x:Str}{ps:List Str}{R:ASp}{f:Addr}{fd:FuncData}(m0:mg x=some (.ref f))(kp:PySem.W.keepIn K (.ref f)=true)(B:Binds K fd ps [])(h:∀args P,¬R args P):Cal P w K mg base k x ps R :=
 ⟨f,fd,⟨fun _ _ _ _ ⟨_,_,_,_,_,hr,_⟩=>absurd hr (h _ _),fun _ _ _ _ _ _ _ _ _ _ _ _ _ ⟨_,_,_,_,_,hr,_⟩=>absurd hr (h _ _)⟩,m0,kp,B⟩
inductive Pl:Nat->PyData->Prop
 | non {n:Nat}:Pl (n+1) .none
 | bl {n:Nat} (b:Bool):Pl (n+1) (.bool b)
 | int {n:Nat} (i:Int):Pl (n+1) (.int i)
 | str {n:Nat} (z:Str):PyData.canLay0 (.str z)=true->Pl (n+1) (.str z)
 | lst {n:Nat} (ds:List PyData):(∀d∈ds,Pl n d)->ds.length<=2^24->Pl (n+1) (.list ds)
 | tup {n:Nat} (ds:List PyData):(∀d∈ds,Pl n d)->ds.length<=2^24->Pl (n+1) (.tuple ds)
theorem canAll_of{ds:List PyData}(h:∀d∈ds,d.canLay0=true):PyData.canLayAll0 ds=true:=by
 induction ds with
 | nil=>rfl
 | cons d ds ih =>
  show (d.canLay0&&PyData.canLayAll0 ds)=true
  rw [h d (.head _),ih fun e he=>h e (.tail _ he)]
  rfl
theorem depthAll_of{ds:List PyData}{n:Nat}(h:∀d∈ds,d.depth<=n):PyData.depthAll ds<=n:=by
 induction ds with
 | nil=>simp [PyData.depthAll]
 | cons d ds ih =>
  have h1:=h d (.head _)
  have h2:=ih fun e he=>h e (.tail _ he)
  simp only [PyData.depthAll]
  omega
theorem Pl.lay{n:Nat}{d:PyData}(h:Pl n d):d.canLay0=true/\d.depth<=n:=by
 induction h with
 | lst ds _ _ ih =>
  have h2:=depthAll_of fun d hd=>(ih d hd).2
  exact⟨canAll_of fun d hd=>(ih d hd).1,by simp only [PyData.depth];omega⟩
 | tup ds _ _ ih =>
  have h2:=depthAll_of fun d hd=>(ih d hd).2
  exact⟨canAll_of fun d hd=>(ih d hd).1,by simp only [PyData.depth];omega⟩
 | str z hz=>exact⟨hz,by simp [PyData.depth]⟩
 | _=>exact⟨rfl,by simp [PyData.depth]⟩
theorem Pl.shaped{n:Nat}{d:PyData}(h:Pl n d)(k:n<=64):SeqAt.shaped d=true:=by
 unfold SeqAt.shaped
 rw [h.lay.1,decide_eq_true (Nat.le_trans h.lay.2 k)]
 rfl
theorem EqOk.pl{n m:Nat}{d e:PyData}(h:Pl n d)(h2:Pl m e)(k:n<=64:=by decide)(k2:m<=64:=by decide):EqOk d e := .inl ⟨h.shaped k,h2.shaped k2⟩
theorem Pl.refl{n:Nat}{d:PyData}(h:Pl n d):PyData.eqv d d=true:=SeqAt.eqv_refl d h.lay.1
theorem EqOk.int(i j:Int):EqOk (.int i) (.int j) := .inl ⟨rfl,rfl⟩
theorem EqOk.bool(i j:Bool):EqOk (.bool i) (.bool j) := .inl ⟨rfl,rfl⟩
theorem EqOk.str(i j:Str):EqOk (.str i) (.str j) := .inr ⟨_,_,rfl,rfl⟩
theorem zipD_cons(d e:PyData)(ds es:List PyData):zipD (d::ds) (e::es) = .tuple [d,e]::zipD ds es:=rfl
theorem eqv_bool(b c:Bool):PyData.eqv (.bool b) (.bool c)=(b==c):=by cases b <;> cases c <;> rfl
theorem eqv_int(b c:Int):PyData.eqv (.int b) (.int c)=(b==c):=by simp only [PyData.eqv]
theorem eqv_str(b c:Str):PyData.eqv (.str b) (.str c)=(b==c):=by simp only [PyData.eqv]
theorem all_rep:∀{bs:List Bool},(∀b∈bs,b=true)->bs.all id=true:=fun h=>List.all_eq_true.mpr fun b hb=>h b hb
theorem onAny_imp{d:PyData}{k k':List PyData->Prop}(h:onAny k d)(q:∀ys,k ys->k' ys):onAny k' d:=by
 cases d <;> first | exact q _ h | exact h
def enumFrom:Nat->List Int->List PyData
 | _,[] =>[]
 | k,r::rs => .tuple [.int (k:Nat),.int r]::enumFrom (k+1) rs
theorem enumD_from:∀(k:Nat) (rs:List Int),((rs.map PyData.int).zipIdx k).map (fun p=>PyData.tuple [.int (p.2:Nat),p.1])=enumFrom k rs
 | _,[]=>rfl
 | k,r::rs=>by
  rw [List.map_cons,List.zipIdx_cons,List.map_cons,enumD_from (k+1) rs]
  rfl
theorem enumD_ints(rs:List Int):enumD (rs.map .int)=enumFrom 0 rs:=enumD_from 0 rs
theorem folded_le{ns:List Int}{m:Nat}:(cutL ns none (some (m:Int))).length<=m:=by
 unfold cutL
 rw [List.length_take,HT.sIx_nat,HT.sIx_none]
 omega
theorem folded_len{ns:List Int}{m:Nat}(h:m<63):0+(cutL ns (some (m:Int)) (some 63)).length<=2^30:=by
 unfold cutL
 rw [List.length_take,HT.sIx_nat,show (some (63:Int))=some ((63:Nat):Int)from rfl,HT.sIx_nat]
 omega
theorem folded_full{ns:List Int}{m:Nat}(h:m<63):cutL ns (some (m:Int)) (some 63) ≠ []->(cutL ns none (some (m:Int))).length=m:=by
 intro hne
 unfold cutL at hne ⊢
 rw [HT.sIx_nat,show (some (63:Int))=some ((63:Nat):Int)from rfl,HT.sIx_nat]at hne
 rw [List.length_take,HT.sIx_nat,HT.sIx_none,List.length_drop]
 by_cases hm:m<=ns.length
 ·omega
 ·exact absurd (by rw [List.drop_eq_nil_of_le (by omega),List.take_nil]) hne
theorem okD{P:Program}{w:World}{K:PySem.W.Frag}{mg:Str->Option Value}{base:Heap}{x qual:Str}{pr:Arguments}{body:List Stmt}{sco:Scope}{dvs:List V}{kws:List (Str×V)}{f:Addr}{fd:FuncData}{N ps:List Str}{k:Nat}{R:ASp}(F:FunD K x qual pr body sco dvs kws f fd)(S:FnScope N ps sco)(ks:List Nat)(len:∀args P,R args P->args.length=ps.length)(hks:∀i∈ks,i<ps.length)
  (hbody:∀(cdv:Value) (A:Around) (outer:List Env) (s:Shared) (H:Hp) (E:XK),RoomG k (A.deeper (envOfC qual sco s.heap.objs.size f cdv)) ->
   ∃ts t,ASs (cxOf CX0 P w K mg base N qual sco f cdv A outer s H E).nox ks body ts t /\
    ∀args P,R args P->t { nx:=fun env=>P (.dat .none) (mask ks ps.length env),rt:=fun r env=>P r (mask ks ps.length env) } (args++List.replicate (N.length-ps.length) .non)):FnG P w K mg base CX0 (k+1) f fd ps (spA R):=by
 obtain⟨oc,od,dV,kV,doc,pm,an,cdv,ct,osl,rfl,lk,hcd,_,_⟩:=F.ex
 refine fng_of lk hcd S (fun vs H Q E h => ?_) (fun A outer s H vs Q E hr h => ?_)
 ·obtain⟨F,fp,args,P,ok,hR,_⟩:=h
  rw [<- len _ _ hR,<- ok.env.len,List.length_map]
 ·obtain⟨F0,fp,args,Pw,ok,hR,q⟩:=h
  obtain⟨ts,t,hb,ht⟩:=hbody cdv A outer s H E hr
  have hl:vs.length=ps.length:=by rw [<- len _ _ hR,<- ok.env.len,List.length_map]
  refine⟨ts,PSs.nox hb.pe, ?_⟩
  have ok0:Ok F0 H (L2.start N vs) (args++List.replicate (N.length-ps.length) .non) fp:=by
   refine⟨ok.ex, ?_,ok.fr⟩
   unfold L2.start
   rw [hl]
   exact ok.env.start _
  have fin:∀{v:V} {r:Sl} {σ':St} {env':List Sl} {F' H':Hp} {fp':List Addr},Tr F0 H fp F' H' fp'->Ok F' H' (some v::σ') (r::env') fp'->Kept ks (L2.start N vs) σ'->Pw r (mask ks ps.length env')->Q v H':=by
   intro v r σ' env' F' H' fp' t' ok' k' hp
   have he:=ok'.env
   cases he with
   | cons h1 h2 h3 =>
    rename_i f1 f2
    obtain⟨fp2,he2,sub⟩:=EnvAt.mask (ks:=ks) (vs.map some) 0 h2 fun i hi _ hlt=>by
     have e:=k' i hi
     rw [Nat.sub_zero,e]
     unfold L2.start
     rw [List.length_map]at hlt
     rw [List.getElem?_append_left (by rw [List.length_map];omega)]
    rw [List.length_map,hl]at he2
    refine q v r _ F' H' (f1++fp2) ⟨t'.ex,t'.kp,t'.nw,fun b hb=>t'.nf b ((List.mem_append.mp hb).elim (List.mem_append_left _) fun z=>List.mem_append_right _ (sub b z))⟩
     ⟨ok'.ex,.cons h1 he2 fun a ha hb=>h3 a ha (sub a hb),fun b hb=>ok'.fr b ((List.mem_append.mp hb).elim (List.mem_append_left _) fun z=>List.mem_append_right _ (sub b z))⟩ hp
  refine hb.sm _ _ ok0 (ht _ _ hR) ⟨fun σ' env' F' H' fp' t' ok' k' hp => ?_,fun σ' env' F' H' fp' t' ok' k' hp=>hp.elim,fun σ' env' F' H' fp' t' ok' k' hp=>hp.elim,fun v r σ' env' F' H' fp' t' ok' k' hp=>fin t' ok' k' hp⟩
  exact fin (r := .dat .none) t' (ok'.cons .non) k' hp
theorem Cal.of{P:Program}{w:World}{K:PySem.W.Frag}{mg:Str->Option Value}{base:Heap}{k:Nat}{x:Str}{pr:Arguments}{body:List Stmt}{sco:Scope}{kws:List (Str×V)}{f:Addr}{fd:FuncData}{ps:List Str}{R:ASp}(o:FnG P w K mg base CX0 k f fd ps (spA R))(F:FunD K x x pr body sco [] kws f fd)(m0:mg x=some (.ref f))
  (h:∀(kV doc pm:Value) (an:Option Addr) (cdv ct:Value) (us:List Value),us.length=ps.length->bindArgs (PySem.W.fnOf x x pr body sco .none kV doc pm an cdv ct) ⟨us,[]⟩=pure (ps.zip us)):Cal P w K mg base k x ps R :=
 ⟨f,fd,o,m0,F.kp,F.bindsN h⟩
def BoxOk(n:Nat)(o:List PyData):Prop :=∃d s c:Int,o = [.int d,.int s,.int c]/\0<=d/\0<=s/\s<2^62/\0<=c/\c<=n
theorem BoxOk.mono{n m:Nat}{o:List PyData}(h:BoxOk n o)(k:n<=m):BoxOk m o:=by
 obtain⟨d,s,c,e,a,b,z,f,g⟩:=h
 exact⟨d,s,c,e,a,b,z,f,by omega⟩
abbrev big:Nat:=2^40
def R_take:ASp:=fun args P =>∃o many n,args = [.own (.lst o),.dat (.int many)]/\BoxOk n o/\n<2^40/\0<many/\many<2^40 /\∀v o',0<=v->v<many->BoxOk (n+1) o'->P (.dat (.int v)) [.own (.lst o'),.non]
theorem CPow.of5{i:Int}(h:i.natAbs<2^64):CPow i 5:=⟨by decide,by decide,h⟩
theorem take_law{d s c many:Int}{n:Nat}{P:Sl->List Sl->Prop}(h0:0<=d)(h1:0<=s)(h2:s<2^62)(h3:0<=c)(h4:c<=n)(hn:n<2^40)(hm:0<many)(hm2:many<2^40)
  (k:∀v o',0<=v->v<many->BoxOk (n+1) o'->P (.dat (.int v)) [.own (.lst o'),.non]) :
  (0<d->many≠0/\DivOk d many/\P (Sl.dat (PyData.int (d.fmod many))) [Sl.own (MO.lst [PyData.int (d.fdiv many),PyData.int s,PyData.int c]),Sl.non]) /\
  (¬0<d ->
   Cf.MulOk 39373 (c+1)/\CPow (s+39373*(c+1)) 5/\(2147483647:Int)≠0/\DivOk s 1000003/\(40009:Int)≠0 /\
        Cf.MulOk (((s+39373*(c+1))^Int.toNat 5).fmod 2147483647+(c+1)+s.fdiv 1000003)
          ((((s+39373*(c+1))^Int.toNat 5).fmod 2147483647).fmod 40009+7+(c+1)) /\
         (2147483629:Int)≠0 /\
          Cf.MulOk
            (((((s+39373*(c+1))^Int.toNat 5).fmod 2147483647+(c+1)+s.fdiv 1000003) *
               ((((s+39373*(c+1))^Int.toNat 5).fmod 2147483647).fmod 40009+7+(c+1))).fmod
             2147483629)
            48271 /\
           (2147483587:Int)≠0 /\
            DivOk
              ((((((s+39373*(c+1))^Int.toNat 5).fmod 2147483647+(c+1)+s.fdiv 1000003) *
                     ((((s+39373*(c+1))^Int.toNat 5).fmod 2147483647).fmod 40009+7 +
                      (c+1))).fmod
                   2147483629 *
                  48271 +
                 ((s+39373*(c+1))^Int.toNat 5).fmod 2147483647).fmod
               2147483587)
              64 /\
             many≠0 /\
              P
               (Sl.dat
                (PyData.int
                 ((((((((s+39373*(c+1))^Int.toNat 5).fmod 2147483647+(c+1) +
                             s.fdiv 1000003) *
                            ((((s+39373*(c+1))^Int.toNat 5).fmod 2147483647).fmod
                               40009 +
                              7 +
                             (c+1))).fmod
                          2147483629 *
                         48271 +
                        ((s+39373*(c+1))^Int.toNat 5).fmod 2147483647).fmod
                      2147483587).fdiv
                    64).fmod
                  many)))
               [Sl.own (MO.lst [PyData.int d,PyData.int s,PyData.int (c+1)]),Sl.non]):=by
 refine⟨fun hd=>⟨by omega,.of hm (by omega),k _ _ (fmod_bd hm).1 (fmod_bd hm).2 ⟨_,_,_,rfl,(fdiv_bd h0 hm).1,h1,h2,h3,by omega⟩⟩,fun hd => ?_⟩
 have b1:=fmod_bd (a:=(s+39373*(c+1))^Int.toNat 5) (b:=2147483647) (by decide)
 have b2:=fdiv_bd h1 (show (0:Int)<1000003 by decide)
 refine⟨.l (by decide) (by decide),CPow.of5 (by omega),by decide,.of (by decide) (by decide),by decide,.l (by omega) (by omega),by decide,.r (by decide) (by decide),by decide,.of (by decide) (by decide),by omega,k _ _ (fmod_bd hm).1 (fmod_bd hm).2 ⟨_,_,_,rfl,h0,h1,h2,by omega,by omega⟩⟩
theorem sz_of{n:Nat}(h:n<=2^24):sz n:=by
 unfold sz
 have:=sizeLine_eq
 omega
theorem sizeLine_big{n:Nat}(h:n<2^24):n<sizeLine:=by
 have:=sizeLine_eq
 omega
theorem one_small{c:Nat}:(⟨#[c]⟩:Str).length<=5592405:=by
 show (1:Nat)<=_
 decide
theorem perm_ins{α:Type}{ys es:List α}{k:Nat}{e:α}:(insAt ys k e++es).Perm (ys++e::es):=by
 unfold insAt
 have h:(ys.take k++e::ys.drop k).Perm (e::ys):=by
  refine List.perm_middle.trans ?_
  rw [List.take_append_drop]
 refine(h.append_right es).trans ?_
 rw [List.cons_append]
 exact List.perm_middle.symm
theorem dip_law{x:Int}{k:Nat}{P:Sl->List Sl->Prop}(hk:k<2^30)(q:∀o,BoxOk 0 o->P (.own (.lst o)) [.non,.non]):CPow 10 18 /\
    Cf.MulOk (if x<0 then -x else x) (if decide ((10:Int)^Int.toNat 18<=if x<0 then -x else x)=true then 1 else 0) /\
     (2305843009213693951:Int)≠0 /\
      Cf.MulOk 39373 (k:Int) /\
       sz 3 /\
        P
         (Sl.own
          (MO.lst
           [PyData.int
             ((if x<0 then -x else x)*if decide ((10:Int)^Int.toNat 18<=if x<0 then -x else x)=true then 1 else 0),
            PyData.int (Int.fmod x 2305843009213693951+39373 * ↑k+17),PyData.int 0]))
         [Sl.non,Sl.non]:=by
 have b1:=fmod_bd (a:=x) (b:=2305843009213693951) (by decide)
 have ht:∀b:Bool,0<=(if b=true then(1:Int)else 0)/\(if b=true then(1:Int)else 0)<2^64:=by intro b;cases b <;> decide
 refine⟨⟨by decide,by decide,by decide⟩,.r (ht _).1 (ht _).2,by decide,.l (by decide) (by decide),sz_of (by decide),q _ ⟨_,_,_,rfl, ?_,by omega,by omega,by decide,by decide⟩⟩
 refine Int.mul_nonneg ?_ (ht _).1
 split <;> omega
end
section
def tx(l:List Nat):Str:=⟨l.toArray⟩
theorem tx_len(l:List Nat):(tx l).length=l.length:=by show l.toArray.size=_;exact List.size_toArray
theorem tx_app(a b:List Nat):tx a++tx b=tx (a++b):=by
 show Str.mk (a.toArray++b.toArray)=_
 rw [List.append_toArray]
 rfl
theorem tx_of(z:Str):tx z.cps.toList=z:=Str.ext' (Array.toArray_toList)
def sg(c:Nat):PyData := .str (tx [c])
theorem signs_tx(l:List Nat):Cf.signs (tx l)=l.map sg:=rfl
theorem joinS:∀ls:List (List Nat),Str.join ⟨#[]⟩ (ls.map tx)=tx ls.flatten
 | []=>rfl
 | [c]=>by
  rw [List.flatten_cons,List.flatten_nil,List.append_nil]
  rfl
 | c::d::l=>by
  have ih:=joinS (d::l)
  show tx c++(⟨#[]⟩:Str)++Str.join ⟨#[]⟩ ((d::l).map tx)=_
  rw [ih]
  show tx c++tx []++tx (d::l).flatten=_
  rw [tx_app,tx_app,List.append_nil]
  rfl
theorem joinTx(ls:List (List Nat)):Txt.join ⟨#[]⟩ (ls.map tx)=tx ls.flatten:=(StrLaws.glued_eq_join _ _).trans (joinS ls)
theorem one_flat(l:List Nat):(l.map fun c =>[c]).flatten=l:=by
 induction l with
 | nil=>rfl
 | cons c l ih=>rw [List.map_cons,List.flatten_cons,ih];rfl
theorem join_tx(l:List Nat):Txt.join ⟨#[]⟩ (l.map fun c=>tx [c])=tx l:=by
 have:=joinTx (l.map fun c =>[c])
 rw [one_flat,List.map_map]at this
 exact this
theorem join_okL{ls:List (List Nat)}(h:ls.flatten.length<=2^20):joinOk ⟨#[]⟩ (ls.map tx):=by
 unfold joinOk
 have e:((ls.map tx).map (·.length)).sum=ls.flatten.length:=by
  rw [List.length_flatten,List.map_map]
  exact congrArg List.sum (List.map_congr_left fun a _=>tx_len a)
 rw [e]
 show _+_*0<=_
 omega
theorem map_sg(l:List Nat):l.map sg=(l.map fun c=>tx [c]).map PyData.str:=by rw [List.map_map];rfl
theorem join_ok1{l:List Nat}(h:l.length<=2^20):joinOk ⟨#[]⟩ (l.map fun c=>tx [c]):=by
 have:=join_okL (ls:=l.map fun c =>[c]) (by rw [one_flat];exact h)
 rw [List.map_map]at this
 exact this
abbrev Lt(c:Nat):Prop:=c ∈ [97,98,99,100,65,66,67,68]
abbrev Lts(l:List Nat):Prop :=∀c∈l,Lt c
def inv(c:Nat):Nat:=if 97<=c then c-32 else c+32
theorem inv_lt:∀{c:Nat},Lt c->Lt (inv c):=by
 have:∀c ∈ [97,98,99,100,65,66,67,68],inv c ∈ [97,98,99,100,65,66,67,68]:=by decide
 exact fun {c} h=>this c h
theorem inv_inv:∀{c:Nat},Lt c->inv (inv c)=c:=by
 have:∀c ∈ [97,98,99,100,65,66,67,68],inv (inv c)=c:=by decide
 exact fun {c} h=>this c h
theorem isupper_lt:∀{c:Nat},Lt c->Txt.isupper (tx [c])=decide (c<97):=by
 have:∀c ∈ [97,98,99,100,65,66,67,68],Txt.isupper (tx [c])=decide (c<97):=by decide +kernel
 exact fun {c} h=>this c h
theorem lt128:∀{c:Nat},Lt c->c<128:=by
 have:∀c ∈ [97,98,99,100,65,66,67,68],c<128:=by decide
 exact fun {c} h=>this c h
theorem up1_lt:∀{c:Nat},Lt c->up1 c=if 97<=c then inv c else c:=by
 have:∀c ∈ [97,98,99,100,65,66,67,68],up1 c=if 97<=c then inv c else c:=by decide
 exact fun {c} h=>this c h
theorem lo1_lt:∀{c:Nat},Lt c->lo1 c=if 97<=c then c else inv c:=by
 have:∀c ∈ [97,98,99,100,65,66,67,68],lo1 c=if 97<=c then c else inv c:=by decide
 exact fun {c} h=>this c h
theorem lo_or{c:Nat}(h:Lt c):c ∈ [97,98,99,100]↔97<=c:=by
 have:∀c ∈ [97,98,99,100,65,66,67,68],(c ∈ [97,98,99,100]↔97<=c):=by decide
 exact this _ h
theorem upper_tx{l:List Nat}(h:∀c∈l,c<128):Txt.upper (tx l)=tx (l.map up1):=by
 rw [upper_ascii h]
 show Str.mk (l.toArray.map up1)=_
 rw [List.map_toArray]
 rfl
theorem lower_tx{l:List Nat}(h:∀c∈l,c<128):Txt.lower (tx l)=tx (l.map lo1):=by
 rw [lower_ascii h]
 show Str.mk (l.toArray.map lo1)=_
 rw [List.map_toArray]
 rfl
theorem upper1{c:Nat}(h:Lt c)(k:97<=c):Txt.upper (tx [c])=tx [inv c]:=by
 rw [upper_tx (fun d hd=>by rw [List.mem_singleton.mp hd];exact lt128 h),List.map_cons,up1_lt h,if_pos k]
 rfl
theorem lower1{c:Nat}(h:Lt c)(k:¬97<=c):Txt.lower (tx [c])=tx [inv c]:=by
 rw [lower_tx (fun d hd=>by rw [List.mem_singleton.mp hd];exact lt128 h),List.map_cons,lo1_lt h,if_neg k]
 rfl
theorem upper_lts{l:List Nat}(h:∀c∈l,c ∈ [97,98,99,100]):Txt.upper (tx l)=tx (l.map inv):=by
 have hl:∀c∈l,Lt c:=fun c hc=>by
  have:=h c hc
  simp only [List.mem_cons,List.not_mem_nil,or_false]at this ⊢
  omega
 rw [upper_tx fun c hc=>lt128 (hl c hc)]
 congr 1
 exact List.map_congr_left fun c hc=>by rw [up1_lt (hl c hc),if_pos ((lo_or (hl c hc)).mp (h c hc))]
theorem rev_tx(l:List Nat):revS (tx l)=tx l.reverse:=rfl
theorem Lts.inv{l:List Nat}(h:Lts l):Lts (l.map inv):=fun c hc=>by
 obtain⟨d,hd,rfl⟩:=List.mem_map.mp hc
 exact inv_lt (h d hd)
theorem Lts.rev{l:List Nat}(h:Lts l):Lts l.reverse:=fun c hc=>h c (List.mem_reverse.mp hc)
theorem Lts.app{a b:List Nat}(h:Lts a)(k:Lts b):Lts (a++b):=fun c hc=>(List.mem_append.mp hc).elim (h c) (k c)
def binv(l:List Nat):List Nat:=l.reverse.map Cf.inv
theorem Lts.binv{l:List Nat}(h:Lts l):Lts (binv l):=h.rev.inv
theorem binv_len(l:List Nat):(binv l).length=l.length:=by unfold binv;rw [List.length_map,List.length_reverse]
theorem map_inv2{l:List Nat}(h:Lts l):(l.map Cf.inv).map Cf.inv=l:=by
 rw [List.map_map]
 have:l.map (Cf.inv∘Cf.inv)=l.map id:=List.map_congr_left fun c hc=>inv_inv (h c hc)
 rw [this,List.map_id]
theorem binv_binv{l:List Nat}(h:Lts l):Cf.binv (Cf.binv l)=l:=by
 unfold Cf.binv
 rw [<- List.map_reverse,List.reverse_reverse,map_inv2 h]
theorem binv_app(a b:List Nat):Cf.binv (a++b)=Cf.binv b++Cf.binv a:=by
 unfold Cf.binv
 rw [List.reverse_append,List.map_append]
def push:List Nat->Nat->List Nat
 | d::t,c=>if d=Cf.inv c then t else c::d::t
 | [],c =>[c]
def run(st l:List Nat):List Nat:=l.foldl push st
def red(l:List Nat):List Nat:=(run [] l).reverse
def Red:List Nat->Prop
 | c::d::t=>d≠Cf.inv c/\Red (d::t)
 | _=>True
theorem push_y{d c:Nat}{t:List Nat}(h:d=Cf.inv c):push (d::t) c=t:=if_pos h
theorem push_n{d c:Nat}{t:List Nat}(h:¬d=Cf.inv c):push (d::t) c=c::d::t:=if_neg h
theorem nil_lts:Lts []:=fun _ h=>by simp at h
theorem Red.tl{c:Nat}{t:List Nat}(h:Red (c::t)):Red t:=by
 cases t with
 | nil=>trivial
 | cons d t=>exact h.2
theorem Red.push{st:List Nat}(h:Red st)(c:Nat):Red (push st c):=by
 cases st with
 | nil=>trivial
 | cons d t =>
  by_cases e:d=Cf.inv c
  ·rw [push_y e]
   exact h.tl
  ·rw [push_n e]
   exact⟨e,h⟩
theorem Red.run{st:List Nat}(h:Red st):∀l,Red (run st l):=fun l=>by
 induction l generalizing st with
 | nil=>exact h
 | cons c l ih=>exact ih (h.push c)
theorem push_lts{st:List Nat}{c:Nat}(h:Lts st)(k:Lt c):Lts (push st c):=by
 cases st with
 | nil=>exact fun d hd=>by rw [List.mem_singleton.mp hd];exact k
 | cons d t =>
  by_cases z:d=Cf.inv c
  ·rw [push_y z]
   exact fun e he=>h e (.tail _ he)
  ·rw [push_n z]
   intro e he
   cases he with
   | head=>exact k
   | tail _ he=>exact h e he
theorem run_lts{st:List Nat}(h:Lts st){l:List Nat}(k:Lts l):Lts (run st l):=by
 induction l generalizing st with
 | nil=>exact h
 | cons c l ih=>exact ih (push_lts h (k c (.head _))) fun d hd=>k d (.tail _ hd)
theorem red_lts{l:List Nat}(k:Lts l):Lts (red l):=(run_lts nil_lts k).rev
theorem run_app(st a b:List Nat):run st (a++b)=run (run st a) b:=List.foldl_append
theorem push_inv{st:List Nat}{c:Nat}(h:Red st)(hc:Lt c):push (push st c) (Cf.inv c)=st:=by
 cases st with
 | nil=>simp [Cf.push,inv_inv hc]
 | cons d t =>
  by_cases e:d=Cf.inv c
  ·subst e
   have e1:push (Cf.inv c::t) c=t:=by simp [Cf.push]
   rw [e1]
   cases t with
   | nil=>rfl
   | cons e t =>
    have:=h.1
    simp only [Cf.push]
    rw [if_neg this]
  ·have e1:push (d::t) c=c::d::t:=by simp [Cf.push,e]
   rw [e1]
   simp [Cf.push,inv_inv hc]
theorem run_red{st:List Nat}(h:Red st):∀{u l:List Nat},Lts l->Lts u->run st (run u l).reverse=run (run st u.reverse) l:=by
 intro u l
 induction l generalizing u with
 | nil=>exact fun _ _=>rfl
 | cons c l ih =>
  intro hl hu
  have hc:=hl c (.head _)
  show run st (run (push u c) l).reverse=run (push (run st u.reverse) c) l
  rw [ih (fun d hd=>hl d (.tail _ hd)) (push_lts hu hc)]
  congr 1
  cases u with
  | nil=>rfl
  | cons d t =>
   by_cases e:d=Cf.inv c
   ·subst e
    have e1:push (Cf.inv c::t) c=t:=by simp [Cf.push]
    rw [e1,List.reverse_cons,run_app]
    show _=push (push (run st t.reverse) (Cf.inv c)) c
    have:=push_inv (h.run t.reverse) (inv_lt hc)
    rw [inv_inv hc]at this
    exact this.symm
   ·have e1:push (d::t) c=c::d::t:=by simp [Cf.push,e]
    rw [e1,List.reverse_cons,run_app]
    rfl
theorem run_of_red{st l:List Nat}(h:Red st)(hl:Lts l):run st (red l)=run st l:=run_red h hl nil_lts
theorem run_back{h st:List Nat}(r:Red st)(hl:Lts h):run (run st h) (Cf.binv h)=st:=by
 induction h generalizing st with
 | nil=>rfl
 | cons c h ih =>
  have e:Cf.binv (c::h)=Cf.binv h ++ [Cf.inv c]:=binv_app [c] h
  rw [e,run_app]
  show push (run (run (push st c) h) (Cf.binv h)) (Cf.inv c)=st
  rw [ih (r.push c) fun d hd=>hl d (.tail _ hd),push_inv r (hl c (.head _))]
theorem red_back{h:List Nat}(hl:Lts h):red (h++Cf.binv h) = []:=by
 unfold red
 rw [run_app,run_back (show Red []from trivial) hl]
 rfl
theorem red_back'{h:List Nat}(hl:Lts h):red (Cf.binv h++h) = []:=by
 have:=red_back hl.binv
 rw [binv_binv hl]at this
 exact this
theorem run_plain:∀{u v:List Nat},Red u->Lts u->(∀d t c w,v=d::t->u=c::w->d≠c)->run v (u.map Cf.inv)=(u.map Cf.inv).reverse++v
 | [],v,_,_,_=>rfl
 | c::u,v,r,hu,hj=>by
  have hc:=hu c (.head _)
  have e:push v (Cf.inv c)=Cf.inv c::v:=by
   cases v with
   | nil=>rfl
   | cons d t =>
    have:=hj d t c u rfl rfl
    simp only [Cf.push,inv_inv hc]
    rw [if_neg this]
  show run (push v (Cf.inv c)) (u.map Cf.inv)=_
  rw [e,run_plain r.tl (fun d hd=>hu d (.tail _ hd)) ?_,List.map_cons,List.reverse_cons,List.append_assoc]
  ·rfl
  ·intro d t e w h1 h2
   cases h1
   subst h2
   exact fun z=>r.1 z.symm
theorem red_binv{l:List Nat}(hl:Lts l):red (Cf.binv l)=Cf.binv (red l):=by
 have r0:Red []:=trivial
 have hw:=red_lts hl
 have e0:run (run [] (Cf.binv l)) l = []:=by
  have:=run_back (h:=Cf.binv l) r0 hl.binv
  rw [binv_binv hl]at this
  exact this
 have e1:run (run [] (Cf.binv l)) (red l) = []:=by rw [run_of_red (r0.run _) hl,e0]
 have e2:=run_back (r0.run (Cf.binv l)) hw
 rw [e1]at e2
 have e3:Cf.binv (red l)=(run [] l).map Cf.inv:=by unfold Cf.binv red;rw [List.reverse_reverse]
 have e4:=run_plain (v :=[]) (r0.run l) (run_lts nil_lts hl) (fun d t c w h=>by cases h)
 rw [e3]at e2
 rw [e4,List.append_nil]at e2
 unfold red
 rw [<- e2,List.reverse_reverse]
 exact e3.symm
end
section
theorem tx_ok{l:List Nat}(h:∀c∈l,c<0x110000):PyData.canLay0 (.str (tx l))=true:=by
 show PyData.strOk (tx l)=true
 unfold PyData.strOk
 show l.toArray.all _=true
 rw [List.all_toArray]
 exact List.all_eq_true.mpr fun c hc=>decide_eq_true (h c hc)
theorem Pl.tx{n:Nat}{l:List Nat}(h:Lts l):Pl (n+1) (.str (Cf.tx l)) := .str _ (tx_ok fun c hc=>Nat.lt_trans (lt128 (h c hc)) (by decide))
theorem Pl.sg{n:Nat}{c:Nat}(h:Lt c):Pl (n+1) (Cf.sg c):=Pl.tx (l :=[c]) fun d hd=>by rw [List.mem_singleton.mp hd];exact h
def unSg:PyData->Nat
 | .str z=>z.cps.toList.headD 0
 | _=>0
theorem perm_sg{ys:List PyData}{l:List Nat}(h:ys.Perm (l.map sg)):∃l':List Nat,ys=l'.map sg/\l'.Perm l:=by
 refine⟨ys.map unSg, ?_, ?_⟩
 ·rw [List.map_map]
  have:∀y∈ys,(sg∘unSg) y=id y:=fun y hy=>by
   obtain⟨c,_,rfl⟩:=List.mem_map.mp (h.mem_iff.mp hy)
   rfl
  rw [List.map_congr_left this,List.map_id]
 ·have:=h.map unSg
  rw [List.map_map]at this
  have e:l.map (unSg∘sg)=l.map id:=List.map_congr_left fun _ _=>rfl
  rw [e,List.map_id]at this
  exact this
theorem cutL_to{α:Type}(l:List α)(k:Nat):cutL l none (some (k:Int))=l.take k:=by
 unfold cutL
 rw [HT.sIx_nat,HT.sIx_none,List.drop_zero,Nat.sub_zero]
 rcases Nat.le_total k l.length with h | h
 ·rw [Nat.min_eq_left h]
 ·rw [Nat.min_eq_right h,List.take_length,List.take_of_length_le h]
theorem cutL_from{α:Type}(l:List α)(k:Nat):cutL l (some (k:Int)) none=l.drop k:=by
 unfold cutL
 rw [HT.sIx_nat,HT.sIx_none]
 rcases Nat.le_total k l.length with h | h
 ·rw [Nat.min_eq_left h,List.take_of_length_le (by rw [List.length_drop];omega)]
 ·rw [Nat.min_eq_right h,List.drop_length,List.take_nil,List.drop_of_length_le h]
abbrev Lo(c:Nat):Prop:=c ∈ [97,98,99,100]
theorem Lo.lt{c:Nat}(h:Lo c):Lt c:=by
 have:∀c ∈ [97,98,99,100],c ∈ [97,98,99,100,65,66,67,68]:=by decide
 exact this c h
end
section
def signV(z:Str):List V:=z.cps.toList.map fun c=>V.str ⟨#[c]⟩
theorem rps_signs{F:Hp}(z:Str):Rps F (signV z) (Cf.signs z):=by
 unfold signV Cf.signs
 generalize z.cps.toList=l
 induction l with
 | nil=>exact .nil
 | cons c l ih=>exact .cons (.str _) ih
theorem vals_by:∀{xs:List V} {us:List Value},xs.length=us.length->(∀(j:Nat) (x:V) (u:Value),xs[j]? =some x->us[j]? =some u->RelV x u)->Vals xs us
 | [],[],_,_ => .nil
 | x::xs,u::us,h,k => .cons (k 0 x u rfl rfl) (vals_by (by simpa using h) fun j x u e1 e2=>k (j+1) x u e1 e2)
theorem vals_signs{z:Str}{acc:Array Value}(h:ItemsOf (SignAt z) acc z.cps.size):Vals (signV z) acc.toList:=by
 refine vals_by ?_ fun j x u e1 e2 => ?_
 ·unfold signV
  rw [List.length_map,Array.length_toList,Array.length_toList,h.1]
 ·obtain⟨c,t,hc,rfl⟩:=h.2 j u (by simpa using e2)
  unfold signV at e1
  rw [List.getElem?_map]at e1
  have hc2:z.cps.toList[j]? =some c:=by simpa using hc
  rw [hc2]at e1
  cases e1
  exact⟨_,rfl⟩
theorem signV_len(z:Str):(signV z).length=z.cps.size:=by unfold signV;rw [List.length_map,Array.length_toList]
section
variable {X:Cx}
theorem call_list_ofS(hc:X.calm=true):CallR X (.type "list") (fun xs H Q =>∃z,xs = [.str z]/\z.length<=sizeLine /\∀p,H p=none->Q (.ref p) (upd H p (.lst (signV z)))):=by
 intro pins s σ H xs us Q I r h
 obtain⟨z,rfl,hz,q⟩:=h
 obtain⟨u,rfl,rx⟩:=vals1 r
 obtain⟨t,rfl⟩:=rx
 refine call_list_str (I.ok.hd hc) z t (fun h' tk acc' c' hk hS' hacc => ?_) hz
 exact⟨.ref s.heap.objs.size,upd H s.heap.objs.size (.lst (signV z)),I.laid (t':=tk) hk (Nat.le_refl _)
  (show ObjOk X.prog X.w _ h' _ (.lst (signV z))from⟨by rw [signV_len];exact hz,acc'.toList,c',vals_signs hacc,by rw [Array.toArray_toList];exact hS'⟩),rfl,q _ (I.hok.fresh (Nat.le_refl _))⟩
theorem call_tuple_ofS(hc:X.calm=true):CallR X (.type "tuple") (fun xs H Q =>∃z,xs = [.str z]/\z.length<=sizeLine /\∀p,H p=none->Q (.ref p) (upd H p (.tup (signV z)))):=by
 intro pins s σ H xs us Q I r h
 obtain⟨z,rfl,hz,q⟩:=h
 obtain⟨u,rfl,rx⟩:=vals1 r
 obtain⟨t,rfl⟩:=rx
 refine call_tuple_str (I.ok.hd hc) z t (fun h' tk acc hk hacc => ?_) hz
 have I1:Inv X pins σ H { s with heap:=h',toks:=tk }:=I.kept (t':=tk) hk
 have I2:Inv X pins σ (upd H h'.objs.size (.tup (signV z))) { s with heap:=h'.push { cls := .type "tuple",data := .seq acc },toks:=tk } :=
  I1.laid (t':=tk) (fun b o e=>Heap.get?_push_of_some _ e) (Nat.le_refl _) (show ObjOk X.prog X.w _ _ _ (.tup (signV z))from⟨by rw [signV_len];exact hz,acc.toList,vals_signs hacc,by rw [Array.toArray_toList];exact IsTup.new _ _⟩)
 exact⟨.ref h'.objs.size,_,I2,rfl,q _ (I1.hok.fresh (Nat.le_refl _))⟩
end
def fListA:List PyData->(List PyData->Prop)->Prop
 | [.list ds],k=>k ds
 | [.tuple ds],k=>k ds
 | [.str z],k=>sz z.length/\k (Cf.signs z)
 | _,_=>False
def rListA(K:PySem.W.Frag):List V->Hp->VK->Prop:=fun xs H Q=>rListOf K xs H Q ∨∃z,xs = [.str z]/\z.length<=sizeLine /\∀p,H p=none->Q (.ref p) (upd H p (.lst (signV z)))
theorem call_list_A{X:Cx}(hc:X.calm=true):CallR X (.type "list") (rListA X.K):=CallR.or call_list_of (call_list_ofS hc)
theorem sim_listA{K:PySem.W.Frag}:SimCo (rListA K) fListA:=by
 intro F H xs ds P Q ex r h q
 match ds,r,h with
 | [.list ds],r,h=>exact .inl (sim_list P Q ex r h q)
 | [.tuple ds],r,h=>exact .inl (sim_list P Q ex r h q)
 | [.str z],r,h =>
  obtain⟨v,rfl,r1⟩:=rps1 r
  cases r1
  exact .inr ⟨z,rfl,h.1,fun p hp=>q _ _ _ hp (rps_signs z) h.2⟩
def fTupleA:List PyData->(PyData->Prop)->Prop
 | [.list ds],k=>k (.tuple ds)
 | [.tuple ds],k=>k (.tuple ds)
 | [.str z],k=>sz z.length/\k (.tuple (Cf.signs z))
 | _,_=>False
def rTupleA(K:PySem.W.Frag):List V->Hp->VK->Prop:=fun xs H Q=>rTupleOf K xs H Q ∨∃z,xs = [.str z]/\z.length<=sizeLine /\∀p,H p=none->Q (.ref p) (upd H p (.tup (signV z)))
theorem call_tuple_A{X:Cx}(hc:X.calm=true):CallR X (.type "tuple") (rTupleA X.K):=CallR.or call_tuple_of (call_tuple_ofS hc)
theorem sim_tupleA{K:PySem.W.Frag}:SimC (rTupleA K) fTupleA:=by
 intro F H xs ds P Q ex r h q
 match ds,r,h with
 | [.list ds],r,h=>exact .inl (sim_tuple P Q ex r h q)
 | [.tuple ds],r,h=>exact .inl (sim_tuple P Q ex r h q)
 | [.str z],r,h =>
  obtain⟨v,rfl,r1⟩:=rps1 r
  cases r1
  refine .inr ⟨z,rfl,h.1,fun p hp => ?_⟩
  obtain⟨t1,x1⟩:=tr_new (o := .tup (signV z)) hp ex
  exact q _ _ _ _ t1 x1 (.tup upd_same ((rps_signs z).up t1.ex)) h.2
section
variable (xs:List PyData) (a:Str)
theorem f_listAL(K:List PyData->Prop):fListA [.list xs] K=K xs:=rfl
theorem f_tupAL(K:PyData->Prop):fTupleA [.list xs] K=K (.tuple xs):=rfl
end
end
section
theorem run_red_to{a b st:List Nat}(r:Red st)(ha:Lts a)(hb:Lts b)(h:red a=red b):run st a=run st b:=by
 rw [<- run_of_red r ha,<- run_of_red r hb,h]
theorem red_mid{a b c d:List Nat}(ha:Lts a)(hb:Lts b)(hc:Lts c)(hd:Lts d)(h:red b=red c):red (a++b++d)=red (a++c++d):=by
 unfold red
 rw [run_app,run_app,run_app [] (a++c) d,run_app [] a c,run_red_to ((show Red []from trivial).run a) hb hc h]
theorem red_red{a:List Nat}(ha:Lts a):red (red a)=red a:=by
 have:=run_of_red (show Red []from trivial) ha
 unfold red at this ⊢
 rw [this]
theorem red_cancel'{a b x:List Nat}(ha:Lts a)(hb:Lts b)(hx:Lts x):red (a++(binv x++x)++b)=red (a++b):=by
 have:=red_mid ha (hx.binv.app hx) nil_lts hb (show red (binv x++x)=red []by rw [red_back' hx];rfl)
 rw [List.append_nil]at this
 exact this
end
section
theorem fold_cps(z:Str):∀(n:Nat) (acc:Array Nat),((List.replicate n z.cps).foldl (· ++ ·) acc).toList=acc.toList++(List.replicate n z.cps.toList).flatten
 | 0,acc=>by simp
 | n+1,acc=>by
  rw [List.replicate_succ,List.foldl_cons,fold_cps z n,List.replicate_succ,List.flatten_cons,Array.toList_append,List.append_assoc]
def timesS(z:Str)(n:Nat):Str:=tx (List.replicate n z.cps.toList).flatten
theorem fold_times(z:Str)(n:Nat):(⟨(List.replicate n z.cps).foldl (· ++ ·) #[]⟩:Str)=timesS z n:=by
 apply Str.ext'
 apply Array.toList_inj.mp
 rw [fold_cps]
 rfl
theorem timesS_len(z:Str)(n:Nat):(timesS z n).length=n*z.length:=by
 unfold timesS
 rw [tx_len,List.length_flatten,List.map_replicate,List.sum_replicate_nat,Array.length_toList]
 rfl
def rMulS:R2:=fun x y H Q =>∃z k,x = .str z/\y = .int k /\ -(2^63)<=k/\k<2^63/\z.length*k.toNat<=sizeLine/\Q (.str (timesS z k.toNat)) H
theorem times_one(z:Str):timesS z 1=z:=by
 unfold timesS
 rw [List.replicate_one,List.flatten_cons,List.flatten_nil,List.append_nil]
 exact tx_of z
theorem op_mulS{X:Cx}:OpR X (binaryOp .Mult) rMulS:=by
 intro pins s σ H x y v u Q I rx ry h
 obtain⟨z,k,rfl,rfl,h1,h2,hz,q⟩:=h
 obtain⟨t,rfl⟩:=rx
 obtain⟨t',rfl⟩:=ry
 have hsl:=sizeLine_eq
 refine P.mul_str (by rw [decide_eq_false (by omega),decide_eq_false (by omega)];rfl) (fun g1 _ => ?_) (fun g1 _ => ?_) ?_
 ·have hk:(0:Int)<k:=by omega
  have hm:(z.length:Int)*k<=16777216:=by
   have e:((z.length*k.toNat:Nat):Int)=(z.length:Int)*k:=by rw [Int.natCast_mul,Int.toNat_of_nonneg (by omega)]
   omega
  have:(z.length:Int)<=(2^63-1) / k:=(Int.le_ediv_iff_mul_le hk).mpr (by omega)
  omega
 ·unfold Builtin.Str.tooLong
  exact decide_eq_false (by omega)
 ·by_cases g1:k<1
  ·rw [if_pos g1]
   have e:k.toNat=0:=by omega
   rw [e]at q
   exact⟨by decide,.str _,H,I.tok _,⟨_,rfl⟩,q⟩
  ·rw [if_neg g1]
   by_cases g2:(k==1||z.length==0)=true
   ·rw [if_pos g2]
    have e:timesS z k.toNat=z:=by
     rcases Bool.or_eq_true_iff.mp g2 with e | e
     ·have e:=eq_of_beq e
      rw [e]
      exact times_one z
     ·have e:=eq_of_beq e
      have e2:z.cps.toList = []:=by
       have:z.cps.toList.length=0:=by rw [Array.length_toList];exact e
       exact List.length_eq_zero_iff.mp this
      unfold timesS
      rw [e2]
      have e3:(List.replicate k.toNat ([]:List Nat)).flatten = []:=by simp
      rw [e3,<- e2]
      exact tx_of z
    rw [e]at q
    exact⟨.str _,H,I,⟨_,rfl⟩,q⟩
   ·rw [if_neg g2,fold_times]
    refine⟨?_,.str _,H,I.tok _,⟨_,rfl⟩,q⟩
    rw [timesS_len,Nat.mul_comm]
    exact hz
def fMulA:PyData->PyData->(PyData->Prop)->Prop
 | .int i,.int j,k=>MulOk i j/\k (.int (i*j))
 | .list xs,.int j,k=>(-(2^63)<=j/\j<2^63/\sz (xs.length*j.toNat))/\k (.list (List.replicate j.toNat xs).flatten)
 | .str z,.int j,k=>(-(2^63)<=j/\j<2^63/\sz (z.length*j.toNat))/\k (.str (timesS z j.toNat))
 | _,_,_=>False
theorem f_mulAI(i j:Int)(K:PyData->Prop):fMulA (.int i) (.int j) K=(MulOk i j/\K (.int (i*j))):=rfl
def rMulW:R2:=fun x y H Q=>rMulAll x y H Q∨rMulS x y H Q
theorem sim_mulA:SimR2 rMulW fMulA:=by
 intro F H x y d1 d2 P Q ex r1 r2 h q
 cases d1 with
 | int i=>exact .inl (sim_mul P Q ex r1 r2 (by cases d2 <;> exact h) q)
 | list i=>exact .inl (sim_mul P Q ex r1 r2 (by cases d2 <;> exact h) q)
 | str z =>
  cases r1
  cases r2 with
  | int j=>exact .inr ⟨_,j,rfl,rfl,h.1.1,h.1.2.1,h.1.2.2,q _ _ _ _ tr0 ex (.str _) h.2⟩
  | _=>exact h.elim
 | _=>cases d2 <;> exact h.elim
theorem ae_mulA{X:Cx}{a b:Expr}{pos:Pos}{sa sb:TE}{ta tb:AD}(ha:AE X a sa ta)(hb:AE X b sb tb):AE X (.BinOp a .Mult b pos) (tOp rMulW sa sb) (aOp fMulA ta tb):=ae_op ((op_mulA.or op_rep).or op_mulS) sim_mulA ha hb
end
section
theorem red_two{a b:List Nat}(ha:Lts a)(hb:Lts b):red (red a++red b)=red (a++b):=by
 have e1:=red_mid nil_lts (red_lts ha) ha (red_lts hb) (red_red ha)
 have e2:=red_mid ha (red_lts hb) hb nil_lts (red_red hb)
 simp only [List.nil_append,List.append_nil]at e1 e2
 rw [e1,e2]
end
section
section
variable {x y z:Nat} (hx:Lt x) (hy:Lt y) (hz:Lt z) (hxy:x % 32≠y % 32) (hyz:y % 32≠z % 32)
include hx hy
include hxy
include hz hyz
end
end
section
def noVals{κ:Type}:List (κ×PyData)->Bool
 | []=>true
 | p::r=>noList p.2&&noVals r
def noPts:List Prt->Bool
 | []=>true
 | .dat d::r=>noList d&&noPts r
 | .lst ds::r=>noLists ds&&noPts r
theorem pts_tups{F F' H:Hp}(e:TupSame F F'):∀{xs:List V} {ps:List Prt} {fp:List Addr},PtAt F H xs ps fp->noPts ps=true->PtAt F' H xs ps fp
 | _,_,_,.nil,_ => .nil
 | _,_,_,.dat (d:=d) (ps:=ps) r t,n=>by
  have n':noList d=true/\noPts ps=true:=by simpa only [noPts,Bool.and_eq_true]using n
  exact .dat (Rp.tups e _ r n'.1) (pts_tups e t n'.2)
 | _,_,_,.lst (ds:=ds) (ps:=ps) h r m t,n=>by
  have n':noLists ds=true/\noPts ps=true:=by simpa only [noPts,Bool.and_eq_true]using n
  exact .lst h (Rps.tups e _ r n'.1) m (pts_tups e t n'.2)
def noMI:MI->Bool
 | .lst ds=>noLists ds
 | .dK kvs=>noVals kvs
def noMIs:List (Key×MI)->Bool
 | []=>true
 | p::r=>noMI p.2&&noMIs r
def PkSl:Sl->Sl->Prop
 | _,.non=>True
 | s,.dat d=>s = .dat d
 | s,.scr K ns=>s = .scr K ns
 | s,.ks mk S=>s = .ks mk S
 | s,.tab P nm=>s = .tab P nm
 | s,.fn mk=>s = .fn mk
 | _,.own (.tup ps)=>noPts ps=true
 | _,.own (.lst es)=>noLists es=true
 | _,.own (.dK kvs)=>noVals kvs=true
 | _,.own (.dT kvs)=>noVals kvs=true
 | _,.own (.nn ms)=>noMIs ms=true
 | _,.own (.ins _ _ _)=>False
def PkE:List Sl->List Sl->Prop
 | s::e,s'::e'=>PkSl s s'/\PkE e e'
 | [],[]=>True
 | _,_=>False
theorem paired_noVals{κ:Type}{F F':Hp}(e:TupSame F F'):∀{xs:List (κ×V)} {ds:List (κ×PyData)},Paired (fun(p:κ×V) (q:κ×PyData)=>p.1=q.1/\Rp F p.2 q.2) xs ds->noVals ds=true->Paired (fun(p:κ×V) (q:κ×PyData)=>p.1=q.1/\Rp F' p.2 q.2) xs ds
 | _,_,.nil,_ => .nil
 | _,q::r,.cons h t,n=>by
  have n':noList q.2=true/\noVals r=true:=by simpa only [noVals,Bool.and_eq_true]using n
  exact .cons ⟨h.1,Rp.tups e _ h.2 n'.1⟩ (paired_noVals e t n'.2)
theorem mi_tups{F F' H:Hp}(e:TupSame F F'){b:Addr}{m:MI}(h:MiAt F H b m)(n:noMI m=true):MiAt F' H b m:=by
 cases m with
 | lst ds=>obtain⟨xs,h1,h2⟩:=h;exact⟨xs,h1,Rps.tups e _ h2 n⟩
 | dK ds=>obtain⟨xs,h1,h2⟩:=h;exact⟨xs,h1,paired_noVals e h2 n⟩
theorem nn_tups{F F' H:Hp}(e:TupSame F F'):∀{xs:List (Key×V)} {ms:List (Key×MI)} {fp:List Addr},NnAt F H xs ms fp->noMIs ms=true->NnAt F' H xs ms fp
 | _,_,_,.nil,_ => .nil
 | _,_,_,.cons (m:=m) (ms:=ms) h m' t,n=>by
  have n':noMI m=true/\noMIs ms=true:=by simpa only [noMIs,Bool.and_eq_true]using n
  exact .cons (mi_tups e h n'.1) m' (nn_tups e t n'.2)
theorem pk_conv{F H F2 H2 F3:Hp}(ex:Ex F F3)(ts:TupSame F2 F3):∀{σ:St} {env e:List Sl} {fA fB:List Addr},EnvAt F H σ env fA->EnvAt F2 H2 σ e fB->PkE env e->EnvAt F3 H2 σ e fB
 | _,_,_,_,_,.nil,.nil,_ => .nil
 | _,_,_,_,_,.cons (s:=s) h1 h2 h3,.cons (s:=s') k1 k2 k3,p=>by
  refine .cons ?_ (pk_conv ex ts h2 k2 p.2) k3
  have p1:=p.1
  cases k1 with
  | non=>exact .non
  | dat r =>
   cases (show s=_ from p1)
   cases h1 with
   | dat r'=>exact .dat (r'.up ex)
  | scr r =>
   cases (show s=_ from p1)
   cases h1 with
   | scr r'=>exact .scr (ex_l ex r')
  | ks L r1 r2 r3 =>
   cases (show s=_ from p1)
   cases h1 with
   | ks L' s1 s2 s3=>exact .ks L' (ex _ _ s1) (fun p hp=>ex _ _ (s2 p hp)) s3
  | tab r=>exact .tab (r.same ts.2)
  | fn r1 r2=>exact .fn (ts.2 _ _ r1) (ts.2 _ _ r2)
  | own m =>
   rename_i o
   refine .own ?_
   cases o with
   | tup ps =>
    obtain⟨fq,xs,e,n,g1,g2⟩:=m
    exact⟨fq,xs,e,n,g1,pts_tups ts g2 p1⟩
   | lst ds =>
    obtain⟨e,xs,g1,g2⟩:=m
    exact⟨e,xs,g1,Rps.tups ts _ g2 p1⟩
   | dK ds =>
    obtain⟨e,xs,g1,g2⟩:=m
    exact⟨e,xs,g1,paired_noVals ts g2 p1⟩
   | dT ds =>
    obtain⟨e,xs,g1,g2⟩:=m
    exact⟨e,xs,g1,paired_noVals ts g2 p1⟩
   | nn ms =>
    obtain⟨fq,xs,e,n,g1,g2⟩:=m
    exact⟨fq,xs,e,n,g1,nn_tups ts g2 p1⟩
   | ins C nm fs=>exact(show False from p1).elim
theorem pk_core{F H:Hp}{σ:St}{env:List Sl}{fp:List Addr}{i:Nat}{ds:List PyData}(ok:Ok F H σ env fp)(hi:env[i]? =some (.own (.lst ds))) :
  ∃F1 fp1,Ok F1 H σ (env.set i (.dat (.list ds))) fp1/\(∀b∈fp1,b∈fp) /\∀(e:List Sl) (F2 H2:Hp) (fp2:List Addr),Tr F1 H fp1 F2 H2 fp2->Ok F2 H2 σ e fp2->PkE (env.set i .non) (e.set i .non)->e.length=env.length ->
   ∃F3 fp3,Tr F H fp F3 H2 fp3/\Ok F3 H2 σ (e.set i (.own (.lst ds))) fp3/\TupSame F2 F3/\(∀b,F2 b=none->F3 b=none) /\∀b∈fp3,b∈fp2∨F2 b≠none:=by
 obtain⟨x,fi,fr,e1,hs,hm,hd,put⟩:=ok.env.at hi
 cases hs with
 | own m =>
  rename_i a
  obtain⟨rfl,xs,h1,h2⟩:=m
  have fa:F a=none:=ok.fr a ((hm a).mpr (.inl (by simp)))
  have ex1:Ex F (upd F a (.lst xs)):=Ex.new fa
  obtain⟨fp1,he1,hm1⟩:=put (upd F a (.lst xs)) H (some (.ref a)) (.dat (.list ds)) [] ex1 (fun _ _ _ u=>u) (.dat (.lst upd_same (h2.up ex1))) (fun _ hb=>by simp at hb)
  obtain⟨fpn,hen,hmn⟩:=put F H (some (.ref a)) .non [] (Ex.refl F) (fun _ _ _ u=>u) .non (fun _ hb=>by simp at hb)
  rw [set_same e1]at he1 hen
  have sub1:∀b,b∈fp1↔b∈fr:=fun b=>(hm1 b).trans ⟨fun z=>z.elim (fun y=>by simp at y) id,.inr⟩
  have ahi:i<env.length:=(List.getElem?_eq_some_iff.mp hi).1
  refine⟨_,fp1,⟨fun b u z => ?_,he1,fun b hb => ?_⟩,fun b hb=>(hm b).mpr (.inr ((sub1 b).mp hb)),fun e F2 H2 fp2 tr ok2 pk hl => ?_⟩
  ·by_cases hb:b=a
   ·subst hb
    rw [upd_same]at z
    rw [h1]
    exact z
   ·rw [upd_ne hb]at z
    exact ok.ex b u z
  ·have hb':=(sub1 b).mp hb
   have:b≠a:=fun z=>hd a (by simp) (z ▸ hb')
   rw [upd_ne this]
   exact ok.fr b ((hm b).mpr (.inr hb'))
  ·have g2:F2 a=some (.lst xs):=tr.ex a _ upd_same
   have na:a∉fp2:=fun z=>by rw [ok2.fr a z]at g2;cases g2
   have hH2:H2 a=some (.lst xs):=ok2.ex a _ g2
   have he2:i<e.length:=by omega
   obtain⟨y,gi,gr,k1,ks,km,kd,kput⟩:=ok2.env.at (List.getElem?_eq_getElem he2)
   obtain⟨fpB,hB,hmB⟩:=kput F2 H2 y .non [] (Ex.refl F2) (fun _ _ _ u=>u) .non (fun _ hb=>by simp at hb)
   rw [set_same k1]at hB
   have subB:∀b,b∈fpB->b∈fp2:=fun b hb=>(km b).mpr (((hmB b).mp hb).elim (fun z=>by simp at z) .inr)
   let F3:Hp:=fun b=>if b=a then none else F2 b
   have f3a:F3 a=none:=if_pos rfl
   have f3n:∀b,b≠a->F3 b=F2 b:=fun b hb=>if_neg hb
   have ex3:Ex F F3:=fun b u z=>by
    have hb:b≠a:=fun y=>by rw [y,fa]at z;cases z
    rw [f3n b hb]
    exact tr.ex b u (by rw [upd_ne hb];exact z)
   have ts3:TupSame F2 F3:=⟨fun b ys z=>by
    have hb:b≠a:=fun y=>by rw [y,g2]at z;cases z
    rw [f3n b hb]
    exact z,fun b ys z=>by
    have hb:b≠a:=fun y=>by rw [y,g2]at z;cases z
    rw [f3n b hb]
    exact z⟩
   have hC:=pk_conv ex3 ts3 hen hB pk
   have hset:(e.set i .non)[i]? =some .non:=by rw [List.getElem?_set_self he2]
   obtain⟨z,qi,qr,q1,qs,qm,qd,qput⟩:=hC.at hset
   rw [e1]at q1
   cases q1
   have nqr:a∉qr:=fun y=>na (subB a ((qm a).mpr (.inr y)))
   obtain⟨fp3,hD,hmD⟩:=qput F3 H2 (some (.ref a)) (.own (.lst ds)) [a] (Ex.refl F3) (fun _ _ _ u=>u) (.own ⟨rfl,xs,hH2,h2.up ex3⟩) (fun b hb y=>by
    have:b=a:=by simpa using hb
    exact nqr (this ▸ y))
   rw [set_same e1,List.set_set]at hD
   have sub3:∀b,b∈fp3->b=a∨b∈fp2:=fun b hb=>((hmD b).mp hb).elim (fun y => .inl (by simpa using y)) fun y => .inr (subB b ((qm b).mpr (.inr y)))
   refine⟨F3,fp3,⟨ex3,fun b u z n => ?_,fun b z => ?_,fun b hb => ?_⟩,⟨fun b u z => ?_,hD,fun b hb => ?_⟩,ts3,fun b z=>(Decidable.em (b=a)).elim (fun hb=>by subst hb;exact f3a) fun hb=>(f3n b hb).trans z,fun b hb=>(sub3 b hb).elim (fun y => .inr (by rw [y,g2];simp)) .inl⟩
   ·exact tr.kp b u z fun y=>n ((hm b).mpr (.inr ((sub1 b).mp y)))
   ·have hb:b≠a:=fun y=>by rw [y,f3a]at z;exact z rfl
    rw [f3n b hb]at z
    rcases tr.nw b z with y | y | y
    ·rw [upd_ne hb]at y
     exact .inl y
    ·exact .inr (.inl y)
    ·exact .inr (.inr ((hm b).mpr (.inr ((sub1 b).mp y))))
   ·rcases sub3 b hb with rfl | y
    ·exact .inl ((hm b).mpr (.inl (by simp)))
    ·rcases tr.nf b y with w | w
     ·exact .inl ((hm b).mpr (.inr ((sub1 b).mp w)))
     ·exact .inr w
   ·have hb:b≠a:=fun y=>by rw [y,f3a]at z;cases z
    rw [f3n b hb]at z
    exact ok2.ex b u z
   ·rcases sub3 b hb with rfl | y
    ·exact f3a
    ·have hb:b≠a:=fun w=>na (w ▸ y)
     rw [f3n b hb]
     exact ok2.fr b y
def aPk(i:Nat)(t:AD):AD:=fun env P=>withL i env fun ds=>t (env.set i (.dat (.list ds))) fun d e=>(noList d=true/\PkE (env.set i .non) (e.set i .non)/\e.length=env.length)/\P d (e.set i (.own (.lst ds)))
theorem sim_pk{i:Nat}{te:TE}{t:AD}(h:SimE te t):SimE te (aPk i t):=fun Q P ok hh q=>by
 obtain⟨ds,hi,h3⟩:=withL_of hh
 obtain⟨F1,fp1,ok1,sb,fin⟩:=pk_core ok hi
 refine h _ _ ok1 h3 fun v d e F2 H2 fp2 tr ok2 r h4 => ?_
 obtain⟨F3,fp3,t3,ok3,ts,_,_⟩:=fin e F2 H2 fp2 tr ok2 h4.1.2.1 h4.1.2.2
 exact q v d _ F3 H2 fp3 t3 ok3 (Rp.tups ts d r h4.1.1) h4.2
theorem x_pk(i:Nat)(t:AD)(env:List Sl)(P:PyData->List Sl->Prop):aPk i t env P=onO (fun ds=>t (env.set i (.dat (.list ds))) fun d e=>(noList d=true/\PkE (env.set i .non) (e.set i .non)/\e.length=env.length)/\P d (e.set i (.own (.lst ds)))) env[i]? :=by
 unfold aPk
 rw [x_withL]
theorem x_PkN:PkE [] []=True:=rfl
theorem x_PkC(s s':Sl)(e e':List Sl):PkE (s::e) (s'::e')=(PkSl s s'/\PkE e e'):=rfl
theorem x_Pk1(s:Sl):PkSl s .non=True:=by cases s <;> rfl
theorem x_Pk2(d d':PyData):PkSl (.dat d) (.dat d')=(d=d'):=propext ⟨fun h=>by cases (show Sl.dat d = .dat d' from h);rfl,fun h=>by rw [h];exact(rfl:Sl.dat d' = .dat d')⟩
theorem x_Pk3(s:Sl)(es:List PyData):PkSl s (.own (.lst es))=(noLists es=true):=by cases s <;> rfl
end
section
def keyOf:PyData->Option Key
 | .int i=>some (.inl i)
 | .str x=>some (.inr x)
 | _=>none
theorem keyOf_v{H:Hp}{v:V}{d:PyData}{k:Key}(r:Rp H v d)(h:keyOf d=some k):v=kV k:=by
 cases r <;> cases h <;> rfl
def getK(kvs:List (Key×PyData))(k:Key):Option PyData:=(kvs.find? fun kv=>decide (kv.1=k)).map (·.2)
def putD(kvs:List (Key×PyData))(k:Key)(d:PyData):List (Key×PyData) :=
 if (kvs.any fun kv=>decide (kv.1=k))=true then kvs.map (fun kv=>if kv.1=k then(kv.1,d)else kv)else kvs ++ [(k,d)]
theorem rpks_get{F:Hp}{k:Key}:∀{xs:List (Key×V)} {ds:List (Key×PyData)},RpKs F xs ds->match getK ds k with
  | some d =>∃v,valV xs k=some v/\Rp F v d
  | none=>valV xs k=none
 | _,_,.nil=>rfl
 | p::xs,q::ds,.cons h t=>by
  obtain⟨e,r⟩:=h
  have ih:=rpks_get (k:=k) t
  by_cases z:q.1=k
  ·have e1:getK (q::ds) k=some q.2:=by unfold getK;rw [List.find?_cons_of_pos (by simpa using z)];rfl
   rw [e1]
   exact⟨p.2,valV_pos (e.trans z),r⟩
  ·have e1:getK (q::ds) k=getK ds k:=by unfold getK;rw [List.find?_cons_of_neg (by simpa using z)]
   rw [e1,valV_neg (fun y=>z (e.symm.trans y))]
   exact ih
theorem rpks_len{F:Hp}:∀{xs:List (Key×V)} {ds:List (Key×PyData)},RpKs F xs ds->xs.length=ds.length
 | _,_,.nil=>rfl
 | _,_,.cons _ t=>by rw [List.length_cons,List.length_cons,rpks_len t]
theorem rpks_any{F:Hp}{k:Key}:∀{xs:List (Key×V)} {ds:List (Key×PyData)},RpKs F xs ds->(xs.any fun kv=>decide (kv.1=k))=(ds.any fun kv=>decide (kv.1=k))
 | _,_,.nil=>rfl
 | p::xs,q::ds,.cons h t=>by rw [List.any_cons,List.any_cons,rpks_any t,h.1]
theorem rpks_map{F:Hp}{k:Key}{v:V}{d:PyData}(r:Rp F v d):∀{xs:List (Key×V)} {ds:List (Key×PyData)},RpKs F xs ds->RpKs F (xs.map fun kv=>if kv.1=k then(kv.1,v)else kv) (ds.map fun kv=>if kv.1=k then(kv.1,d)else kv)
 | _,_,.nil => .nil
 | p::xs,q::ds,.cons h t=>by
  rw [List.map_cons,List.map_cons]
  refine .cons ?_ (rpks_map r t)
  obtain⟨e,r2⟩:=h
  by_cases z:q.1=k
  ·rw [if_pos z,if_pos (e.trans z)]
   exact⟨e,r⟩
  ·rw [if_neg z,if_neg (fun y=>z (e.symm.trans y))]
   exact⟨e,r2⟩
theorem rpks_snoc{F:Hp}{k:Key}{v:V}{d:PyData}(r:Rp F v d):∀{xs:List (Key×V)} {ds:List (Key×PyData)},RpKs F xs ds->RpKs F (xs ++ [(k,v)]) (ds ++ [(k,d)])
 | _,_,.nil => .cons ⟨rfl,r⟩ .nil
 | _,_,.cons h t => .cons h (rpks_snoc r t)
theorem rpks_put{F:Hp}{k:Key}{v:V}{d:PyData}(r:Rp F v d){xs:List (Key×V)}{ds:List (Key×PyData)}(h:RpKs F xs ds):RpKs F (putK xs k v) (putD ds k d):=by
 unfold putK putD
 rw [rpks_any h]
 split
 ·exact rpks_map r h
 ·exact rpks_snoc r h
def withK(i:Nat)(e:List Sl)(k:List (Key×PyData)->Prop):Prop:=match e[i]? with
 | some (.own (.dK ds))=>k ds
 | _=>False
theorem withK_of{i:Nat}{e:List Sl}{k:List (Key×PyData)->Prop}(h:withK i e k):∃ds,e[i]? =some (.own (.dK ds))/\k ds:=by
 unfold withK at h
 split at h
 ·exact⟨_,by assumption,h⟩
 ·exact h.elim
theorem Ok.mutK{F H:Hp}{σ:St}{env:List Sl}{fp:List Addr}{i:Nat}{ds:List (Key×PyData)}(ok:Ok F H σ env fp)(hi:env[i]? =some (.own (.dK ds))) :
  ∃a xs,σ[i]? =some (some (.ref a))/\H a=some (.dK xs)/\RpKs F xs ds /\∀ys es,RpKs F ys es ->∃fp',Ok F (upd H a (.dK ys)) σ (env.set i (.own (.dK es))) fp'/\Tr F H fp F (upd H a (.dK ys)) fp':=by
 obtain⟨x,fi,fr,e1,hs,hm,hd,put⟩:=ok.env.at hi
 cases hs with
 | own m =>
  rename_i a
  obtain⟨rfl,xs,h1,h2⟩:=m
  refine⟨a,xs,e1,h1,h2,fun ys es r => ?_⟩
  have na:a∉fr:=hd a (by simp)
  have hne:∀b∈fr,b≠a:=fun b hb z=>na (z ▸ hb)
  obtain⟨fp',he,hm'⟩:=put F (upd H a (.dK ys)) (some (.ref a)) (.own (.dK es)) [a] (Ex.refl F) (fun b hb u z=>by rw [upd_ne (hne b hb)];exact z) (.own ⟨rfl,ys,upd_same,r⟩) hd
  rw [set_same e1]at he
  have sub:∀b,b∈fp'↔b∈fp:=fun b=>(hm' b).trans (hm b).symm
  have fa:F a=none:=ok.fr a ((hm a).mpr (.inl (by simp)))
  refine⟨fp',⟨fun b u z => ?_,he,fun b hb=>ok.fr b ((sub b).mp hb)⟩,Ex.refl F,fun b u z n => ?_,fun b z => .inl z,fun b hb => .inl ((sub b).mp hb)⟩
  ·have:b≠a:=fun e=>by rw [e,fa]at z;cases z
   rw [upd_ne this]
   exact ok.ex b u z
  ·have:b≠a:=fun e=>n (e ▸ (hm a).mpr (.inl (by simp)))
   rw [upd_ne this]
   exact z
def ownKAt(i:Nat)(env:List Sl):Prop:=withK i env fun _=>True
def ownAny(i:Nat)(env:List Sl):Prop:=match env[i]? with
 | some (.own _)=>True
 | _=>False
theorem Ok.ownA{F H:Hp}{σ:St}{env:List Sl}{fp:List Addr}{i:Nat}(ok:Ok F H σ env fp)(h:ownAny i env):∃a,σ[i]? =some (some (.ref a)):=by
 unfold ownAny at h
 split at h
 ·rename_i o e
  obtain⟨x,fi,fr,e1,hs,_⟩:=ok.env.at e
  cases hs with
  | own m=>exact⟨_,e1⟩
 ·exact h.elim
theorem ownK_any{i:Nat}{env:List Sl}(h:ownKAt i env):ownAny i env:=by
 obtain⟨ds,e,_⟩:=withK_of h
 unfold ownAny
 rw [e]
 exact True.intro
section
variable {X:Cx} {ks:List Nat} {a b c e e2:Expr} {pos:Pos} {sa sb sc se se2:TE} {ta tb tc te te2:AD} {su:TA} {tu:AAr} {es:List Expr}
def aD0:AO:=fun env P=>P (.dK []) env
theorem ao_d0:AEO X (.Dict [] [] pos) tDNewK aD0:=⟨pe_dnewK,fun Q P ok h q p hp=>by
 obtain⟨t1,x1⟩:=tr_newO (o := .dK []) hp ok.ex
 obtain⟨ok2,t2⟩:=ok.pure t1 x1
 refine q p (.dK []) _ _ _ _ [p] t2 ok2 ⟨rfl,[],upd_same,.nil⟩ (fun b hb => ?_) h
 have e:b=p:=by simpa using hb
 subst e
 exact⟨ok.ex.none hp,fun m=>ok.env.there b m hp,.inr hp⟩⟩
def aGetK(i:Nat)(te:AD):AD:=fun env P=>ownKAt i env/\te env fun d e=>withK i e fun ds=>opt (keyOf d) fun k=>opt (getK ds k) fun y=>P y e
theorem sim_getK{i:Nat}(he:SimE se te):SimE (tDGet (tVar i) se) (aGetK i te):=by
 intro σ env F H fp Q P ok h q
 obtain⟨a,ha⟩:=ok.ownA (ownK_any h.1)
 refine⟨_,ha,he _ _ ok h.2 fun v d e F2 H2 fp2 t2 ok2 r h2 => ?_⟩
 obtain⟨ds,hd,h3⟩:=withK_of h2
 obtain⟨a',xs,g1,g2,g3,_⟩:=ok2.mutK hd
 rw [ha]at g1
 cases g1
 cases hk:keyOf d with
 | none=>rw [hk]at h3;exact h3.elim
 | some k =>
  rw [hk]at h3
  cases hg:getK ds k with
  | none=>rw [opt_s,hg]at h3;exact h3.elim
  | some y =>
   rw [opt_s,hg,opt_s]at h3
   have g:=rpks_get (k:=k) g3
   rw [hg]at g
   obtain⟨w,hw,rw'⟩:=g
   have ev:=keyOf_v r hk
   subst ev
   refine⟨a,w,rfl, ?_,q _ _ _ _ _ _ t2 ok2 rw' h3⟩
   rw [<- hw]
   exact DGet.k g2
theorem ae_getK(i:Nat){x:Str}{px:Pos}(hu:X.A.units+64<cLine)(he:AE X e se te)(hN:X.N[i]? =some x:=by rfl)(hv:Vis X.env.scope x:=by first | exact Or.inl rfl | exact Or.inr (Or.inl rfl) | exact Or.inr (Or.inr rfl))(hd:(x==("__debug__" : Str))=false:=by decide)
  (hcd:(x==("__classdict__" : Str))=false:=by decide) (hs:NoSl e:=by intro _ _;rfl):AE X (.Subscript (.Name x px) e pos) (tDGet (tVar i) se) (aGetK i te):=⟨pe_dget (by omega) (pe_var hN hv hd hcd) he.pe hs,sim_getK he.sm⟩
def aSetK(i:Nat)(te tk:AD):ATS:=fun A env=>te env fun d e=>ownKAt i e/\tk e fun k e2=>withK i e2 fun ds=>opt (keyOf k) fun k=>ds.length<sizeLine/\A.nx (e2.set i (.own (.dK (putD ds k d))))
theorem sim_setK{i:Nat}(he:SimE se te)(hk:SimE se2 te2):SimS ks (sDPut (tVar i) se2 se) (aSetK i te te2):=by
 intro σ env F H fp D A ok h q
 refine he _ _ ok h fun v1 d1 e1 F1 H1 fp1 t1 ok1 r1 h1 => ?_
 obtain⟨a,ha⟩:=ok1.ownA (ownK_any h1.1)
 refine⟨_,ha,hk _ _ ok1 h1.2 fun v2 d2 e2 F2 H2 fp2 t2 ok2 r2 h2 => ?_⟩
 obtain⟨ds,hd,h3⟩:=withK_of h2
 obtain⟨a',xs,g1,g2,g3,g4⟩:=ok2.mutK hd
 rw [ha]at g1
 cases g1
 cases hk:keyOf d2 with
 | none=>rw [hk]at h3;exact h3.elim
 | some k =>
  rw [hk,opt_s]at h3
  have ev:=keyOf_v r2 hk
  subst ev
  obtain⟨fp3,ok3,t3⟩:=g4 _ _ (rpks_put (k:=k) (r1.up t2.ex) g3)
  exact⟨a,_,rfl,DPut.k g2 (by rw [rpks_len g3];exact h3.1),q.nx _ _ _ _ _ ((t1.trans t2).trans t3) ok3 Kept.refl h3.2⟩
theorem as_setK(i:Nat){x:Str}{px p2:Pos}(hu:X.A.units+64<cLine)(he:AE X e se te)(hk:AE X e2 se2 te2)(hN:X.N[i]? =some x:=by rfl)(hv:Vis X.env.scope x:=by first | exact Or.inl rfl | exact Or.inr (Or.inl rfl) | exact Or.inr (Or.inr rfl))(hd:(x==("__debug__" : Str))=false:=by decide)
  (hcd:(x==("__classdict__" : Str))=false:=by decide) (hs:swapsWith e (some (.Subscript (.Name x px) e2 p2)) pos.line X.env=pure false:=by rfl):AS X ks (.Assign [.Subscript (.Name x px) e2 p2] e pos) (sDPut (tVar i) se2 se) (aSetK i te te2) :=
 ⟨ps_dput (by omega) (pe_var hN hv hd hcd) hk.pe he.pe hs,sim_setK he.sm hk.sm⟩
def idxOf(ds:List PyData)(d:PyData):Nat:=ds.findIdx fun z=>PyData.eqv z d
end
end
section
def parE:List Nat->List Arg->List Sl->Option (List Sl)
 | [],[],e=>some e
 | i::is,.dat d::as,e=>if i<e.length then parE is as (e.set i (.dat d))else none
 | i::is,.own o::as,e=>if i<e.length then parE is as (e.set i (.own o))else none
 | _,_,_=>none
def putsS:List Nat->List V->St->St
 | i::is,v::vs,σ=>putsS is vs (σ.set i (some v))
 | _,_,σ=>σ
theorem parE_ok{F H:Hp}{σ0:St}:∀{vs:List V} {as:List Arg} {fo:List Addr},ArgsAt F H σ0 vs as fo ->∀{is:List Nat} {σ:St} {env e2:List Sl} {fp:List Addr},Ok F H σ env fp->(∀b∈fo,F b=none/\b∉fp)->parE is as env=some e2 ->
  ∃fp',Ok F H (putsS is vs σ) e2 fp' /\∀b∈fp',b∈fo∨b∈fp:=by
 intro vs as fo ar
 induction ar with
 | nil =>
  intro is σ env e2 fp ok hf h
  cases is with
  | nil=>cases h;exact⟨fp,ok,fun b hb => .inr hb⟩
  | cons _ _=>cases h
 | dat r t ih =>
  intro is σ env e2 fp ok hf h
  cases is with
  | nil=>cases h
  | cons i is =>
   unfold parE at h
   split at h
   ·rename_i hi
    obtain⟨fp1,ok1,t1⟩:=ok.put hi r
    have sub1:∀b∈fp1,b∈fp:=fun b hb=>by
     rcases t1.nf b hb with z | z
     ·exact z
     ·exact absurd z (ok1.env.there b hb)
    obtain⟨fp2,ok2,s2⟩:=ih ok1 (fun b hb=>⟨(hf b hb).1,fun z=>(hf b hb).2 (sub1 b z)⟩) h
    exact⟨fp2,ok2,fun b hb=>(s2 b hb).elim .inl fun z => .inr (sub1 b z)⟩
   ·cases h
 | own m t d ih =>
  intro is σ env e2 fp ok hf h
  cases is with
  | nil=>cases h
  | cons i is =>
   unfold parE at h
   split at h
   ·rename_i hi
    obtain⟨fp1,ok1,s1⟩:=ok.putO hi m fun b hb=>hf b (List.mem_append_left _ hb)
    obtain⟨fp2,ok2,s2⟩:=ih ok1 (fun b hb=>⟨(hf b (List.mem_append_right _ hb)).1,fun z=>(s1 b z).elim (fun y=>d b y hb) (hf b (List.mem_append_right _ hb)).2⟩) h
    exact⟨fp2,ok2,fun b hb=>(s2 b hb).elim (fun z => .inl (List.mem_append_right _ z)) fun z=>(s1 b z).elim (fun y => .inl (List.mem_append_left _ y)) .inr⟩
   ·cases h
 | bor r t ih =>
  intro is σ env e2 fp ok hf h
  cases is <;> cases h
 | scr r t ih =>
  intro is σ env e2 fp ok hf h
  cases is <;> cases h
theorem puts_kept{ks:List Nat}:∀(is:List Nat) (vs:List V) {σ:St},(∀i∈is,i∉ks)->Kept ks σ (putsS is vs σ)
 | [],_,_,_=>Kept.refl
 | _::_,[],_,_=>Kept.refl
 | i::is,v::vs,_,h=>(kept_set (h i (.head _))).trans (puts_kept is vs fun j hj=>h j (.tail _ hj))
def aParN(is:List Nat)(tu:AAr):ATS:=fun A env=>tu env fun as e=>(sz as.length/\as.length=is.length)/\opt (parE is as e) A.nx
theorem args_len{F H:Hp}{σ:St}{vs:List V}{as:List Arg}{fo:List Addr}(h:ArgsAt F H σ vs as fo):vs.length=as.length:=by
 induction h with
 | nil=>rfl
 | dat _ _ ih=>rw [List.length_cons,List.length_cons,ih]
 | bor _ _ ih=>rw [List.length_cons,List.length_cons,ih]
 | own _ _ _ ih=>rw [List.length_cons,List.length_cons,ih]
 | scr _ _ ih=>rw [List.length_cons,List.length_cons,ih]
section
variable {X:Cx} {ks:List Nat} {e e2:Expr} {pos:Pos} {su:TA} {tu:AAr}
theorem sim_parN{is:List Nat}{σ0:St}{F0 H0 F H:Hp}{fp0 fp fo:List Addr}{env:List Sl}{vs:List V}{as:List Arg}{D:Ends}{A:AEnds}{σ:St}(t':Tr F0 H0 fp0 F H fp)(ok:Ok F H σ env fp)(ar:ArgsAt F H σ0 vs as fo)(hf:∀b∈fo,F b=none/\b∉fp/\(b∈fp0∨H0 b=none))
  (h:opt (parE is as env) A.nx) (q:SEnd ks σ F0 H0 fp0 D A) (hk:∀i∈is,i∉ks):D.nx (putsS is vs σ) H:=by
 cases hp:parE is as env with
 | none=>rw [hp]at h;exact h.elim
 | some e2 =>
  rw [hp,opt_s]at h
  obtain⟨fp2,ok2,s2⟩:=parE_ok ar ok (fun b hb=>⟨(hf b hb).1,(hf b hb).2.1⟩) hp
  refine q.nx _ _ _ _ _ ⟨t'.ex,t'.kp,t'.nw,fun b hb => ?_⟩ ok2 (puts_kept is vs hk) h
  rcases s2 b hb with z | z
  ·exact(hf b z).2.2
  ·exact t'.nf b z
theorem as_par2{i j:Nat}{x y:Str}{px py pt:Pos}{kt k2 pt2}(hc:X.calm=true)(hN:X.N.Nodup)(hi:X.N[i]? =some x)(hj:X.N[j]? =some y)(hij:i≠j)
  (hx:X.env.scope.names.lookup x=some .local) (hy:X.env.scope.names.lookup y=some .local) (ha:APR X [e,e2] su tu)
  (hw:swappedStores [.Tuple [.Name x px,.Name y py] kt pt] (.Tuple [e,e2] k2 pt2) X.env=pure (some [x,y])) (hki:i∉ks:=by decide) (hkj:j∉ks:=by decide)
  (hs:swapsWithSole [.Tuple [.Name x px,.Name y py] kt pt] (.Tuple [e,e2] k2 pt2) pos.line X.env=pure false:=by rfl) :
  AS X ks (.Assign [.Tuple [.Name x px,.Name y py] kt pt] (.Tuple [e,e2] k2 pt2) pos) (tPar i j su) (aParN [i,j] tu):=⟨ps_par hc hN hi hj hij hx hy ha.pe hw hs,fun D A ok hh q=>ha.sm _ _ ok hh fun vs as env' F' H' fp' fo t' ok' ar hf h'=>by
 have hl:=(args_len ar).trans h'.1.2
 match vs,hl with
 | [v,w],_=>exact⟨v,w,rfl,sim_parN t' ok' ar hf h'.2 q fun k hk=>by
   rcases List.mem_cons.mp hk with rfl | hk
   ·exact hki
   ·rw [List.mem_singleton.mp hk];exact hkj⟩⟩
end
def aAddO(ta tb:AD):AO:=fun env P=>ta env fun d1 e1=>tb e1 fun d2 e2=>onL (fun a=>onL (fun b=>sz (a.length+b.length)/\P (.lst (a++b)) e2) d2) d1
theorem ao_add{X:Cx}{a b:Expr}{pos:Pos}{sa sb:TE}{ta tb:AD}(ha:AE X a sa ta)(hb:AE X b sb tb):AEO X (.BinOp a .Add b pos) (tOp rCat sa sb) (aAddO ta tb):=⟨pe_op op_cat ha.pe hb.pe,fun Q P ok h q =>
 ha.sm _ _ ok h fun v1 d1 e1 F1 H1 fp1 t1 ok1 r1 h1=>hb.sm _ _ ok1 h1 fun v2 d2 e2 F2 H2 fp2 t2 ok2 r2 h2=>by
  cases r1 with
  | lst g1 g2 =>
   cases r2 with
   | lst k1 k2 =>
    refine⟨_,_,_,_,rfl,rfl,ok2.ex _ _ (t2.ex _ _ g1),ok2.ex _ _ k1,by rw [g2.len,k2.len];exact h2.1,fun p hp => ?_⟩
    obtain⟨t3,ok3,m,hf⟩:=ok2.newLst hp ((g2.up t2.ex).app k2)
    exact q _ _ _ _ _ _ _ ((t1.trans t2).trans t3) ok3 m (fun b hb=>⟨(hf b hb).1,(hf b hb).2.1,by
     have e:b=p:=by simpa using hb
     subst e
     exact(t1.trans t2).back hp⟩) h2.2
   | _=>exact h2.elim
  | _=>exact h2.elim⟩
section
variable (env:List Sl) (P:PyData->List Sl->Prop) (PO:MO->List Sl->Prop) (PL:List Sl->Prop) (PA:List Arg->List Sl->Prop) (ta tb tc:AD) (tr:AAr) (A:AEnds) (i:Nat) (is:List Nat)
def onK(k:List (Key×PyData)->Prop):Option Sl->Prop
 | some (.own (.dK ds))=>k ds
 | _=>False
theorem x_onK(ds:List (Key×PyData))(k:List (Key×PyData)->Prop):onK k (some (.own (.dK ds)))=k ds:=rfl
theorem x_withK(k:List (Key×PyData)->Prop):withK i env k=onK k env[i]? :=by unfold withK onK;rfl
theorem x_ownKAt:ownKAt i env=onK (fun _=>True) env[i]? :=by unfold ownKAt;rw [x_withK]
theorem x_d0:aD0 env PO=PO (.dK []) env:=rfl
theorem x_getK:aGetK i ta env P=(ownKAt i env/\ta env fun d e=>withK i e fun ds=>opt (keyOf d) fun k=>opt (getK ds k) fun y=>P y e):=rfl
theorem x_setK:aSetK i ta tb A env=ta env fun d e=>ownKAt i e/\tb e fun k e2=>withK i e2 fun ds=>opt (keyOf k) fun k=>ds.length<sizeLine/\A.nx (e2.set i (.own (.dK (putD ds k d)))):=rfl
theorem x_parN:aParN is tr A env=tr env fun as e=>(sz as.length/\as.length=is.length)/\opt (parE is as e) A.nx:=rfl
theorem x_parE0:parE [] [] env=some env:=rfl
theorem x_parED(d:PyData)(as:List Arg):parE (i::is) (.dat d::as) env=if i<env.length then parE is as (env.set i (.dat d))else none:=by
 conv=>lhs;unfold parE
theorem x_parEO(o:MO)(as:List Arg):parE (i::is) (.own o::as) env=if i<env.length then parE is as (env.set i (.own o))else none:=by
 conv=>lhs;unfold parE
theorem x_addO:aAddO ta tb env PO=ta env fun d1 e1=>tb e1 fun d2 e2=>onL (fun a=>onL (fun b=>sz (a.length+b.length)/\PO (.lst (a++b)) e2) d2) d1:=rfl
end
theorem x_nl1(i:Int):noList (.int i)=true:=rfl
theorem box_noLists{n:Nat}{o:List PyData}(h:BoxOk n o):noLists o=true:=by
 obtain⟨d,s,c,rfl,_⟩:=h
 rfl
end
end Cf
namespace Cf
abbrev Vc:=Nat->Int
inductive Sp(S:Vc->Prop):Vc->Prop
 | zero:Sp S (fun _=>0)
 | add {v a:Vc}:Sp S v->S a->Sp S (fun i=>v i+a i)
 | sub {v a:Vc}:Sp S v->S a->Sp S (fun i=>v i-a i)
section
variable {S T:Vc->Prop} {v w a:Vc}
theorem Sp.cast(h:Sp S v)(e:∀i,v i=w i):Sp S w:=by
 have:v=w:=funext e
 rw [<- this]
 exact h
theorem Sp.of(h:S a):Sp S a:=(Sp.add .zero h).cast fun i=>by(try dsimp only);omega
theorem Sp.plus(h:Sp S v)(k:Sp S w):Sp S (fun i=>v i+w i):=by
 induction k with
 | zero=>exact h.cast fun i=>by(try dsimp only);omega
 | add _ ha ih=>exact(Sp.add ih ha).cast fun i=>by(try dsimp only);omega
 | sub _ ha ih=>exact(Sp.sub ih ha).cast fun i=>by(try dsimp only);omega
theorem Sp.minus(h:Sp S v)(k:Sp S w):Sp S (fun i=>v i-w i):=by
 induction k with
 | zero=>exact h.cast fun i=>by(try dsimp only);omega
 | add _ ha ih=>exact(Sp.sub ih ha).cast fun i=>by(try dsimp only);omega
 | sub _ ha ih=>exact(Sp.add ih ha).cast fun i=>by(try dsimp only);omega
end
def Lead(r:Vc)(l:Nat):Prop:=0<r l /\∀i,i<l->r i=0
def FRel(r s:Vc):Prop :=∃l m,Lead r l/\Lead s m/\l<m/\0<=r m/\r m<s m
def Fm(F:List Vc):Prop:=(∀r∈F,∃l,Lead r l)/\F.Pairwise FRel
abbrev InL(F:List Vc):Vc->Prop:=fun x=>x∈F
end Cf
namespace Cf
open PySem PySem.Spec PyProof.Rows L2
section
def vec(p:List Int):Vc:=fun i=>p.getD i 0
def pd(p:List Int):PyData := .tuple (p.map PyData.int)
def lessL(p q:List Int):List Int:=List.zipWith (· - ·) p q
def plusL(p q:List Int):List Int:=List.zipWith (· + ·) p q
def ofL(p:List Int)(k:Int):List Int:=p.map (k * ·)
theorem vec_in{p:List Int}{i:Nat}(h:i<p.length):vec p i=p[i]:=by unfold vec;rw [List.getD_eq_getElem?_getD,List.getElem?_eq_getElem h];rfl
theorem vec_out{p:List Int}{i:Nat}(h:p.length<=i):vec p i=0:=by unfold vec;rw [List.getD_eq_getElem?_getD,List.getElem?_eq_none h];rfl
theorem vec_of(p:List Int)(k:Int)(i:Nat):vec (ofL p k) i=k*vec p i:=by
 by_cases z:i<p.length
 ·have z3:i<(ofL p k).length:=by unfold ofL;rw [List.length_map];omega
  rw [vec_in z,vec_in z3]
  simp [ofL]
 ·rw [vec_out (p:=p) (by omega),vec_out (p:=ofL p k) (by unfold ofL;rw [List.length_map];omega),Int.mul_zero]
def subm(r o:List Int)(q:Int):List Int:=lessL r (ofL o q)
theorem atI_pd{p:List Int}{s:Nat}(h:s<p.length):atI (p.map PyData.int) (s:Int)=some (.int (vec p s)):=by
 rw [atI_nat (by rw [List.length_map];exact h),List.getElem_map,vec_in h]
theorem log_le{x:Int}{b:Nat}(h:x.natAbs<=2^b):x.natAbs.log2<=b:=by
 by_cases z:x.natAbs=0
 ·rw [z]
  simp
 ·have h1:x.natAbs<2^(b+1):=Nat.lt_of_le_of_lt h (Nat.pow_lt_pow_right (by decide) (by omega))
  have:=(Nat.log2_lt z).mpr h1
  omega
theorem MulOk.big{x y:Int}{b c:Nat}(h:x.natAbs<=2^b)(k:y.natAbs<=2^c)(hb:b+c<134000000):Cf.MulOk x y := .inr (by
 have:=log_le h
 have:=log_le k
 show x.natAbs.log2+y.natAbs.log2<134000000
 omega)
end
section
abbrev Spn(rs:List (List Int)):Vc->Prop:=Sp (InL (rs.map vec))
theorem spn_of{rs:List (List Int)}{r:List Int}(h:r∈rs):Spn rs (vec r) := .of (List.mem_map.mpr ⟨r,h,rfl⟩)
section
variable {n s N:Nat} {A B:List (List Int)} {own:List Int}
def goes(s:Nat)(own r:List Int):List Int:=subm r own ((vec r s).fdiv (vec own s))
end
end
section
structure FmL(n s N:Nat)(F:List (List Int)):Prop where
 fm:Fm (F.map vec)
 len:∀r∈F,r.length=n
 lead:∀r∈F,∃l,l<s/\Lead (vec r) l
 bd:∀r∈F,∀i,(vec r i).natAbs<=N
section
variable {n s N M:Nat} {F:List (List Int)} {own:List Int}
def leadOf(r:List Int):Nat:=(r.findIdx fun x=>x !=0)
def downL:List Int->List (List Int)->List Int
 | v,[]=>v
 | v,own::F=>downL (goes (leadOf own) own v) F
end
end
section
theorem getK_cons(p:Key×PyData)(ds:List (Key×PyData))(k:Key):getK (p::ds) k=if p.1=k then some p.2 else getK ds k:=by
 unfold getK
 by_cases z:p.1=k
 ·rw [List.find?_cons_of_pos (by simpa using z),if_pos z]
  rfl
 ·rw [List.find?_cons_of_neg (by simpa using z),if_neg z]
theorem getK_any(k:Key):∀ds:List (Key×PyData),(ds.any fun kv=>decide (kv.1=k))=(getK ds k).isSome
 | []=>rfl
 | p::ds=>by
  rw [List.any_cons,getK_any k ds,getK_cons]
  by_cases z:p.1=k
  ·rw [if_pos z]
   simp [z]
  ·rw [if_neg z]
   simp [z]
theorem getK_map(k j:Key)(d:PyData):∀ds:List (Key×PyData),getK (ds.map fun kv=>if kv.1=k then(kv.1,d)else kv) j=(getK ds j).map fun x=>if j=k then d else x
 | []=>rfl
 | p::ds=>by
  rw [List.map_cons,getK_cons,getK_cons,getK_map k j d ds]
  by_cases z:p.1=k
  ·rw [if_pos z]
   by_cases y:p.1=j
   ·rw [if_pos y,if_pos y]
    have:j=k:=y.symm.trans z
    simp [this]
   ·rw [if_neg y,if_neg y]
  ·rw [if_neg z]
   by_cases y:p.1=j
   ·rw [if_pos y,if_pos y]
    have:¬j=k:=fun e=>z (y.trans e)
    simp [this]
   ·rw [if_neg y,if_neg y]
theorem getK_snoc(k j:Key)(d:PyData):∀ds:List (Key×PyData),getK ds k=none->getK (ds ++ [(k,d)]) j=if j=k then some d else getK ds j
 | [],_=>by
  rw [List.nil_append,getK_cons]
  by_cases z:j=k
  ·rw [if_pos z.symm,if_pos z]
  ·rw [if_neg (fun e=>z e.symm),if_neg z]
 | p::ds,h=>by
  rw [getK_cons]at h
  by_cases z:p.1=k
  ·rw [if_pos z]at h
   cases h
  ·rw [if_neg z]at h
   rw [List.cons_append,getK_cons,getK_cons,getK_snoc k j d ds h]
   by_cases y:p.1=j
   ·rw [if_pos y,if_pos y,if_neg (fun e=>z (y.trans e))]
   ·rw [if_neg y,if_neg y]
theorem getK_put(ds:List (Key×PyData))(k j:Key)(d:PyData):getK (putD ds k d) j=if j=k then some d else getK ds j:=by
 unfold putD
 rw [getK_any]
 cases h:getK ds k with
 | none =>
  rw [if_neg (by simp)]
  exact getK_snoc k j d ds h
 | some x =>
  rw [if_pos (by simp),getK_map]
  by_cases z:j=k
  ·subst z
   rw [h,if_pos rfl]
   simp
  ·rw [if_neg z]
   cases getK ds j <;> simp [z]
theorem putD_len(ds:List (Key×PyData))(k:Key)(d:PyData):(putD ds k d).length=if (getK ds k).isSome then ds.length else ds.length+1:=by
 unfold putD
 rw [getK_any]
 split
 ·rw [List.length_map]
 ·rw [List.length_append,List.length_singleton]
def EE(e0 K:Nat):Nat->Nat
 | 0=>e0
 | j+1=>(EE e0 K j+2)*(K+2)
variable {e0 K:Nat}
abbrev Rho:=Nat->Option (List Int)
def put(ρ:Rho)(s:Nat)(l:List Int):Rho:=fun j=>if j=s then some l else ρ j
end
section
theorem f_ixP(p:List Int)(i:Int)(K:PyData->Prop):fIx (pd p) (.int i) K=opt (atI (p.map PyData.int) i) K:=f_ixT i K (p.map PyData.int)
theorem f_lenP(p:List Int)(K:PyData->Prop):fLen [pd p] K=K (.int p.length):=by
 show K (.int (p.map PyData.int).length)=_
 rw [List.length_map]
theorem x_onAnyP(p:List Int)(k:List PyData->Prop):onAny k (pd p)=k (p.map PyData.int):=rfl
end
section
abbrev AX:=List Sl->(Sl->List Sl->Prop)->Prop
section
variable {X:Cx} {ks:List Nat} {a b c e:Expr} {pos:Pos} {sa sb se:TE} {sc:TT} {tc:AT}
def Prt.arg:Prt->Arg
 | .dat d => .dat d
 | .lst ds => .own (.lst ds)
def unp:Sl->Option (List Arg)
 | .own (.tup ps)=>some (ps.map Prt.arg)
 | .dat (.tuple ds)=>some (ds.map .dat)
 | _=>none
end
end
section
def IteT(K:PySem.W.Frag)(a:Addr):It :=
 ⟨fun i H =>∃(xs:List V) (x:V),SqT K H a xs/\xs[i]? =some x,fun i H v H' =>∃T x,v = .ref T/\H T=none/\H'=upd H T (.tup [.int (i:Nat),x]) /\∀xs,SqT K H a xs->xs[i]? =some x,fun i H =>∃xs:List V,SqT K H a xs/\xs.length<=i⟩
theorem tup_ne_iter{h:Heap}{a it:Addr}{items:Array Value}{i:Nat}(p:IsTup h a items)(q:h.IsTupleIter it a i):a≠it:=fun e=>by
 subst e
 obtain⟨o,ho,hc,_⟩:=p
 obtain⟨o',ho',hc',_⟩:=q
 rw [ho]at ho'
 cases ho'
 rw [hc]at hc'
 revert hc'
 decide
theorem tup_ne_enum{h:Heap}{a e it:Addr}{items:Array Value}{c:Int}{old:Value}(p:IsTup h a items)(q:IsEnum h e it c old):e≠a:=fun z=>by
 subst z
 obtain⟨o,ho,hc,_⟩:=p
 have q':h.get? e=some _:=q
 rw [ho]at q'
 cases q'
 have:(Value.type "enumerate") = .type "tuple" :=hc
 revert this
 decide
theorem turn_enumT{P:Program}{w:World}{K:PySem.W.Frag}{elts:List Expr}{kk:Nat}{tpos:Pos}(a e it:Addr) :
  Turn P w K (.Tuple elts kk tpos) (IteT K a) [e,it] e (fun i h=>(∃old,IsEnum h e it ((i:Nat):Int) old)/\h.IsTupleIter it a i/\e≠it) where
 mem:=by simp
 obj:=fun i h st b hb=>by
  obtain⟨⟨old,he⟩,⟨o,ho,hc,hd⟩,_⟩:=st
  have e':b=e∨b=it:=by simpa using hb
  rcases e' with z | z
  ·rw [z];exact⟨_,he,fun v q=>nomatch q⟩
  ·rw [z];exact⟨o,ho,fun v q=>by rw [hd]at q;cases q⟩
 keep:=fun i h h' st k=>let ⟨⟨old,he⟩,hi,hne⟩:=st;⟨⟨old,k e (by simp) _ he⟩,hi.at fun o q=>k it (by simp) o q,hne⟩
 item:=by
  intro X hP hw hK hc i pins s σ H E I hf st hg
  subst hP hw hK
  obtain⟨⟨old,he⟩,hit,hne⟩:=st
  obtain⟨xs,x,hq,hx⟩:=hg
  obtain⟨its,rv,p,hz⟩:=I.tuple hq
  obtain⟨u,hu,ru⟩:=rv.get hx
  have hel:e<s.heap.objs.size:=Heap.lt_size he
  have hil:it<s.heap.objs.size:=by obtain⟨_,q,_⟩:=hit;exact Heap.lt_size q
  have hai:=tup_ne_iter p hit
  have hea:=tup_ne_enum p he
  have hlt:i<its.toArray.size:=by
   have:=(List.getElem?_eq_some_iff.mp hu).1
   simpa using this
  refine wpAny_pyNext_enum_itemC (c:=(i:Int)) (Draws.tuple (A:=X.A.in1) (I.ok.hd hc) it a hai its.toArray) he ⟨hit,p⟩ hlt hne (by simp [hne,hea]) fun x' h' tk hPx ho hst' hT hsz hk => ?_
  have hxu:x'=u:=by
   have h1:its.toArray[i]? =some x':=hPx
   have h2:its.toArray[i]? =some u:=by simpa using hu
   rw [h1]at h2
   cases h2
   rfl
  subst hxu
  refine⟨_,rfl,wpAny_letOwnedTupleGo_enum (s:={ s with heap:=h',toks:=tk+1 }) ho fun h'' he' sb => ?_⟩
  have hT2:h''.get? s.heap.objs.size=some { cls := .type "tuple",data := .seq #[.int i tk,x'] }:=(sb.2 _ (Nat.ne_of_gt hel)).trans hT
  have new:ObjOk X.prog X.w (upd H s.heap.objs.size (.tup [.int (i:Nat),x])) h'' s.heap.objs.size (.tup [.int (i:Nat),x]) :=
   ⟨by show 2<=sizeLine;decide,[.int i tk,x'],.cons ⟨_,rfl⟩ (.cons ru .nil),⟨_,hT2,rfl,_,rfl⟩⟩
  have I1:Inv X pins σ (upd H s.heap.objs.size (.tup [.int (i:Nat),x])) { s with heap:=h'',toks:=tk+1 } :=
   I.turnedNew (ch :=[e,it]) (fun b ob hb q=>(sb.2 b (fun z=>hb (by simp [z]))).trans (hk b ob (fun z=>hb (by simp [z])) (fun z=>hb (by simp [z])) q)) hf (Nat.le_refl _) new
  refine⟨.ref s.heap.objs.size,_,I1,rfl,⟨_,x,rfl,I.hok.fresh (Nat.le_refl _),rfl,fun ys hy=>by rw [I.tuple_inj hy hq];exact hx⟩,⟨⟨x', ?_⟩,hst'.1.at fun o q=>(sb.2 it (Ne.symm hne)).trans q,hne⟩,fun b hb => ?_⟩
  ·have e1:((i+1:Nat):Int)=(i:Int)+1:=by omega
   rw [e1];exact he'
  ·have hb':b<s.heap.objs.size:=by
    have e':b=e∨b=it:=by simpa using hb
    rcases e' with z | z
    ·rw [z];exact hel
    ·rw [z];exact hil
   rw [upd_ne (Nat.ne_of_lt hb')]
   exact(hf b hb).1
 done:=by
  intro X hP hw hK hc i pins s σ H E I hf st hg
  subst hP hw hK
  obtain⟨⟨old,he⟩,hit,hne⟩:=st
  obtain⟨xs,hq,hx⟩:=hg
  obtain⟨its,rv,p,hz⟩:=I.tuple hq
  obtain⟨f0,f1,f2,f3,f4,f5⟩:=hf it (by simp)
  have hl:=rv.length
  have hT:s.TypeIs (.ref e) "enumerate" :=⟨_,he,rfl⟩
  have hend:its.toArray[i]? =none:=by simp;omega
  unfold pyNext
  refine wpAny_bind (wpAny_attempt (wpAny_callSpecial?_slot (name:=Str.ofString "__next__") hT PySem.F.slot_enumerate_next
   (wpAny_call_entry PySem.F.slot_enumerate_next hT PySem.F.entry_enumerate_next ?_ (PySem.F.args_enumerate_next_1 _))))
  show wpAny _ _ (field (.ref e) 2 >>=_) _ _ _
  refine wpAny_bind (wpAny_field he rfl (x := .ref it) rfl ?_)
  refine wpAny_bind (wpAny_nextOf_tuple_end (A:=X.A.in1) (I.ok.hd hc) hit p hend fun h' x he' hx' => ?_)
  obtain⟨o,ho,hcl⟩:=hx'
  refine wpAny_bind (wpAny_isInstance (T := "StopIteration") (b:=true) ⟨o,ho,hcl⟩ isSubtype_stop ?_)
  exact wpAny_pure ⟨rfl,I.turned (t':=s.toks) (fun b o hb q=>he' b o hb q) f0 f1 f3 f4 f5⟩
 self:=fun A i s Q E st h=>let ⟨⟨_,he⟩,_⟩:=st;wpAny_pyIter_enum he h
theorem meets_enumerate_new1{v:Value}{o:Obj}{H:Heap->Prop}(B:Begins v o H) :
  Meets (Builtin.«enumerate.__new__» ⟨[.type "enumerate",v],[]⟩) (fun _ R s=>H s.heap /\
   R (.ok (.ret (.ref (s.heap.push o).objs.size))) { s with heap:=(s.heap.push o).push { cls := .type "enumerate",data := .fields #[.none,.bool false,.ref s.heap.objs.size,rawInt 0,.none,.none] } }) :=
 .of_wp fun prog w A R s h=>by
  obtain⟨hp,g,d,tk,os⟩:=s;obtain⟨h1,h⟩:=h
  have hsub:=sub_enumerate
  have q1:∀{A':Around} {E:Value->Shared->Prop} {Q:Value->Shared->Prop},Q (.ref hp.objs.size) ⟨hp.push o,g,d,tk,os⟩->wpAny (model prog w) A' (pyIter v) Q E ⟨hp,g,d,tk,os⟩ :=
   fun q=>B.iter prog w _ _ ⟨hp,g,d,tk,os⟩ _ h1 q
  wp_walk using q1
  refine wpAny_stack_any fun st=>wpAny_pure ?_
  split
  ·rename_i c _ _ _ _ _
   cases (c==Value.type "enumerate")
   ·wp_walk using q1
    exact⟨_,rfl,h⟩
   ·wp_walk using q1
    exact⟨_,rfl,h⟩
  ·wp_walk using q1
   exact⟨_,rfl,h⟩
theorem enum_begins1{prog:Program}{w:World}{A:Around}{E:Value->Shared->Prop}{s:Shared}{v:Value}{o:Obj}{H:Heap->Prop}{Q:Value->Shared->Prop}(B:Begins v o H)(h1:H s.heap)
  (h:∀h',IsEnum h' (s.heap.objs.size+1) s.heap.objs.size 0 .none->h'.get? s.heap.objs.size=some o->h'.objs.size=s.heap.objs.size+2 ->
   (∀b o,s.heap.get? b=some o->h'.get? b=some o)->Q (.ref (s.heap.objs.size+1)) { s with heap:=h' }) :
  wpAny (model prog w) A (call (.type "enumerate") [v]) Q E s:=by
 refine callType_new PySem.F.called_enumerate (by decide) (PySem.F.typeCall_enumerate_1 _) (PySem.F.newCall_enumerate_1 _) (fun obj=>PySem.F.args_object_init_2 obj _) PySem.F.entry_enumerate_new
  (meets_enumerate_new1 B) ⟨h1, ?_⟩
 have hz:(s.heap.push o).objs.size=s.heap.objs.size+1:=Heap.size_push ..
 show _/\_
 rw [hz]
 have he:IsEnum ((s.heap.push o).push { cls := .type "enumerate",data := .fields #[.none,.bool false,.ref s.heap.objs.size,rawInt 0,.none,.none] }) (s.heap.objs.size+1) s.heap.objs.size 0 .none:=by
  have:=Heap.get?_push_size (s.heap.push o) (o:={ cls := .type "enumerate",data := .fields #[.none,.bool false,.ref s.heap.objs.size,rawInt 0,.none,.none] }) rfl
  rw [hz]at this;exact this
 refine⟨⟨_,he,rfl⟩,h _ he (Heap.get?_push_of_some _ (Heap.get?_push_size _ B.free)) (by rw [Heap.size_push,hz]) fun b o x=>Heap.get?_push_of_some _ (Heap.get?_push_of_some _ x)⟩
theorem walkd_enumT{K:PySem.W.Frag}{F:Hp}{a:Addr}{xs:List V}{ds:List PyData}(h:F a=some (.tup xs))(r:Rps F xs ds):WalkD (IteT K a) F (enumD ds):=by
 have hl:(enumD ds).length=ds.length:=by unfold enumD;rw [List.length_map,List.length_zipIdx]
 refine⟨fun F2 H2 i e1 e2 hi => ?_,fun F2 H2 e1 e2=>⟨xs,SqT.of (e2 _ _ (e1 _ _ h)),by rw [r.len,hl];exact Nat.le_refl _⟩,fun F2 H2 i x H3 e1 e2 hi y => ?_⟩
 ·obtain⟨v,hv,_⟩:=r.get (List.getElem?_eq_getElem (hl ▸ hi))
  exact⟨xs,v,SqT.of (e2 _ _ (e1 _ _ h)),hv⟩
 ·obtain⟨T,y,rfl,hT,rfl,hy⟩:=y
  have hx:=hy xs (SqT.of (e2 _ _ (e1 _ _ h)))
  obtain⟨d,hd,rv⟩:=r.getV hx
  obtain⟨t,x⟩:=tr_new (o := .tup [.int (i:Nat),y]) hT e2
  exact⟨_,_,enumD_get hd,t,x,.tup upd_same (.cons (.int _) (.one ((rv.up e1).up t.ex)))⟩
end
section
def dot:Nat->Vc->Vc->Int
 | 0,_,_=>0
 | n+1,u,v=>u 0*v 0+dot n (fun i=>u (i+1)) (fun i=>v (i+1))
theorem dot_comm:∀{n:Nat} {u v:Vc},dot n u v=dot n v u
 | 0,_,_=>rfl
 | n+1,u,v=>by
  unfold dot
  rw [dot_comm (n:=n),Int.mul_comm]
def dotL(p q:List Int):Int:=(List.zipWith (· * ·) p q).sum
theorem dotL_vec:∀{p q:List Int} {n:Nat},p.length=n->q.length=n->dotL p q=dot n (vec p) (vec q)
 | [],[],n,h,_=>by
  cases h
  rfl
 | [],_::_,n,h,k=>by
  cases h
  cases k
 | _::_,[],n,h,k=>by
  cases k
  cases h
 | a::p,b::q,n,h,k=>by
  cases n with
  | zero=>cases h
  | succ n =>
   show a*b+dotL p q=a*b+dot n (vec p) (vec q)
   rw [dotL_vec (n:=n) (by simpa using h) (by simpa using k)]
def isMul(c m:Int):Bool:=if m=0 then decide (c=0)else decide (c.fmod m=0)
def acc(n p:Nat)(f:Vc):List (List Int)->List (List Int)->Int
 | r::F,s::S=>vec r p*dot n f (vec s)+acc n p f F S
 | _,_=>0
end
section
section
variable {X:Cx} {ks:List Nat} {e e2 e3:Expr} {pos:Pos} {su:TA} {tu:AAr}
theorem as_par3{i j l:Nat}{x y z:Str}{px py pz pt:Pos}{kt k2 pt2}(hc:X.calm=true)(hN:X.N.Nodup)(hi:X.N[i]? =some x)(hj:X.N[j]? =some y)(hl:X.N[l]? =some z)(hij:i≠j)(hil:i≠l)(hjl:j≠l)
  (hx:X.env.scope.names.lookup x=some .local) (hy:X.env.scope.names.lookup y=some .local) (hz:X.env.scope.names.lookup z=some .local) (ha:APR X [e,e2,e3] su tu)
  (hw:swappedStores [.Tuple [.Name x px,.Name y py,.Name z pz] kt pt] (.Tuple [e,e2,e3] k2 pt2) X.env=pure (some [x,y,z])) (hk:∀m ∈ [i,j,l],m∉ks:=by decide)
  (hs:swapsWithSole [.Tuple [.Name x px,.Name y py,.Name z pz] kt pt] (.Tuple [e,e2,e3] k2 pt2) pos.line X.env=pure false:=by rfl) :
  AS X ks (.Assign [.Tuple [.Name x px,.Name y py,.Name z pz] kt pt] (.Tuple [e,e2,e3] k2 pt2) pos) (tPar3 i j l su) (aParN [i,j,l] tu):=⟨ps_par3 hc hN hi hj hl hij hil hjl hx hy hz ha.pe hw hs,fun D A ok hh q=>ha.sm _ _ ok hh fun vs as env' F' H' fp' fo t' ok' ar hf h'=>by
 have hlen:=(args_len ar).trans h'.1.2
 match vs,hlen with
 | [u,v,w],_=>exact⟨u,v,w,rfl,sim_parN t' ok' ar hf h'.2 q hk⟩⟩
end
end
section
def fb:Nat->Nat
 | 0=>20
 | s+1=>5*fb s+2
def fc:Nat->Nat
 | 0=>0
 | s+1=>fc s+fb (s+1)+2
end
section
theorem log2_lt_of{i:Nat}{w:Nat}(h:i<2^w)(h0:i≠0):i.log2<w:=(Nat.log2_lt h0).mpr h
structure Sh(n w:Nat)(d:PyData):Prop where
 sh:d.showable=true
 nd:d.hasDict=false
 dp:d.depth<=n
 wt:d.weight<=w
 lf:d.leavesShort 573=true
 cl:d.canLay0=true
 no:noDict d=true
theorem all_of{f:PyData->Bool}{g:List PyData->Bool}(h0:g []=true)(h1:∀x xs,g (x::xs)=(f x&&g xs)):∀{ds:List PyData},(∀d∈ds,f d=true)->g ds=true
 | [],_=>h0
 | x::xs,h=>by rw [h1,h x (.head _),all_of h0 h1 fun d hd=>h d (.tail _ hd)];rfl
theorem depthAll_le{n:Nat}:∀{ds:List PyData},(∀d∈ds,d.depth<=n)->PyData.depthAll ds<=n
 | [],_=>Nat.zero_le _
 | x::xs,h=>by
  have:=h x (.head _)
  have:=depthAll_le fun d hd=>h d (.tail _ hd)
  rw [PyData.depthAll]
  omega
theorem noDictAll:∀{ds:List PyData},(∀d∈ds,d.hasDict=false)->PyData.hasDictAll ds=false
 | [],_=>rfl
 | x::xs,h=>by rw [PyData.hasDictAll,h x (.head _),noDictAll fun d hd=>h d (.tail _ hd)];rfl
theorem pow_1900:2^1900<=10^572:=by decide +kernel
theorem int_shown{i:Int}(h:i.natAbs<2^1900):(PyData.shown (.int i)).length<=573:=by
 show (Str.ofString (toString i)).length<=573
 rw [PySem.ofString_length]
 exact int_text_length_le10 (k:=572) (by decide) (Nat.lt_of_lt_of_le h pow_1900)
theorem log_1900{i:Nat}(h:i<2^1900):i.log2<1920:=by
 by_cases h0:i=0
 ·rw [h0];decide
 ·have:=log2_lt_of h h0;omega
theorem Sh.up{n w m v:Nat}{d:PyData}(h:Sh n w d)(h1:n<=m)(h2:w<=v):Sh m v d:=⟨h.sh,h.nd,Nat.le_trans h.dp h1,Nat.le_trans h.wt h2,h.lf,h.cl,h.no⟩
theorem Sh.int{n w:Nat}{i:Int}(h:i.natAbs<2^w)(hw:w<=1900):Sh n w (.int i):=by
 have h2:i.natAbs<2^1900:=Nat.lt_of_lt_of_le h (Nat.pow_le_pow_right (by decide) hw)
 refine⟨?_,rfl,Nat.zero_le _, ?_, ?_,rfl,rfl⟩
 ·rw [PyData.showable]
  exact decide_eq_true (log_1900 h2)
 ·rw [PyData.weight]
  split
  ·omega
  ·rename_i hi
   have h0:i.natAbs≠0:=fun z=>hi (by rw [beq_iff_eq];omega)
   have:=log2_lt_of h h0
   omega
 ·rw [PyData.leavesShort]
  exact decide_eq_true (int_shown h2)
theorem Sh.str{n w:Nat}{z:Str}(h1:PyData.canLay0 (.str z)=true)(h2:∀c∈z.cps.toList,c<0xD800)(h3:z.length<=w):Sh n w (.str z):=by
 refine⟨rfl,rfl,Nat.zero_le _,h3, ?_,h1,rfl⟩
 rw [PyData.leavesShort,List.all_eq_true]
 intro c hc
 exact decide_eq_true (Nat.lt_of_lt_of_le (h2 c hc) (by decide))
theorem Sh.seq{n w:Nat}{ds:List PyData}(h:∀d∈ds,∃v,Sh n v d)(hw:PyData.weightAll ds<=w):Sh (n+1) w (.list ds)/\Sh (n+1) w (.tuple ds):=by
 have a1:PyData.showableAll ds=true:=all_of rfl (fun _ _=>rfl) fun d hd=>let ⟨_,k⟩:=h d hd;k.sh
 have a2:PyData.hasDictAll ds=false:=noDictAll fun d hd=>let ⟨_,k⟩:=h d hd;k.nd
 have a3:PyData.depthAll ds<=n:=depthAll_le fun d hd=>let ⟨_,k⟩:=h d hd;k.dp
 have a4:PyData.leavesShortAll 573 ds=true:=all_of rfl (fun _ _=>rfl) fun d hd=>let ⟨_,k⟩:=h d hd;k.lf
 have a5:PyData.canLayAll0 ds=true:=all_of rfl (fun _ _=>rfl) fun d hd=>let ⟨_,k⟩:=h d hd;k.cl
 have a6:noDicts ds=true:=all_of rfl (fun _ _=>rfl) fun d hd=>let ⟨_,k⟩:=h d hd;k.no
 refine⟨⟨?_, ?_, ?_, ?_, ?_, ?_, ?_⟩,⟨?_, ?_, ?_, ?_, ?_, ?_, ?_⟩⟩
 ·rw [PyData.showable];exact a1
 ·rw [PyData.hasDict];exact a2
 ·rw [PyData.depth];exact Nat.succ_le_succ a3
 ·rw [PyData.weight];exact hw
 ·rw [PyData.leavesShort];exact a4
 ·rw [PyData.canLay0];exact a5
 ·rw [noDict];exact a6
 ·rw [PyData.showable];exact a1
 ·rw [PyData.hasDict];exact a2
 ·rw [PyData.depth];exact Nat.succ_le_succ a3
 ·rw [PyData.weight];exact hw
 ·rw [PyData.leavesShort];exact a4
 ·rw [PyData.canLay0];exact a5
 ·rw [noDict];exact a6
def RpAsk(d:PyData):Prop:=(∃n w,Sh n w d/\n<=32/\w<=29000)
def isSeq:PyData->Bool
 | .list _=>true
 | .tuple _=>true
 | _=>false
def fRepr:List PyData->(PyData->Prop)->Prop
 | [d],k=>(isSeq d=true/\RpAsk d)/\k (.str d.shown)
 | _,_=>False
end
section
theorem wipe1{env e:List Sl}{i:Nat}(h:wipeE e [i]=wipeE env [i]):∃x,e=(wipeE env [i]).set i x:=by
 refine⟨e.getD i .non, ?_⟩
 have h:e.set i .non=env.set i .non:=h
 show e=(env.set i .non).set i _
 rw [<- h,List.set_set]
 by_cases hi:i<e.length
 ·rw [List.getD_eq_getElem?_getD,List.getElem?_eq_getElem hi]
  simp
 ·rw [set_big (by omega)]
theorem wipe1'{env:List Sl}{i:Nat}{x:Sl}:wipeE ((wipeE env [i]).set i x) [i]=wipeE env [i]:=by
 show ((env.set i .non).set i x).set i .non=env.set i .non
 rw [List.set_set,List.set_set]
theorem lcL_go{α:Type}{g:AG}{tt:AT}{te:AD}{vs:List Nat}{K:List PyData->List Sl->Prop}{E:List Sl}(emb f:α->PyData)(p:α->Bool)
  : ∀(xs:List α) (acc:List PyData) (env:List Sl),wipeE env vs=E->acc.length+xs.length<=sizeLine ->
  (∀a∈xs,∀(Kt:PyData->List Sl->Prop) (Kf:List Sl->Prop),(p a=true ->∀e,wipeE e vs=E->Kt (f a) e)->(p a=false ->∀e,wipeE e vs=E->Kf e)->g (emb a) E fun e2=>tt e2 fun b e3=>(b=true->te e3 Kt)/\(b=false->Kf e3)) ->
  (∀e,wipeE e vs=E->K (acc++(xs.filter p).map f) e)->lcL g tt te vs K (xs.map emb) acc env
 | [],acc,env,h0,_,_,fin=>by
  have:=fin env h0
  rw [List.filter_nil,List.map_nil,List.append_nil]at this
  exact this
 | a::xs,acc,env,h0,hl,step,fin=>by
  rw [List.length_cons]at hl
  show g (emb a) (wipeE env vs) _
  rw [h0]
  refine step a (.head _) _ _ (fun hp e he=>⟨by omega,lcL_go emb f p xs _ e he (by rw [List.length_append,List.length_singleton];omega) (fun b hb=>step b (.tail _ hb)) fun e2 he2 => ?_⟩) fun hp e he=>lcL_go emb f p xs _ e he (by omega) (fun b hb=>step b (.tail _ hb)) fun e2 he2 => ?_
  ·have:=fin e2 he2
   rw [List.filter_cons,if_pos hp,List.map_cons]at this
   rw [List.append_assoc]
   exact this
  ·have:=fin e2 he2
   rw [List.filter_cons,if_neg (by rw [hp];decide)]at this
   exact this
theorem lcL_1{α:Type}{g:AG}{tt:AT}{te:AD}{i:Nat}{K:List PyData->List Sl->Prop}{env:List Sl}(emb f:α->PyData)(p:α->Bool)(xs:List α)(hl:xs.length<=sizeLine)
  (step:∀a∈xs,∀(Kt:PyData->List Sl->Prop) (Kf:List Sl->Prop),(p a=true ->∀x,Kt (f a) ((wipeE env [i]).set i x))->(p a=false ->∀x,Kf ((wipeE env [i]).set i x))->g (emb a) (wipeE env [i]) fun e2=>tt e2 fun b e3=>(b=true->te e3 Kt)/\(b=false->Kf e3))
  (fin:∀x,K ((xs.filter p).map f) ((wipeE env [i]).set i x)):lcL g tt te [i] K (xs.map emb) [] env :=
 lcL_go emb f p xs [] env rfl (by rw [List.length_nil];omega) (fun a ha Kt Kf h1 h2=>step a ha Kt Kf (fun hp x=>h1 hp _ wipe1') fun hp x=>h2 hp _ wipe1') fun e he=>by
  obtain⟨x,rfl⟩:=wipe1 he
  exact fin x
theorem szl{n:Nat}(h:n<=2^24):n<=sizeLine:=sz_of h
theorem filter_yes{α:Type}(xs:List α):xs.filter (fun _=>true)=xs:=List.filter_eq_self.mpr fun _ _=>rfl
theorem lcL_m1{α:Type}{g:AG}{tt:AT}{te:AD}{i:Nat}{K:List PyData->List Sl->Prop}{env:List Sl}(emb f:α->PyData)(xs:List α)(hl:xs.length<=sizeLine)
  (step:∀a∈xs,∀(Kt:PyData->List Sl->Prop) (Kf:List Sl->Prop),(∀x,Kt (f a) ((wipeE env [i]).set i x))->g (emb a) (wipeE env [i]) fun e2=>tt e2 fun b e3=>(b=true->te e3 Kt)/\(b=false->Kf e3))
  (fin:∀x,K (xs.map f) ((wipeE env [i]).set i x)):lcL g tt te [i] K (xs.map emb) [] env :=
 lcL_1 emb f (fun _=>true) xs hl (fun a ha Kt Kf h1 _=>step a ha Kt Kf (h1 rfl)) (by rw [filter_yes];exact fin)
theorem wipe2{env e:List Sl}{i j:Nat}(h:wipeE e [i,j]=wipeE env [i,j]):∃x y,e=((wipeE env [i,j]).set j y).set i x:=by
 have h:(e.set j .non).set i .non=(env.set j .non).set i .non:=h
 obtain⟨x,h1⟩:=wipe1 (e:=e.set j .non) (env:=env.set j .non) h
 have h1:e.set j .non=((env.set j .non).set i .non).set i x:=h1
 by_cases hij:i=j
 ·subst hij
  refine⟨e.getD i .non,.non, ?_⟩
  show e=(((env.set i .non).set i .non).set i .non).set i _
  simp only [List.set_set]at h ⊢
  obtain⟨x,hx⟩:=wipe1 (e:=e) (env:=env) (i:=i) h
  have hx:e=(env.set i .non).set i x:=hx
  rw [List.set_set]at hx
  rw [hx]
  by_cases hi:i<env.length
  ·simp [hi]
  ·rw [set_big (by omega),set_big (by omega)]
 ·refine⟨x,e.getD j .non, ?_⟩
  show e=(((env.set j .non).set i .non).set j _).set i x
  rw [List.set_comm _ _ (Ne.symm hij),<- h1,List.set_set]
  by_cases hi:j<e.length
  ·rw [List.getD_eq_getElem?_getD,List.getElem?_eq_getElem hi]
   simp
  ·rw [set_big (by omega)]
theorem wipe2'{env:List Sl}{i j:Nat}{x y:Sl}:wipeE (((wipeE env [i,j]).set j y).set i x) [i,j]=wipeE env [i,j]:=by
 show (((((env.set j .non).set i .non).set j y).set i x).set j .non).set i .non=(env.set j .non).set i .non
 refine List.ext_getElem? fun k => ?_
 simp only [List.getElem?_set,List.length_set]
 by_cases h1:i=k <;> by_cases h2:j=k <;> simp [h1,h2]
theorem lcL_2{α:Type}{g:AG}{tt:AT}{te:AD}{i j:Nat}{K:List PyData->List Sl->Prop}{env:List Sl}(emb f:α->PyData)(p:α->Bool)(xs:List α)(hl:xs.length<=sizeLine)
  (step:∀a∈xs,∀(Kt:PyData->List Sl->Prop) (Kf:List Sl->Prop),(p a=true ->∀x y,Kt (f a) (((wipeE env [i,j]).set j y).set i x))->(p a=false ->∀x y,Kf (((wipeE env [i,j]).set j y).set i x))->g (emb a) (wipeE env [i,j]) fun e2=>tt e2 fun b e3=>(b=true->te e3 Kt)/\(b=false->Kf e3))
  (fin:∀x y,K ((xs.filter p).map f) (((wipeE env [i,j]).set j y).set i x)):lcL g tt te [i,j] K (xs.map emb) [] env :=
 lcL_go emb f p xs [] env rfl (by rw [List.length_nil];omega) (fun a ha Kt Kf h1 h2=>step a ha Kt Kf (fun hp x y=>h1 hp _ wipe2') fun hp x y=>h2 hp _ wipe2') fun e he=>by
  obtain⟨x,y,rfl⟩:=wipe2 he
  exact fin x y
theorem lcL_m2{α:Type}{g:AG}{tt:AT}{te:AD}{i j:Nat}{K:List PyData->List Sl->Prop}{env:List Sl}(emb f:α->PyData)(xs:List α)(hl:xs.length<=sizeLine)
  (step:∀a∈xs,∀(Kt:PyData->List Sl->Prop) (Kf:List Sl->Prop),(∀x y,Kt (f a) (((wipeE env [i,j]).set j y).set i x))->g (emb a) (wipeE env [i,j]) fun e2=>tt e2 fun b e3=>(b=true->te e3 Kt)/\(b=false->Kf e3))
  (fin:∀x y,K (xs.map f) (((wipeE env [i,j]).set j y).set i x)):lcL g tt te [i,j] K (xs.map emb) [] env :=
 lcL_2 emb f (fun _=>true) xs hl (fun a ha Kt Kf h1 _=>step a ha Kt Kf (h1 rfl)) (by rw [filter_yes];exact fin)
theorem forL_st{α:Type}{g:AG}{tb:ATS}{A:AEnds}(emb:α->PyData)(xs:List α)(I:List α->List α->List Sl->Prop)(fin:∀env,I xs [] env->A.nx env)
  (step:∀d a r env (G:List Sl->Prop),xs=d++a::r->I d (a::r) env->(∀e,I (d ++ [a]) r e->G e)->g (emb a) env fun e2=>tb ⟨G,A.rt,A.nx,G⟩ e2) {env0:List Sl} (h0:I [] xs env0):forL g tb A (xs.map emb) env0:=by
 have:∀(r d:List α) (env:List Sl),xs=d++r->I d r env->forL g tb A (r.map emb) env:=by
  intro r
  induction r with
  | nil =>
   intro d env e h
   rw [List.append_nil]at e
   subst e
   exact fin env h
  | cons a r ih =>
   intro d env e h
   exact step d a r env _ e h fun e2 h2=>ih (d ++ [a]) e2 (by rw [e];simp) h2
 exact this xs [] env0 rfl h0
theorem x_sz{n:Nat}(h:n<=16777216):sz n=True:=eq_true (sz_of h)
theorem x_eqI(i j:Int):EqOk (.int i) (.int j)=True:=eq_true (.int i j)
theorem x_eqS(x y:Str):EqOk (.str x) (.str y)=True:=eq_true (.inr ⟨x,y,rfl,rfl⟩)
theorem x_evI(i j:Int):PyData.eqv (.int i) (.int j)=decide (i=j):=by rw [eqv_int];exact Bool.eq_iff_iff.mpr (by simp)
theorem x_evS(x y:Str):PyData.eqv (.str x) (.str y)=decide (x=y):=by rw [<- dec_strE];exact Bool.eq_iff_iff.mpr (by simp)
theorem x_nt(b:Bool):((!b)=true)=(b=false):=by cases b <;> simp
theorem x_nf(b:Bool):((!b)=false)=(b=true):=by cases b <;> simp
end
section
def zeroL(n:Nat):List Int:=List.replicate n 0
theorem vec_zero(n i:Nat):vec (zeroL n) i=0:=by
 unfold vec zeroL
 rw [List.getD_eq_getElem?_getD,List.getElem?_replicate]
 split <;> rfl
end
section
def sortD(ds:List PyData):List PyData:=ds.mergeSort (PySem.W.dataLe false id)
structure SrtOk(ds:List PyData):Prop where
 al:PySem.W.AllAlike ds
 so:PySem.W.Sortable ds
 dp:∀d∈ds,d.depth<=32
 no:noDicts ds=true
def rSortD(K:PySem.W.Frag):List V->Hp->VK->Prop:=fun vs H Q =>∃(a:Addr) (xs:List V) (ds:List PyData),vs = [V.ref a]/\SqL K H a xs/\DpAll K H xs ds/\SrtOk ds /\
 ∀(ps:List (V×PyData)) p,ps.map Prod.snd=sortD ds->(∀q∈ps,q∈xs.zip ds)->H p=none->Q (.ref p) (upd H p (.lst (ps.map Prod.fst)))
theorem sort_snd{ps:List (V×PyData)}:(ps.mergeSort (PySem.W.dataLe false Prod.snd)).map Prod.snd=(ps.map Prod.snd).mergeSort (PySem.W.dataLe false id) :=
 List.map_mergeSort (fun a _ b _=>rfl)
section
variable {X:Cx}
theorem each_vals:∀{xs:List V} {us:List Value} {ds:List PyData},Vals xs us->xs.length=ds.length->PySem.W.EachIs (fun u (b:V×PyData)=>RelV b.1 u) us (xs.zip ds)
 | [],us,ds,h,e=>by
  cases h
  exact .nil
 | x::xs,us,[],h,e=>by cases e
 | x::xs,us,d::ds,h,e=>by
  cases h with
  | cons h1 h2=>exact .cons h1 (each_vals h2 (Nat.succ.inj e))
theorem vals_each:∀{us:List Value} {bs:List (V×PyData)},PySem.W.EachIs (fun u (b:V×PyData)=>RelV b.1 u) us bs->Vals (bs.map Prod.fst) us
 | _,_,.nil => .nil
 | _,_,.cons h1 h2 => .cons h1 (vals_each h2)
theorem dpAll_len{K:PySem.W.Frag}{H:Hp}:∀{xs:List V} {ds:List PyData},DpAll K H xs ds->xs.length=ds.length
 | _,[],h=>by cases h;rfl
 | _,d::ds,h=>by
  cases h with
  | cons _ h2=>rw [List.length_cons,List.length_cons,dpAll_len h2]
theorem each_reads{pins:List (Addr×Obj)}{σ:St}{H:Hp}{s:Shared}(I:Inv X pins σ H s):∀{xs:List V} {us:List Value} {ds:List PyData},Vals xs us->DpAll X.K H xs ds->PySem.W.EachIs (fun u (b:V×PyData) =>∃as,Reads s.heap u b.2 as) us (xs.zip ds)
 | [],us,ds,h,e=>by
  cases h
  exact .nil
 | x::xs,us,_,h,e=>by
  cases e with
  | cons e1 e2 =>
   cases h with
   | cons h1 h2=>exact .cons (Dp.reads I _ _ _ e1 h1) (each_reads I h2 e2)
theorem zip_snd{α β:Type}:∀{xs:List α} {ds:List β},xs.length=ds.length->(xs.zip ds).map Prod.snd=ds
 | [],[],_=>rfl
 | x::xs,[],e=>by cases e
 | [],d::ds,e=>by cases e
 | x::xs,d::ds,e=>by rw [List.zip_cons_cons,List.map_cons,zip_snd (Nat.succ.inj e)]
theorem cr_sortD{k:Nat}(hr:RoomG k X.A):CallR X (.builtin "sorted") (rSortD X.K):=by
 intro pins s σ H vs us Q I r h
 obtain⟨a,xs,ds,rfl,hs,hd,so,q⟩:=h
 obtain rfl:=Vals.ref1 r
 obtain⟨its,rv,hl,hz⟩:=I.list hs
 have el:=dpAll_len hd
 have ez:(xs.zip ds).map Prod.snd=ds:=zip_snd el
 have hu:=hr.u64
 refine PySem.W.sorted_data (enc:=Prod.snd) (bs:=xs.zip ds) hl.isList (each_vals rv el) (each_reads I rv hd) (by rw [ez];exact so.al) (by rw [ez];exact so.so) (by rw [List.length_zip,el,Nat.min_self,<- el];exact hz) (fun b hb => ?_) fun out h1 h2 => ?_
 ·have:=so.dp b.2 (by rw [<- ez];exact List.mem_map.mpr ⟨b,hb,rfl⟩)
  omega
 ·obtain⟨ep,he'⟩:=PyProof.Rows.sortedAll_at s.heap its out.toArray
  have hlen:(((xs.zip ds).mergeSort (PySem.W.dataLe false Prod.snd)).map Prod.fst).length<=sizeLine:=by
   rw [List.length_map,(List.mergeSort_perm _ _).length_eq,List.length_zip,el,Nat.min_self,<- el]
   exact hz
  refine⟨.ref _,upd H (s.heap.objs.size+1) (.lst (((xs.zip ds).mergeSort (PySem.W.dataLe false Prod.snd)).map Prod.fst)),I.laid (t':=s.toks) (fun _ _=>PyProof.Rows.sortedAll_old) (Nat.le_succ _) ⟨hlen,_,ep,vals_each h2,by simpa using he'⟩,rfl,q _ _ ?_ (fun z hz=>(List.mergeSort_perm _ _).mem_iff.mp hz) (I.hok.fresh (Nat.le_succ _))⟩
  rw [sort_snd,ez]
  rfl
end
def fSortD:List PyData->(List PyData->Prop)->Prop
 | [.list ds],k=>SrtOk ds/\k (sortD ds)
 | _,_=>False
theorem rps_pairs{F:Hp}{xs:List V}{ds:List PyData}(h:Rps F xs ds):∀q∈xs.zip ds,Rp F q.1 q.2:=by
 induction ds generalizing xs with
 | nil=>intro q hq;cases h;simp at hq
 | cons d ds ih =>
  intro q hq
  cases h with
  | cons h1 h2 =>
   rw [List.zip_cons_cons]at hq
   rcases List.mem_cons.mp hq with rfl | hq
   ·exact h1
   ·exact ih h2 q hq
theorem rps_of_pairs{F:Hp}:∀{ps:List (V×PyData)},(∀q∈ps,Rp F q.1 q.2)->Rps F (ps.map Prod.fst) (ps.map Prod.snd)
 | [],_ => .nil
 | q::ps,h => .cons (h q (.head _)) (rps_of_pairs fun z hz=>h z (.tail _ hz))
theorem sim_sortD{K:PySem.W.Frag}:SimCo (rSortD K) fSortD:=by
 intro F H xs ds P Q ex r h q
 match ds,r,h with
 | [.list ds],r,h =>
  obtain⟨v,rfl,r1⟩:=rps1 r
  cases r1 with
  | lst g1 g2 =>
   refine⟨_,_,ds,rfl,SqL.of (ex _ _ g1),(g2.up ex).dps ds h.1.no,h.1,fun ps p e1 e2 hp => ?_⟩
   have:=rps_of_pairs fun z hz=>rps_pairs g2 z (e2 z hz)
   rw [e1]at this
   exact q _ _ _ hp this h.2
section
variable {X:Cx} {e:Expr} {es:List Expr} {su:TA} {tu:AL} {pos:Pos}
theorem ao_callB{x:Str}{p:Pos}{id:String}{r:List V->Hp->VK->Prop}{f:List PyData->(List PyData->Prop)->Prop}(hc:CallR X (.builtin id) r)(hf:SimCo r f)(hg:Gl X x)(hm:X.mg x=none)(hv:bootBuiltins x=some (.builtin id))(ha:APA X (e::es) su tu)(hn:x ≠ "__name__" :=by decide)(hdb:(x==("__debug__" : Str))=false:=by decide)
  (he:starEach (e::es) X.env=(false,eval e X.env)::starEach es X.env:=by rfl) (hpl:(backTo pos (starEach es X.env)).any (·.1)=false:=by rfl):AEO X (.Call (.Name x p) (e::es) [] pos) (tCB r su) (aCallO f tu) :=
 ⟨pe_callB hc hg hm hv ha.pe hn hdb he hpl,sim_callO hf ha.sm⟩
end
theorem f_sortD(ds:List PyData)(k:List PyData->Prop):fSortD [.list ds] k=(SrtOk ds/\k (sortD ds)):=rfl
end
section
theorem keyOf_keyD(k:Key):keyOf (keyD k)=some k:=by cases k <;> rfl
def getP(ds:List (PyData×PyData))(k:Key):Option PyData:=(ds.find? fun kv=>decide (keyOf kv.1=some k)).map (·.2)
theorem rpk_get{F:Hp}{k:Key}:∀{xs:List (Key×V)} {ds:List (PyData×PyData)},Rpk F xs ds->match getP ds k with
  | some d =>∃v,valV xs k=some v/\Rp F v d
  | none=>valV xs k=none
 | _,[],h=>by cases h;rfl
 | _,q::ds,h=>by
  cases h with
  | cons h1 h2 =>
   rename_i k' v xs d
   have ih:=rpk_get (k:=k) h2
   by_cases z:k'=k
   ·have e1:getP ((keyD k',d)::ds) k=some d:=by unfold getP;rw [List.find?_cons_of_pos (by simp [keyOf_keyD,z])];rfl
    rw [e1]
    exact⟨v,valV_pos z,h1⟩
   ·have e1:getP ((keyD k',d)::ds) k=getP ds k:=by unfold getP;rw [List.find?_cons_of_neg (by simp [keyOf_keyD,z])]
    rw [e1,valV_neg z]
    exact ih
def onDD(d:PyData)(k:List (PyData×PyData)->Prop):Prop:=match d with
 | .dict ds=>k ds
 | _=>False
def aDGet(ta te:AD):AD:=fun env P=>ta env fun d1 e1=>onDD d1 fun ds=>te e1 fun d2 e2=>opt (keyOf d2) fun k=>opt (getP ds k) fun y=>P y e2
theorem sim_dget{sa se:TE}{ta te:AD}(ha:SimE sa ta)(he:SimE se te):SimE (tDGet sa se) (aDGet ta te):=fun Q P ok h q =>
 ha _ _ ok h fun v1 d1 e1 F1 H1 fp1 t1 ok1 r1 h1=>by
  cases r1 with
  | dk g1 g2 =>
   refine he _ _ ok1 h1 fun v2 d2 e2 F2 H2 fp2 t2 ok2 r2 h2 => ?_
   cases hk:keyOf d2 with
   | none=>rw [hk]at h2;exact h2.elim
   | some k =>
    rw [hk,opt_s]at h2
    have ev:=keyOf_v r2 hk
    subst ev
    have g:=rpk_get (k:=k) g2
    split at g
    ·rename_i y hg
     rw [hg,opt_s]at h2
     obtain⟨w,hw,rw'⟩:=g
     refine⟨_,w,rfl, ?_,q _ _ _ _ _ _ (t1.trans t2) ok2 (rw'.up t2.ex) h2⟩
     rw [<- hw]
     exact .inl ⟨_,_,rd_ex (rd_ex g1 t2.ex) ok2.ex,rfl,rfl⟩
    ·rename_i hg
     rw [hg]at h2
     exact h2.elim
  | row g1 g2 =>
   refine he _ _ ok1 h1 fun v2 d2 e2 F2 H2 fp2 t2 ok2 r2 h2 => ?_
   cases hk:keyOf d2 with
   | none=>rw [hk]at h2;exact h2.elim
   | some k =>
    rw [hk]at h2
    exact h2.elim
  | _=>exact h1.elim
section
variable {X:Cx} {a e:Expr} {sa se:TE} {ta te:AD} {pos:Pos}
theorem ae_dget(hu:X.A.units+64<cLine)(ha:AE X a sa ta)(he:AE X e se te)(hs:NoSl e:=by intro _ _;rfl):AE X (.Subscript a e pos) (tDGet sa se) (aDGet ta te):=⟨pe_dget (by omega) ha.pe he.pe hs,sim_dget ha.sm he.sm⟩
abbrev aIslower(ta:AD):AD:=aM0 (fun _=>True) (fun a => .bool (Txt.islower a)) ta
theorem ae_islower{apos:Pos}(ho:AE X a sa ta)(hbase:attributeBase a "islower" X.env (eval a X.env)=eval a X.env:=by rfl)(hline:(apos.endLine==pos.line)=true:=by rfl):AE X (.Call (.Attribute a "islower" apos) [] [] pos) (tM0 (fun x xs H Q =>∃a,x = .str a/\xs = []/\True/\Q (.bl (Txt.islower a)) H) sa) (aIslower ta):=⟨pe_m0 PySem.F.slot_str_islower PySem.F.type_str_islower mt_islower ho.pe hbase hline,sim_m0 (fun _ _ => .bl _) ho.sm⟩
end
def keysOf:List PyData->Option (List Key)
 | []=>some []
 | d::ds=>(keyOf d).bind fun k=>(keysOf ds).map (k :: ·)
def keyT:PyData->Option (List Key)
 | .tuple ds=>keysOf ds
 | _=>none
end
section
section
variable {i:Nat} {env:List Sl} {A:AEnds} {P:PyData->List Sl->Prop} {PO:MO->List Sl->Prop} {ta te tv tk tj:AD}
theorem x_onDD(ds:List (PyData×PyData))(k:List (PyData×PyData)->Prop):onDD (.dict ds) k=k ds:=rfl
theorem x_dget:aDGet ta te env P=ta env fun d1 e1=>onDD d1 fun ds=>te e1 fun d2 e2=>opt (keyOf d2) fun k=>opt (getP ds k) fun y=>P y e2:=rfl
end
end
section
structure Cd where
 p:Nat
 c:Nat
 q:Nat
 f:List Int
def cdD(e:Cd):PyData := .tuple [.int e.p,.str (tx [e.c]),.int e.q,pd e.f]
def NoCl(cs:List Cd):Prop:=cs.Pairwise fun a b=>a.c=b.c->a.p≠b.p/\a.q≠b.q
def nextL:List Cd->Nat->Nat->Option (Nat×List Int)
 | [],_,_=>none
 | e::r,x,s=>if s=e.c/\e.p=x then some (e.q,e.f)else if s=Cf.inv e.c/\e.q=x then some (e.p,ofL e.f (-1))else nextL r x s
theorem inv_inj{c d:Nat}(h:Lo c)(h':Lo d)(e:Cf.inv c=Cf.inv d):c=d:=by
 have:∀c ∈ [97,98,99,100],∀d ∈ [97,98,99,100],Cf.inv c=Cf.inv d->c=d:=by decide
 exact this c h d h' e
inductive Rch(cs:List Cd)(B:List Nat):Nat->Prop
 | base {x:Nat}:x∈B->Rch cs B x
 | forth {e:Cd}:e∈cs->Rch cs B e.p->Rch cs B e.q
 | back {e:Cd}:e∈cs->Rch cs B e.q->Rch cs B e.p
end
section
def mkc(a c b:Nat)(f:List Int):Cd:=if 97<=c then⟨a,c,b,f⟩else⟨b,Cf.inv c,a,ofL f (-1)⟩
def pets(n:Nat):List Nat->List Int->Nat->Nat->List Cd
 | [],_,_,_ =>[]
 | [c],f,a,_ =>[mkc a c 0 f]
 | c::d::r,f,a,g=>mkc a c g f::pets n (d::r) (zeroL n) g (g+1)
abbrev Lps:=List (List Nat×List Int)
def flwC(n:Nat):Lps->Nat->List Cd
 | [],_ =>[]
 | (l,p)::r,g=>pets n l p 0 g++flwC n r (g+(l.length-1))
def flwW:Lps->List (List Int)
 | [] =>[]
 | (l,p)::r=>(if l = []then [p]else [])++flwW r
def steps:Lps->Nat
 | []=>0
 | (l,_)::r=>l.length+steps r
end
section
def IteS(x:Str):It :=
 ⟨fun i H=>i<x.cps.size,fun i H v H' =>∃T c,v = .ref T/\H T=none/\H'=upd H T (.tup [.int (i:Nat),.str ⟨#[c]⟩])/\x.cps[i]? =some c,fun i H=>i=x.cps.size⟩
theorem turn_enumS{P:Program}{w:World}{K:PySem.W.Frag}{elts:List Expr}{kk:Nat}{tpos:Pos}(x:Str)(t:Tok)(e it:Addr) :
  Turn P w K (.Tuple elts kk tpos) (IteS x) [e,it] e (fun i h=>(∃old,IsEnum h e it ((i:Nat):Int) old)/\h.IsStrIter it (strIterType x) x t i/\e≠it) where
 mem:=by simp
 obj:=fun i h st b hb=>by
  obtain⟨⟨old,he⟩,⟨o,ho,hc,hd⟩,_⟩:=st
  have e':b=e∨b=it:=by simpa using hb
  rcases e' with z | z
  ·rw [z];exact⟨_,he,fun v q=>nomatch q⟩
  ·rw [z];exact⟨o,ho,fun v q=>by rw [hd]at q;cases q⟩
 keep:=fun i h h' st k=>let ⟨⟨old,he⟩,hi,hne⟩:=st;⟨⟨old,k e (by simp) _ he⟩,(let ⟨o,ho,r⟩:=hi;⟨o,k it (by simp) o ho,r⟩),hne⟩
 item:=by
  intro X hP hw hK hc i pins s σ H E I hf st hg
  subst hP hw hK
  obtain⟨⟨old,he⟩,hit,hne⟩:=st
  have hel:e<s.heap.objs.size:=Heap.lt_size he
  have hil:it<s.heap.objs.size:=by obtain⟨_,q,_⟩:=hit;exact Heap.lt_size q
  refine wpAny_pyNext_enum_itemC (c:=(i:Int)) (Draws.text (A:=X.A.in1) (I.ok.hd hc) it x t) he hit hg hne (by simpa using hne) fun x' h' tk hPx ho hst' hT hsz hk => ?_
  obtain⟨c,u,hcx,rfl⟩:=hPx
  refine⟨_,rfl,wpAny_letOwnedTupleGo_enum (s:={ s with heap:=h',toks:=tk+1 }) ho fun h'' he' sb => ?_⟩
  have hT2:h''.get? s.heap.objs.size=some { cls := .type "tuple",data := .seq #[.int i tk,.str ⟨#[c]⟩ u] }:=(sb.2 _ (Nat.ne_of_gt hel)).trans hT
  have new:ObjOk X.prog X.w (upd H s.heap.objs.size (.tup [.int (i:Nat),.str ⟨#[c]⟩])) h'' s.heap.objs.size (.tup [.int (i:Nat),.str ⟨#[c]⟩]) :=
   ⟨by show 2<=sizeLine;decide,[.int i tk,.str ⟨#[c]⟩ u],.cons ⟨_,rfl⟩ (.cons ⟨_,rfl⟩ .nil),⟨_,hT2,rfl,_,rfl⟩⟩
  have I1:Inv X pins σ (upd H s.heap.objs.size (.tup [.int (i:Nat),.str ⟨#[c]⟩])) { s with heap:=h'',toks:=tk+1 } :=
   I.turnedNew (ch :=[e,it]) (fun b ob hb q=>(sb.2 b (fun z=>hb (by simp [z]))).trans (hk b ob (fun z=>hb (by simp [z])) (fun z=>hb (by simp [z])) q)) hf (Nat.le_refl _) new
  refine⟨.ref s.heap.objs.size,_,I1,rfl,⟨_,c,rfl,I.hok.fresh (Nat.le_refl _),rfl,hcx⟩,⟨⟨.str ⟨#[c]⟩ u, ?_⟩,(let ⟨o,ho,r⟩:=hst';⟨o,(sb.2 it (Ne.symm hne)).trans ho,r⟩),hne⟩,fun b hb => ?_⟩
  ·have e1:((i+1:Nat):Int)=(i:Int)+1:=by omega
   rw [e1];exact he'
  ·have hb':b<s.heap.objs.size:=by
    have e':b=e∨b=it:=by simpa using hb
    rcases e' with z | z
    ·rw [z];exact hel
    ·rw [z];exact hil
   rw [upd_ne (Nat.ne_of_lt hb')]
   exact(hf b hb).1
 done:=by
  intro X hP hw hK hc i pins s σ H E I hf st hg
  subst hP hw hK
  obtain⟨⟨old,he⟩,hit,hne⟩:=st
  have hg:i=x.cps.size:=hg
  subst hg
  obtain⟨f0,f1,f2,f3,f4,f5⟩:=hf it (by simp)
  have hT:s.TypeIs (.ref e) "enumerate" :=⟨_,he,rfl⟩
  unfold pyNext
  refine wpAny_bind (wpAny_attempt (wpAny_callSpecial?_slot (name:=Str.ofString "__next__") hT PySem.F.slot_enumerate_next
   (wpAny_call_entry PySem.F.slot_enumerate_next hT PySem.F.entry_enumerate_next ?_ (PySem.F.args_enumerate_next_1 _))))
  show wpAny _ _ (field (.ref e) 2 >>=_) _ _ _
  refine wpAny_bind (wpAny_field he rfl (x := .ref it) rfl ?_)
  refine wpAny_bind ((Draws.text (A:=X.A.in1) (I.ok.hd hc) it x t).done s _ _ hit fun h' x he' hx' => ?_)
  obtain⟨o,ho,hcl⟩:=hx'
  refine wpAny_bind (wpAny_isInstance (T := "StopIteration") (b:=true) ⟨o,ho,hcl⟩ isSubtype_stop ?_)
  exact wpAny_pure ⟨rfl,I.turned (t':=s.toks) (fun b o hb q=>he' b o hb q) f0 f1 f3 f4 f5⟩
 self:=fun A i s Q E st h=>let ⟨⟨_,he⟩,_⟩:=st;wpAny_pyIter_enum he h
def iEnumB(K:PySem.W.Frag)(ta:TA):TI:=fun σ H R=>ta σ H fun vs H1=>(∃a xs,vs = [.ref a]/\SqL K H1 a xs/\R (Ite K a) H1)∨(∃a xs,vs = [.ref a]/\SqT K H1 a xs/\R (IteT K a) H1) ∨∃x,vs = [.str x]/\R (IteS x) H1
theorem pi_enumB{X:Cx}{e:Expr}{ta:TA}{p pos tpos:Pos}{elts:List Expr}{kk:Nat}(hg:Gl X "enumerate")(hm:X.mg "enumerate" =none)(ha:PA X [e] ta)(hs:starEach [e] X.env = [(false,eval e X.env)]:=by rfl) :
  PI X (.Tuple elts kk tpos) (.Call (.Name "enumerate" p) [e] [] pos) (iEnumB X.K ta):=by
 refine⟨fun pins s σ H R I h => ?_⟩
 refine Call_ (ld_blt I hg hm boot_enumerate (PyProof.Rows.callWith_type1 (thn (ha.run pos pins s σ H _ I h) fun us s1 ⟨vs,H1,I1,r1,q1⟩ => ?_) hs rfl))
 have fpk:∀b ∈ [s1.heap.objs.size+1,s1.heap.objs.size],FpOk X pins H1 b:=fun b hb=>by
  have e':b=s1.heap.objs.size+1∨b=s1.heap.objs.size:=by simpa using hb
  have hle:s1.heap.objs.size<=b:=by
   rcases e' with z | z
   ·rw [z];exact Nat.le_add_right _ _
   ·rw [z];exact Nat.le_refl _
  exact I1.fpOk hle (I1.hok.fresh hle)
 rcases q1 with ⟨a,xs,ex,hq,q⟩ | ⟨a,xs,ex,hq,q⟩ | ⟨x,ex,q⟩
 ·subst ex
  cases r1 with
  | cons r rr =>
   cases rr
   cases r
   obtain⟨its,rv,p',hz⟩:=I1.list hq
   refine call_enumerate_list p'.isList fun h' he hit hsz hk=>wpAny_pyIter_enum he ?_
   have I2:Inv X pins σ H1 { s1 with heap:=h' }:=I1.kept (t':=s1.toks) hk
   exact⟨s1.heap.objs.size+1,[s1.heap.objs.size+1,s1.heap.objs.size],_,_,H1,rfl,I2,turn_enum a (s1.heap.objs.size+1) s1.heap.objs.size,⟨⟨.none,he⟩,hit,Nat.succ_ne_self _⟩,fpk,q⟩
 ·subst ex
  cases r1 with
  | cons r rr =>
   cases rr
   cases r
   obtain⟨its,rv,p',hz⟩:=I1.tuple hq
   refine enum_begins1 (begins_tuple a its.toArray) p' fun h' he hit hsz hk=>wpAny_pyIter_enum he ?_
   have I2:Inv X pins σ H1 { s1 with heap:=h' }:=I1.kept (t':=s1.toks) hk
   exact⟨s1.heap.objs.size+1,[s1.heap.objs.size+1,s1.heap.objs.size],_,_,H1,rfl,I2,turn_enumT a (s1.heap.objs.size+1) s1.heap.objs.size,⟨⟨.none,he⟩,⟨_,hit,rfl,rfl⟩,Nat.succ_ne_self _⟩,fpk,q⟩
 ·subst ex
  cases r1 with
  | cons r rr =>
   cases rr
   obtain⟨t,rfl⟩:=r
   refine enum_begins1 (begins_text x t) trivial fun h' he hit hsz hk=>wpAny_pyIter_enum he ?_
   have I2:Inv X pins σ H1 { s1 with heap:=h' }:=I1.kept (t':=s1.toks) hk
   exact⟨s1.heap.objs.size+1,[s1.heap.objs.size+1,s1.heap.objs.size],_,_,H1,rfl,I2,turn_enumS x t (s1.heap.objs.size+1) s1.heap.objs.size,⟨⟨.none,he⟩,⟨_,hit,rfl,rfl⟩,Nat.succ_ne_self _⟩,fpk,q⟩
def onEnB(P:List PyData->List Sl->Prop)(e:List Sl):List PyData->Prop
 | [.list ds]=>P (enumD ds) e
 | [.tuple ds]=>P (enumD ds) e
 | [.str z]=>P (enumD (signs z)) e
 | _=>False
def aiEnumB(tu:AL):AI:=fun env P=>tu env fun ds e=>onEnB P e ds
theorem walkd_enumS{F:Hp}(x:Str):WalkD (IteS x) F (enumD (signs x)):=by
 have hl:(enumD (signs x)).length=x.cps.size:=by unfold enumD signs;rw [List.length_map,List.length_zipIdx,List.length_map,Array.length_toList]
 refine⟨fun F2 H2 i e1 e2 hi=>by rw [hl]at hi;exact hi,fun F2 H2 e1 e2=>hl,fun F2 H2 i v H3 e1 e2 hi y => ?_⟩
 obtain⟨T,c,rfl,hT,rfl,hc⟩:=y
 have hd:(signs x)[i]? =some (.str ⟨#[c]⟩):=by
  unfold signs
  rw [List.getElem?_map,Array.getElem?_toList,hc]
  rfl
 obtain⟨t,x⟩:=tr_new (o := .tup [.int (i:Nat),.str ⟨#[c]⟩]) hT e2
 exact⟨_,_,enumD_get hd,t,x,.tup upd_same (.cons (.int _) (.one (.str _)))⟩
section
variable {X:Cx} {e:Expr} {pos:Pos} {su:TA} {tu:AL}
theorem ai_enumB{p tpos:Pos}{elts:List Expr}{kk:Nat}(hg:Gl X "enumerate")(hm:X.mg "enumerate" =none)(ha:APA X [e] su tu)(hs:starEach [e] X.env = [(false,eval e X.env)]:=by rfl):API X (.Tuple elts kk tpos) (.Call (.Name "enumerate" p) [e] [] pos) (iEnumB X.K su) (aiEnumB tu):=⟨pi_enumB hg hm ha.pe hs,fun R P ok h q=>ha.sm _ _ ok h fun vs ds env' F' H' fp' t ok' r h'=>by
 match ds,r,h' with
 | [.list ds],r,h' =>
  obtain⟨v,rfl,r1⟩:=rps1 r
  cases r1 with
  | lst h1 k1=>exact .inl ⟨_,_,rfl,SqL.of (ok'.ex _ _ h1),q _ _ _ _ _ _ t ok' (walkd_enum h1 k1) h'⟩
 | [.tuple ds],r,h' =>
  obtain⟨v,rfl,r1⟩:=rps1 r
  cases r1 with
  | tup h1 k1=>exact .inr (.inl ⟨_,_,rfl,SqT.of (ok'.ex _ _ h1),q _ _ _ _ _ _ t ok' (walkd_enumT h1 k1) h'⟩)
 | [.str z],r,h' =>
  obtain⟨v,rfl,r1⟩:=rps1 r
  cases r1
  exact .inr (.inr ⟨z,rfl,q _ _ _ _ _ _ t ok' (walkd_enumS z) h'⟩)⟩
end
section
variable (env:List Sl) (P:List PyData->List Sl->Prop) (tu:AL)
theorem x_iEnB:aiEnumB tu env P=tu env fun ds e=>onEnB P e ds:=rfl
theorem x_onEBL(ds:List PyData):onEnB P env [.list ds]=P (enumD ds) env:=rfl
end
theorem steps_le{b:Nat}:∀{ls:Lps},(∀lp∈ls,lp.1.length<=b)->steps ls<=ls.length*b
 | [],_=>Nat.zero_le _
 | (l,p)::r,h=>by
  have h1:=h (l,p) (.head _)
  have h2:=steps_le (ls:=r) fun lp hlp=>h lp (.tail _ hlp)
  unfold steps
  rw [List.length_cons,Nat.succ_mul]
  have h1:l.length<=b:=h1
  omega
theorem islower_lt:∀{c:Nat},Lt c->Txt.islower (tx [c])=decide (97<=c):=by
 have:∀c ∈ [97,98,99,100,65,66,67,68],Txt.islower (tx [c])=decide (97<=c):=by decide +kernel
 exact fun {c} h=>this c h
end
section
def degL(cs:List Cd)(x:Nat):Nat:=(cs.map fun e=>e.p).count x+(cs.map fun e=>e.q).count x
def hair(cs:List Cd)(e:Cd):Bool:=(decide (e.p≠0)&&decide (degL cs e.p=1))||(decide (e.q≠0)&&decide (degL cs e.q=1))
end
section
theorem getP_K{k:Key}:∀kvs:List (Key×PyData),getP (kvs.map fun p=>(keyD p.1,p.2)) k=getK kvs k
 | []=>rfl
 | p::r=>by
  have ih:=getP_K (k:=k) r
  rw [List.map_cons]
  unfold getP getK at *
  by_cases e:p.1=k
  ·rw [List.find?_cons_of_pos (by simp [keyOf_keyD,e]),List.find?_cons_of_pos (by simpa using e)]
   rfl
  ·rw [List.find?_cons_of_neg (by simp [keyOf_keyD,e]),List.find?_cons_of_neg (by simpa using e)]
   exact ih
theorem key_eq{x y:Nat}:((.inl (x:Nat):Key) = .inl (y:Nat))↔x=y:=⟨fun h=>by have:=Sum.inl.inj h;omega,fun h=>by rw [h]⟩
def walkL(cs:List Cd):List Nat->Nat->List Int->Nat->Nat×List Int×Nat
 | [],x,f,m=>(x,f,m)
 | s::r,x,f,m=>match nextL cs x s with
  | none=>(x,f,m)
  | some (y,g)=>walkL cs r y (plusL f g) (m+1)
end
section
def pix(ps:List Nat)(x:Nat):Nat:=ps.findIdx fun z=>decide (z=x)
def renum(ps:List Nat)(fs F:List (List Int))(e:Cd):Cd:=⟨pix ps e.p,e.c,pix ps e.q,downL (lessL (plusL e.f (fs.getD (pix ps e.p) [])) (fs.getD (pix ps e.q) [])) F⟩
def sortC(cs:List Cd):List Cd:=cs.mergeSort (PySem.W.dataLe false cdD)
theorem alike_ints2:∀(p q:List Int),p.length=q.length->PySem.W.alikeAll (p.map PyData.int) (q.map PyData.int)=true
 | [],[],_=>rfl
 | a::p,b::q,h=>by
  show (PySem.W.alike (.int a) (.int b)&&PySem.W.alikeAll (p.map PyData.int) (q.map PyData.int))=true
  rw [alike_ints2 p q (Nat.succ.inj h)]
  rfl
 | [],_::_,h=>by cases h
 | _::_,[],h=>by cases h
end
section
structure Sn(n L:Nat)(d:PyData):Prop where
 sh:∃w,Sh n w d
 ln:d.shown.length<=L
theorem Sn.up{n m L M:Nat}{d:PyData}(h:Sn n L d)(h1:n<=m)(h2:L<=M):Sn m M d:=⟨let ⟨w,k⟩:=h.sh;⟨w,k.up h1 (Nat.le_refl _)⟩,Nat.le_trans h.ln h2⟩
theorem Sn.int{n w:Nat}{i:Int}(h:i.natAbs<2^w)(hw:w<=1900):Sn n 573 (.int i):=⟨⟨w,.int h hw⟩,int_shown (Nat.lt_of_lt_of_le h (Nat.pow_le_pow_right (by decide) hw))⟩
theorem shownAll_sum{L:Nat}:∀{ds:List PyData},(∀d∈ds,d.shown.length<=L)->((PyData.shownAll ds).map (·.length)).sum<=ds.length*L
 | [],_=>Nat.zero_le _
 | d::ds,h=>by
  have h1:=h d (.head _)
  have h2:=shownAll_sum (ds:=ds) fun e he=>h e (.tail _ he)
  rw [PyData.shownAll,List.map_cons,List.sum_cons,List.length_cons,Nat.succ_mul]
  omega
theorem shownAll_len(ds:List PyData):(PyData.shownAll ds).length=ds.length:=by
 induction ds with
 | nil=>rfl
 | cons d ds ih=>rw [PyData.shownAll,List.length_cons,List.length_cons,ih]
theorem Sn.seq{n L l:Nat}{ds:List PyData}(h:∀d∈ds,Sn n L d)(hl:ds.length<=l):Sn (n+1) (l*(L+2)+3) (.list ds)/\Sn (n+1) (l*(L+2)+3) (.tuple ds):=by
 have h1:=Sh.seq (w:=PyData.weightAll ds) (fun d hd=>(h d hd).sh) (Nat.le_refl _)
 have h2:=shownAll_sum fun d hd=>(h d hd).ln
 have h3:=shownAll_len ds
 have h4:=listText_len_le (PyData.shownAll ds)
 have h5:=tupleText_len_le (PyData.shownAll ds)
 have h6:ds.length*L+2*ds.length<=l*(L+2):=by
  have:=Nat.mul_le_mul_right (L+2) hl
  rw [Nat.mul_add]at this
  omega
 refine⟨⟨⟨_,h1.1⟩, ?_⟩,⟨⟨_,h1.2⟩, ?_⟩⟩
 ·rw [PyData.shown];omega
 ·rw [PyData.shown];omega
def rRepr2(K:PySem.W.Frag):List V->Hp->VK->Prop:=fun xs H Q =>∃a d,xs = [.ref a]/\Dp K H (.ref a) d/\(∃n L,Sn n L d/\n<=32/\L<=2^24)/\Q (.str d.shown) H
section
variable {X:Cx}
theorem cr_repr2{k:Nat}(hr:RoomG k X.A):CallR X (.builtin "repr") (rRepr2 X.K):=by
 intro pins s σ H xs us Q I r h
 obtain⟨a,d,rfl,hd,⟨n,L,hs,hn,hL⟩,q⟩:=h
 obtain⟨w,hw⟩:=hs.sh
 cases r with
 | cons r1 r2 =>
  cases r2
  obtain rfl:=r1
  obtain⟨as,rd⟩:=Dp.reads I d _ _ hd rfl
  have hu:=hr.u64
  have:=hw.dp
  exact repr_of_reads' rd hw.sh (fun z=>by rw [hw.nd]at z;cases z) hr.g (by omega) (fun _ _ e=>e) (fun h' u tk hk=>⟨.str d.shown,H,I.kept hk,⟨_,rfl⟩,q⟩) (Nat.le_trans hs.ln (sz_of hL))
end
end
section
abbrev Fil:=List Sl->MO->Option (List Sl)
abbrev APl:=List Sl->(MO->List Sl->Fil->Prop)->Prop
end
section
section
variable (env:List Sl) (P:PyData->List Sl->Prop) (PO:MO->List Sl->Prop) (PT:Bool->List Sl->Prop) (PP:MO->List Sl->Fil->Prop) (PI:List PyData->List Sl->Prop) (A:AEnds) (t:APl) (tk tv tk2 tv2 te:AD) (to:AO) (fill:Fil) (C:Addr) (nm:List Str) (fs:List (Nat×Fl)) (i k j:Nat) (R:ASp) (tu:AAr) (g:AG) (tb:ATS) (o:MO)
theorem x_moD1(ds:List PyData):(MO.lst ds).data=some (.list ds):=rfl
theorem x_kStr(x:Str):keyOf (.str x)=some (.inr x):=rfl
end
end
section
inductive ER(cs:List Cd)(ws:List (List Int)):Nat->Nat->Vc->Prop
 | refl {p:Nat}:ER cs ws p p (fun _=>0)
 | sym {p q:Nat} {d:Vc}:ER cs ws p q d->ER cs ws q p (fun i => -d i)
 | trans {p q r:Nat} {d e:Vc}:ER cs ws p q d->ER cs ws q r e->ER cs ws p r (fun i=>d i+e i)
 | wv {p:Nat} {w:List Int}:w∈ws->ER cs ws p p (vec w)
 | forth {a b:Cd} {d:Vc}:a∈cs->b∈cs->a.c=b.c->ER cs ws a.p b.p d->ER cs ws a.q b.q (fun i=>d i+(vec b.f i-vec a.f i))
 | back {a b:Cd} {d:Vc}:a∈cs->b∈cs->a.c=b.c->ER cs ws a.q b.q d->ER cs ws a.p b.p (fun i=>d i-(vec b.f i-vec a.f i))
section
variable {cs:List Cd} {ws:List (List Int)} {p q x y:Nat} {d e:Vc}
theorem ER.cast(h:ER cs ws p q d)(k:∀i,d i=e i):ER cs ws p q e:=by
 have:d=e:=funext k
 rw [<- this]
 exact h
end
structure Rep(n:Nat)(c0:List Cd)(w0:List (List Int))(r:Nat->Nat)(v:Nat->Vc)(cs:List Cd)(ws:List (List Int)):Prop where
 l0:∀e∈c0,e.f.length=n
 fl:∀e∈cs,e.f.length=n
 wl:∀w∈ws,w.length=n
 cn:∀e∈c0,Rch c0 [0] e.p
 r0:r 0=0
 v0:∀i,v 0 i=0
 rr:∀p,r (r p)=r p
 vr:∀p i,v (r p) i=0
 fwd:∀e∈c0,∃a∈cs,a.p=r e.p/\a.c=e.c/\a.q=r e.q/\Spn ws (fun i=>vec a.f i-(vec e.f i+v e.p i-v e.q i))
 bwd:∀a∈cs,∃e∈c0,a.p=r e.p/\a.c=e.c/\a.q=r e.q/\Spn ws (fun i=>vec a.f i-(vec e.f i+v e.p i-v e.q i))
 sd:∀p,Rch c0 [0] p->ER c0 w0 (r p) p (v p)
 sw:∀w∈ws,ER c0 w0 0 0 (vec w)
 ww:∀w∈w0,Spn ws (vec w)
section
variable {n:Nat} {c0:List Cd} {w0:List (List Int)} {r:Nat->Nat} {v:Nat->Vc} {cs:List Cd} {ws:List (List Int)}
theorem Rep.spn(h:Rep n c0 w0 r v cs ws){d:Vc}(k:Spn ws d):ER c0 w0 0 0 d:=by
 induction k with
 | zero=>exact .refl
 | add _ ha ih =>
  obtain⟨w,hw,rfl⟩:=List.mem_map.mp ha
  exact(ih.trans (h.sw w hw))
 | sub _ ha ih =>
  obtain⟨w,hw,rfl⟩:=List.mem_map.mp ha
  exact(ih.trans (h.sw w hw).sym).cast fun i=>by(try dsimp only);omega
end
end
section
def Repx(n:Nat)(c0:List Cd)(w0:List (List Int))(cs:List Cd)(ws:List (List Int)):Prop :=∃r v,Rep n c0 w0 r v cs ws
def LHair(X:Cd->Prop)(e:Cd):Prop:=e.p≠e.q/\((e.p≠0 /\∀a,X a->a.p=e.p∨a.q=e.p->a=e)∨(e.q≠0 /\∀a,X a->a.p=e.q∨a.q=e.q->a=e))
def Bald(X:Cd->Prop):Prop :=∀e,X e ->¬LHair X e
structure Core(cs X:List Cd):Prop where
 sub:∀e∈X,e∈cs
 bald:Bald (· ∈X)
 most:∀Y:Cd->Prop,(∀e,Y e->e∈cs)->Bald Y ->∀e,Y e->e∈X
end
section
abbrev FcT:=List Nat×List (List Nat)×List (List Int)
def ltrs:List Nat :=[97,65,98,66,99,67,100,68]
def fcS(cs:List Cd)(k s:Nat)(st:FcT):FcT:=match st.1[k]? with
 | none=>st
 | some x=>match nextL cs x s with
  | none=>st
  | some (y,g)=>if y∈st.1 then st else(st.1 ++ [y],st.2.1 ++ [st.2.1.getD k [] ++ [s]],st.2.2 ++ [plusL (st.2.2.getD k []) g])
def fcK(cs:List Cd)(st:FcT)(k:Nat):FcT:=ltrs.foldl (fun st s=>fcS cs k s st) st
def fcN(cs:List Cd)(n m:Nat):FcT:=(List.range m).foldl (fcK cs) ([0],[[]],[zeroL n])
def fcL(cs:List Cd)(n:Nat):FcT:=fcN cs n (cs.length+1)
end
section
section
variable {α:Type}
def lk:List (Nat×α)->Nat->Option α
 | [],_=>none
 | p::l,i=>if p.1=i then some p.2 else lk l i
variable {β:Type}
end
end
section
def lpD(lp:List Nat×List Int):PyData := .tuple [.str (tx lp.1),pd lp.2]
structure YardOf(n:Nat)(c0:List Cd)(w0:List (List Int))(N:Nat)(cs:List Cd)(F:List (List Int)):Prop where
 ex:∃cs1 ws1 ds,Repx n c0 w0 cs1 ws1/\NoCl cs1/\Core cs1 ds/\NoCl ds/\(∀e∈ds,Rch ds [0] e.p)/\(∀e∈cs1,Lo e.c)/\(∃B,∀e∈ds,∀i,(vec e.f i).natAbs<=B)/\(∃Z,FmL n n Z F)/\(∀v,Spn F v↔Spn ws1 v) /\
  N=(fcL ds n).1.length/\cs=sortC (ds.map (renum (fcL ds n).1 (fcL ds n).2.2 F))
end
section
inductive Stp(cs:List Cd):Nat->Nat->Nat->Vc->Prop
 | forth {e:Cd}:e∈cs->Stp cs e.p e.c e.q (vec e.f)
 | back {e:Cd}:e∈cs->Stp cs e.q (Cf.inv e.c) e.p (fun i => -vec e.f i)
inductive Pth(cs:List Cd):Nat->List Nat->Nat->Vc->Prop
 | nil {p:Nat}:Pth cs p [] p (fun _=>0)
 | cons {p s q r:Nat} {l:List Nat} {d e:Vc}:Stp cs p s q d->Pth cs q l r e->Pth cs p (s::l) r (fun i=>d i+e i)
section
variable {cs ds:List Cd} {p q r s x y:Nat} {l m:List Nat} {d e:Vc}
theorem Stp.cast(h:Stp cs p s q d)(k:∀i,d i=e i):Stp cs p s q e:=by
 have:d=e:=funext k
 rw [<- this]
 exact h
theorem Pth.cast(h:Pth cs p l q d)(k:∀i,d i=e i):Pth cs p l q e:=by
 have:d=e:=funext k
 rw [<- this]
 exact h
theorem Pth.one(h:Stp cs p s q d):Pth cs p [s] q d:=(Pth.cons h .nil).cast fun i=>by(try dsimp only);omega
theorem Pth.app(h:Pth cs p l q d)(k:Pth cs q m r e):Pth cs p (l++m) r (fun i=>d i+e i):=by
 induction h with
 | nil=>exact k.cast fun i=>by(try dsimp only);omega
 | cons s _ ih=>exact(Pth.cons s (ih k)).cast fun i=>by(try dsimp only);omega
theorem lo_lt{c:Nat}(h:Lo c):Lt c:=by
 have:∀c ∈ [97,98,99,100],Lt c:=by decide
 exact this c h
theorem Stp.lt(lc:∀e∈cs,Lo e.c)(h:Stp cs p s q d):Lt s:=by
 cases h with
 | forth m=>exact lo_lt (lc _ m)
 | back m=>exact inv_lt (lo_lt (lc _ m))
theorem Pth.lts(lc:∀e∈cs,Lo e.c)(h:Pth cs p l q d):Lts l:=by
 induction h with
 | nil=>exact nil_lts
 | cons s _ ih =>
  intro c hc
  rcases List.mem_cons.mp hc with rfl | hc
  ·exact s.lt lc
  ·exact ih c hc
theorem Stp.turn(lc:∀e∈cs,Lo e.c)(h:Stp cs p s q d):Stp cs q (Cf.inv s) p (fun i => -d i):=by
 cases h with
 | forth m=>exact .back m
 | back m =>
  rw [inv_inv (lo_lt (lc _ m))]
  exact(Stp.forth m).cast fun i=>by(try dsimp only);omega
theorem Pth.turn(lc:∀e∈cs,Lo e.c)(h:Pth cs p l q d):Pth cs q (Cf.binv l) p (fun i => -d i):=by
 induction h with
 | nil=>exact Pth.nil.cast fun i=>by(try dsimp only);omega
 | @cons p s q r l d e st _ ih =>
  rw [show Cf.binv (s::l)=Cf.binv l ++ [Cf.inv s]from binv_app [s] l]
  exact(ih.app (Pth.one (st.turn lc))).cast fun i=>by(try dsimp only);omega
end
end
section
structure TreeW(cs:List Cd)(t:Nat->List Nat):Prop where
 t0:t 0 = []
 up:∀x,Rch cs [0] x->x≠0 ->∃z s d,Stp cs z s x d/\t x=t z ++ [s]/\Rch cs [0] z
section
variable {cs:List Cd} {t:Nat->List Nat} (T:TreeW cs t) (lc:∀e∈cs,Lo e.c) (nc:NoCl cs)
include T
include lc nc
end
section
variable {cs:List Cd} {t:Nat->List Nat} (T:TreeW cs t) (lc:∀e∈cs,Lo e.c) (nc:NoCl cs) (cn:∀e∈cs,Rch cs [0] e.p)
include T lc nc cn
end
end
section
def Alike(W:Vc->Prop)(cs ds:List Cd):Prop :=∀l d,Red l->Pth cs 0 l 0 d ->∃e,Pth ds 0 l 0 e/\W (fun i=>e i-d i)
section
variable {W:Vc->Prop} {A B:List Cd} (w0:W (fun _=>0)) (la:∀e∈A,Lo e.c) (lb:∀e∈B,Lo e.c) (na:NoCl A) (nb:NoCl B) (ba:Bald (· ∈A)) (ca:∀e∈A,Rch A [0] e.p) (al:Alike W A B)
include w0 la lb na nb ba ca al
end
end
section
def Lng(c0:List Cd)(w0:List (List Int))(l:List Nat)(d:Vc):Prop :=∃l' d',Pth c0 0 l' 0 d'/\red l'=red l/\Spn w0 (fun i=>d i-d' i)
theorem red_app2{a b c d:List Nat}(ha:Lts a)(hb:Lts b)(hc:Lts c)(hd:Lts d)(h1:red a=red c)(h2:red b=red d):red (a++b)=red (c++d):=by
 rw [<- red_two ha hb,h1,h2,red_two hc hd]
section
variable {c0:List Cd} {w0:List (List Int)} (lc:∀e∈c0,Lo e.c)
include lc
theorem ER.lift{p q:Nat}{d:Vc}(h:ER c0 w0 p q d):∃l d',Pth c0 p l q d'/\red l = []/\Spn w0 (fun i=>d i-d' i):=by
 induction h with
 | refl=>exact⟨[],_,.nil,rfl,Sp.zero.cast fun i=>by(try dsimp only);omega⟩
 | sym _ ih =>
  obtain⟨l,d',h1,h2,h3⟩:=ih
  refine⟨Cf.binv l,_,h1.turn lc,by rw [red_binv (h1.lts lc),h2];rfl,(Sp.zero.minus h3).cast fun i=>by(try dsimp only);omega⟩
 | trans _ _ i1 i2 =>
  obtain⟨l,d1,h1,h2,h3⟩:=i1
  obtain⟨m,d2,k1,k2,k3⟩:=i2
  refine⟨l++m,_,h1.app k1, ?_,(h3.plus k3).cast fun i=>by(try dsimp only);omega⟩
  rw [<- red_two (h1.lts lc) (k1.lts lc),h2,k2]
  rfl
 | wv hw=>exact⟨[],_,.nil,rfl,(spn_of hw).cast fun i=>by(try dsimp only);omega⟩
 | @forth a b d ha hb hc _ ih =>
  obtain⟨l,d',h1,h2,h3⟩:=ih
  have s1:Stp c0 a.q (Cf.inv a.c) a.p _ := .back ha
  have s2:Stp c0 b.p a.c b.q (vec b.f):=by rw [hc];exact .forth hb
  refine⟨[Cf.inv a.c]++l ++ [a.c],_,((Pth.one s1).app h1).app (.one s2), ?_,h3.cast fun i=>by(try dsimp only);omega⟩
  have la:Lts [a.c]:=fun c h=>by rw [List.mem_singleton.mp h];exact lo_lt (lc a ha)
  have e:=red_mid (a :=[Cf.inv a.c]) (b:=l) (c :=[]) (d :=[a.c]) la.binv (h1.lts lc) nil_lts la h2
  rw [e]
  exact red_back' la
 | @back a b d ha hb hc _ ih =>
  obtain⟨l,d',h1,h2,h3⟩:=ih
  have s1:Stp c0 a.p a.c a.q _ := .forth ha
  have s2:Stp c0 b.q (Cf.inv a.c) b.p (fun i => -vec b.f i):=by rw [hc];exact .back hb
  refine⟨[a.c]++l ++ [Cf.inv a.c],_,((Pth.one s1).app h1).app (.one s2), ?_,h3.cast fun i=>by(try dsimp only);omega⟩
  have la:Lts [a.c]:=fun c h=>by rw [List.mem_singleton.mp h];exact lo_lt (lc a ha)
  have e:=red_mid (a :=[a.c]) (b:=l) (c :=[]) (d :=[Cf.inv a.c]) la (h1.lts lc) nil_lts la.binv h2
  rw [e]
  exact red_back la
end
section
variable {cs:List Cd} (lc:∀e∈cs,Lo e.c)
include lc
end
end
section
structure Grp(G:List Nat->Vc->Prop):Prop where
 one:G [] (fun _=>0)
 mul:∀{l m:List Nat} {d e:Vc},Lts l->Lts m->G l d->G m e->G (l++m) (fun i=>d i+e i)
 back:∀{l:List Nat} {d:Vc},Lts l->G l d->G (Cf.binv l) (fun i => -d i)
 und2:∀{l m:List Nat} {d:Vc},Lts l->Lts m->red l=red m->G l d->G m d
theorem gcast{G:List Nat->Vc->Prop}{l:List Nat}{d e:Vc}(h:G l d)(k:∀i,d i=e i):G l e:=by
 have:d=e:=funext k
 rw [<- this]
 exact h
theorem Lng.grp{c0:List Cd}{w0:List (List Int)}(lc:∀e∈c0,Lo e.c):Grp (Lng c0 w0):=by
 refine⟨⟨[],_,.nil,rfl,Sp.zero.cast fun i=>by(try dsimp only);omega⟩,fun hl hm h k => ?_,fun hl h => ?_,fun hl hm e h => ?_⟩
 ·obtain⟨l',d',h1,h2,h3⟩:=h
  obtain⟨m',e',k1,k2,k3⟩:=k
  exact⟨l'++m',_,h1.app k1,red_app2 (h1.lts lc) (k1.lts lc) hl hm h2 k2,(h3.plus k3).cast fun i=>by(try dsimp only);omega⟩
 ·obtain⟨l',d',h1,h2,h3⟩:=h
  exact⟨Cf.binv l',_,h1.turn lc,by rw [red_binv (h1.lts lc),h2,red_binv hl],(Sp.zero.minus h3).cast fun i=>by(try dsimp only);omega⟩
 ·obtain⟨l',d',h1,h2,h3⟩:=h
  exact⟨l',d',h1,h2.trans e,h3⟩
theorem Grp.und{G:List Nat->Vc->Prop}(g:Grp G){l:List Nat}(h:Lts l)(k:red l = []){d:Vc}(z:∀i,d i=0):G l d:=gcast (g.und2 nil_lts h k.symm g.one) fun i=>(z i).symm
theorem Grp.spn{G:List Nat->Vc->Prop}(g:Grp G){ws:List (List Int)}(h:∀w∈ws,G [] (vec w)){d:Vc}(k:Spn ws d):G [] d:=by
 induction k with
 | zero=>exact g.one
 | add _ ha ih =>
  obtain⟨w,hw,rfl⟩:=List.mem_map.mp ha
  exact g.mul nil_lts nil_lts ih (h w hw)
 | sub _ ha ih =>
  obtain⟨w,hw,rfl⟩:=List.mem_map.mp ha
  exact gcast (g.mul nil_lts nil_lts ih (g.back nil_lts (h w hw))) fun i=>by(try dsimp only);omega
theorem mkc_lt{c:Nat}(h:Lt c):(97<=c/\Lo c)∨(¬97<=c/\Lo (Cf.inv c)):=by
 have:∀c ∈ [97,98,99,100,65,66,67,68],(97<=c/\c ∈ [97,98,99,100])∨(¬97<=c/\Cf.inv c ∈ [97,98,99,100]):=by decide
 exact this c h
theorem mkc_stp{cs:List Cd}{a c b:Nat}{f:List Int}(hc:Lt c)(h:mkc a c b f∈cs):Stp cs a c b (vec f):=by
 unfold mkc at h
 rcases mkc_lt hc with ⟨z,_⟩ | ⟨z,_⟩
 ·rw [if_pos z]at h
  exact .forth h
 ·rw [if_neg z]at h
  have:=Stp.back h
  dsimp only at this
  rw [inv_inv hc]at this
  exact this.cast fun i=>by rw [vec_of];(try dsimp only);omega
theorem mkc_lo'{a c b:Nat}{f:List Int}(hc:Lt c):Lo (mkc a c b f).c:=by
 unfold mkc
 rcases mkc_lt hc with ⟨z,h⟩ | ⟨z,h⟩
 ·rw [if_pos z];exact h
 ·rw [if_neg z];exact h
theorem pets_lo(n:Nat):∀(l:List Nat) (f:List Int) (a g:Nat),Lts l ->∀e∈pets n l f a g,Lo e.c
 | [],_,_,_,_,_,h=>by cases h
 | [c],f,a,g,hl,e,h=>by
  rw [List.mem_singleton.mp h]
  exact mkc_lo' (hl c (.head _))
 | c::d::r,f,a,g,hl,e,h=>by
  rcases List.mem_cons.mp (show e∈mkc a c g f::pets n (d::r) (zeroL n) g (g+1)from h)with rfl | h
  ·exact mkc_lo' (hl c (.head _))
  ·exact pets_lo n (d::r) _ _ _ (fun x hx=>hl x (.tail _ hx)) e h
theorem flw_lo(n:Nat):∀(ls:Lps) (g:Nat),(∀lp∈ls,Lts lp.1) ->∀e∈flwC n ls g,Lo e.c
 | [],_,_,_,h=>by cases h
 | (l,f)::r,g,hl,e,h=>by
  rcases List.mem_append.mp (show e∈pets n l f 0 g++flwC n r (g+(l.length-1))from h)with h | h
  ·exact pets_lo n l f 0 g (hl _ (.head _)) e h
  ·exact flw_lo n r _ (fun lp hlp=>hl lp (.tail _ hlp)) e h
theorem pets_pth{n:Nat}{cs:List Cd}:∀(l:List Nat) (f:List Int) (a g:Nat),l ≠ []->Lts l->(∀e∈pets n l f a g,e∈cs)->Pth cs a l 0 (vec f)
 | [],_,_,_,h,_,_=>absurd rfl h
 | [c],f,a,g,_,hl,hs => .one (mkc_stp (hl c (.head _)) (hs _ (.head _)))
 | c::d::r,f,a,g,_,hl,hs=>by
  have h1:=mkc_stp (hl c (.head _)) (hs _ (.head _))
  have h2:=pets_pth (d::r) (zeroL n) g (g+1) (by simp) (fun x hx=>hl x (.tail _ hx)) fun e he=>hs e (.tail _ he)
  exact(Pth.cons h1 h2).cast fun i=>by rw [vec_zero];(try dsimp only);omega
theorem flw_sub(n:Nat){lp:List Nat×List Int}:∀(ls:Lps) (g:Nat),lp∈ls->(∃g',∀e∈pets n lp.1 lp.2 0 g',e∈flwC n ls g)/\(lp.1 = []->lp.2∈flwW ls)
 | (l,f)::r,g,h=>by
  rcases List.mem_cons.mp h with rfl | h
  ·refine⟨⟨g,fun e he=>List.mem_append_left _ he⟩,fun z => ?_⟩
   have z:l = []:=z
   unfold flwW
   rw [if_pos z]
   exact List.mem_append_left _ (by simp)
  ·obtain⟨⟨g',h1⟩,h2⟩:=flw_sub n r (g+(l.length-1)) h
   exact⟨⟨g',fun e he=>List.mem_append_right _ (h1 e he)⟩,fun z=>List.mem_append_right _ (h2 z)⟩
theorem flw_gen{n:Nat}{ls:Lps}{lp:List Nat×List Int}(h:lp∈ls)(hl:Lts lp.1):Lng (flwC n ls 1) (flwW ls) lp.1 (vec lp.2):=by
 obtain⟨⟨g,h1⟩,h2⟩:=flw_sub n ls 1 h
 by_cases z:lp.1 = []
 ·rw [z]
  exact⟨[],_,.nil,rfl,(spn_of (h2 z)).cast fun i=>by(try dsimp only);omega⟩
 ·exact⟨lp.1,_,pets_pth lp.1 lp.2 0 g z hl h1,rfl,Sp.zero.cast fun i=>by(try dsimp only);omega⟩
theorem pets_lt(n:Nat):∀(l:List Nat) (f:List Int) (a g:Nat),a<g ->∀e∈pets n l f a g,e.p<g+(l.length-1)/\e.q<g+(l.length-1)
 | [],_,_,_,_,_,h=>by cases h
 | [c],f,a,g,ha,e,h=>by
  rw [List.mem_singleton.mp h]
  unfold mkc
  split
  ·exact⟨by show a<_;simp;omega,by show 0<_;simp;omega⟩
  ·exact⟨by show 0<_;simp;omega,by show a<_;simp;omega⟩
 | c::d::r,f,a,g,ha,e,h=>by
  have hl:(c::d::r).length-1=(d::r).length-1+1:=by simp
  rcases List.mem_cons.mp (show e∈mkc a c g f::pets n (d::r) (zeroL n) g (g+1)from h)with rfl | h
  ·unfold mkc
   split
   ·exact⟨by show a<_;omega,by show g<_;omega⟩
   ·exact⟨by show g<_;omega,by show a<_;omega⟩
  ·have:=pets_lt n (d::r) (zeroL n) g (g+1) (by omega) e h
   omega
def Pot(G:List Nat->Vc->Prop)(τ:Nat->List Nat)(κ:Nat->Vc)(e:Cd):Prop:=G (τ e.p++([e.c]++Cf.binv (τ e.q))) (fun i=>κ e.p i+vec e.f i-κ e.q i)
theorem Pot.same{G:List Nat->Vc->Prop}{τ τ':Nat->List Nat}{κ κ':Nat->Vc}{e:Cd}(h:Pot G τ κ e)(h1:τ' e.p=τ e.p)(h2:τ' e.q=τ e.q)(h3:κ' e.p=κ e.p)(h4:κ' e.q=κ e.q):Pot G τ' κ' e:=by
 unfold Pot
 rw [h1,h2,h3,h4]
 exact h
section
variable {G:List Nat->Vc->Prop} (gr:Grp G)
include gr
theorem mkc_pot{τ:Nat->List Nat}{κ:Nat->Vc}{a c b:Nat}{f:List Int}(hc:Lt c)(ha:Lts (τ a))(hb:Lts (τ b))(h:G (τ a++([c]++Cf.binv (τ b))) (fun i=>κ a i+vec f i-κ b i)):Pot G τ κ (mkc a c b f):=by
 have l1:Lts [c]:=fun x hx=>by rw [List.mem_singleton.mp hx];exact hc
 unfold mkc
 split
 ·exact h
 ·have:=gr.back (ha.app (l1.app hb.binv)) h
  rw [binv_app,binv_app,binv_binv hb,List.append_assoc]at this
  exact gcast this fun i=>by(try dsimp only);rw [vec_of];omega
theorem pet_pot(n:Nat):∀(l:List Nat) (f:List Int) (a g:Nat) (τ0:Nat->List Nat) (κ0:Nat->Vc),a<g->(∀x,Lts (τ0 x))->τ0 0 = []->(∀i,κ0 0 i=0)->Lts l->G (τ0 a++l) (fun i=>κ0 a i+vec f i) ->
  ∃τ κ,(∀x,x<g->τ x=τ0 x/\κ x=κ0 x)/\(∀x,Lts (τ x)) /\∀e∈pets n l f a g,Pot G τ κ e
 | [],_,_,_,τ0,κ0,_,h1,_,_,_,_=>⟨τ0,κ0,fun _ _=>⟨rfl,rfl⟩,h1,fun _ h=>by cases h⟩
 | [c],f,a,g,τ0,κ0,ha,h1,h2,h3,hl,h4=>⟨τ0,κ0,fun _ _=>⟨rfl,rfl⟩,h1,fun e h=>by
  rw [List.mem_singleton.mp h]
  refine mkc_pot gr (hl c (.head _)) (h1 a) (h1 0) ?_
  rw [h2]
  exact gcast h4 fun i=>by rw [h3];omega⟩
 | c::d::r,f,a,g,τ0,κ0,ha,h1,h2,h3,hl,h4=>by
  have hc:=hl c (.head _)
  have l1:Lts [c]:=fun x hx=>by rw [List.mem_singleton.mp hx];exact hc
  have lr:Lts (d::r):=fun x hx=>hl x (.tail _ hx)
  let τ1:Nat->List Nat:=fun x=>if x=g then τ0 a ++ [c]else τ0 x
  let κ1:Nat->Vc:=fun x=>if x=g then fun i=>κ0 a i+vec f i else κ0 x
  have t1:τ1 g=τ0 a ++ [c]:=if_pos rfl
  have k1:κ1 g=fun i=>κ0 a i+vec f i:=if_pos rfl
  have tl:∀x,x<g->τ1 x=τ0 x/\κ1 x=κ0 x:=fun x hx=>⟨if_neg (by omega),if_neg (by omega)⟩
  obtain⟨τ,κ,p1,p2,p3⟩:=pet_pot n (d::r) (zeroL n) g (g+1) τ1 κ1 (by omega) (fun x=>by
   by_cases z:x=g
   ·subst z
    rw [t1]
    exact(h1 a).app l1
   ·rw [show τ1 x=τ0 x from if_neg z]
    exact h1 x) (by rw [(tl 0 (by omega)).1];exact h2) (by rw [(tl 0 (by omega)).2];exact h3) lr (by
   rw [t1,k1,List.append_assoc]
   exact gcast h4 fun i=>by rw [vec_zero];(try dsimp only);omega)
  refine⟨τ,κ,fun x hx => ?_,p2,fun e h => ?_⟩
  ·have:=p1 x (by omega)
   rw [this.1,this.2]
   exact tl x hx
  ·rcases List.mem_cons.mp (show e∈mkc a c g f::pets n (d::r) (zeroL n) g (g+1)from h)with rfl | h
   ·refine mkc_pot gr hc (p2 a) (p2 g) ?_
    rw [(p1 a (by omega)).1,(p1 g (by omega)).1,(p1 a (by omega)).2,(p1 g (by omega)).2,(tl a ha).1,(tl a ha).2,t1,k1,<- List.append_assoc]
    exact gr.und (((h1 a).app l1).app ((h1 a).app l1).binv) (red_back ((h1 a).app l1)) fun i=>by(try dsimp only);omega
   ·exact p3 e h
theorem flw_pot(n:Nat):∀(ls:Lps) (g:Nat) (τ0:Nat->List Nat) (κ0:Nat->Vc),0<g->(∀x,Lts (τ0 x))->τ0 0 = []->(∀i,κ0 0 i=0)->(∀lp∈ls,Lts lp.1/\G lp.1 (vec lp.2)) ->
  ∃τ κ,(∀x,x<g->τ x=τ0 x/\κ x=κ0 x)/\(∀x,Lts (τ x)) /\∀e∈flwC n ls g,Pot G τ κ e
 | [],_,τ0,κ0,_,h1,_,_,_=>⟨τ0,κ0,fun _ _=>⟨rfl,rfl⟩,h1,fun _ h=>by cases h⟩
 | (l,f)::r,g,τ0,κ0,hg,h1,h2,h3,h4=>by
  obtain⟨hl,hG⟩:=h4 _ (.head _)
  obtain⟨τ1,κ1,p1,p2,p3⟩:=pet_pot gr n l f 0 g τ0 κ0 hg h1 h2 h3 hl (by rw [h2];exact gcast hG fun i=>by rw [h3];(try dsimp only);omega)
  have z:=p1 0 hg
  obtain⟨τ,κ,q1,q2,q3⟩:=flw_pot n r (g+(l.length-1)) τ1 κ1 (by omega) p2 (by rw [z.1,h2]) (by rw [z.2];exact h3) fun lp hlp=>h4 lp (.tail _ hlp)
  refine⟨τ,κ,fun x hx => ?_,q2,fun e h => ?_⟩
  ·have:=q1 x (by omega)
   rw [this.1,this.2]
   exact p1 x hx
  ·rcases List.mem_append.mp (show e∈pets n l f 0 g++flwC n r (g+(l.length-1))from h)with h | h
   ·have b:=pets_lt n l f 0 g hg e h
    exact(p3 e h).same (q1 _ b.1).1 (q1 _ b.2).1 (q1 _ b.1).2 (q1 _ b.2).2
   ·exact q3 e h
theorem pot_path{c0:List Cd}{τ:Nat->List Nat}{κ:Nat->Vc}(lc:∀e∈c0,Lo e.c)(hτ:∀x,Lts (τ x))(h:∀e∈c0,Pot G τ κ e){x y:Nat}{l:List Nat}{d:Vc}(p:Pth c0 x l y d):G (τ x++(l++Cf.binv (τ y))) (fun i=>κ x i+d i-κ y i):=by
 induction p with
 | @nil x=>exact gr.und ((hτ x).app (hτ x).binv) (red_back (hτ x)) fun i=>by(try dsimp only);omega
 | @cons x s q y l d e st pl ih =>
  have hs:Lts [s]:=fun c hc=>by rw [List.mem_singleton.mp hc];exact st.lt lc
  have hl:=pl.lts lc
  have one:G (τ x++([s]++Cf.binv (τ q))) (fun i=>κ x i+d i-κ q i):=by
   cases st with
   | forth m=>exact h _ m
   | @back a m =>
    have la:Lts [a.c]:=fun c hc=>by rw [List.mem_singleton.mp hc];exact lo_lt (lc a m)
    have:=gr.back ((hτ _).app (la.app (hτ _).binv)) (h a m)
    rw [binv_app,binv_app,binv_binv (hτ _),List.append_assoc]at this
    exact gcast this fun i=>by(try dsimp only);omega
  have two:=gr.mul ((hτ x).app (hs.app (hτ q).binv)) ((hτ q).app (hl.app (hτ y).binv)) one ih
  refine gcast (gr.und2 (((hτ x).app (hs.app (hτ q).binv)).app ((hτ q).app (hl.app (hτ y).binv))) ((hτ x).app ((show Lts (s::l)from hs.app hl).app (hτ y).binv)) ?_ two) fun i=>by(try dsimp only);omega
  have e1:=red_cancel' (a:=τ x ++ [s]) (b:=l++Cf.binv (τ y)) (x:=τ q) ((hτ x).app hs) (hl.app (hτ y).binv) (hτ q)
  have e2:τ x++([s]++Cf.binv (τ q))++(τ q++(l++Cf.binv (τ y)))=τ x ++ [s]++(Cf.binv (τ q)++τ q)++(l++Cf.binv (τ y)):=by simp only [List.append_assoc]
  have e3:τ x++(s::l++Cf.binv (τ y))=τ x ++ [s]++(l++Cf.binv (τ y)):=by simp
  rw [e2,e1,e3]
theorem flw_min{n:Nat}{ls:Lps}(h:∀lp∈ls,Lts lp.1/\G lp.1 (vec lp.2)){l:List Nat}{d:Vc}(hl:Lts l)(k:Lng (flwC n ls 1) (flwW ls) l d):G l d:=by
 have lc:=flw_lo n ls 1 fun lp hlp=>(h lp hlp).1
 obtain⟨l',d',h1,h2,h3⟩:=k
 obtain⟨τ,κ,p1,p2,p3⟩:=flw_pot gr n ls 1 (fun _ =>[]) (fun _ _=>0) (by decide) (fun _=>nil_lts) rfl (fun _=>rfl) h
 have h4:=pot_path gr lc p2 p3 h1
 obtain⟨z1,z2⟩:=p1 0 (by decide)
 rw [z1,z2]at h4
 have h5:G l' d':=by
  rw [show ([]:List Nat)++(l'++Cf.binv [])=l' from List.append_nil l']at h4
  exact gcast h4 fun i=>by(try dsimp only);omega
 have h6:=gr.und2 (h1.lts lc) hl h2 h5
 have h7:=gr.spn (fun w hw=>by
  clear h1 h2 h3 p3 h4
  induction ls with
  | nil=>cases hw
  | cons a r ih =>
   obtain⟨l,f⟩:=a
   unfold flwW at hw
   rcases List.mem_append.mp hw with z | z
   ·split at z
    ·rename_i e
     have:=(h _ (.head _)).2
     rw [e]at this
     rw [List.mem_singleton.mp z]
     exact this
    ·cases z
   ·exact ih (fun lp hlp=>h lp (.tail _ hlp)) (flw_lo n r 1 fun lp hlp=>(h lp (.tail _ hlp)).1) z) h3
 exact gcast (gr.mul nil_lts hl h7 h6) fun i=>by(try dsimp only);omega
end
end
section
abbrev FsT:=List (List Nat)×List (Nat×Nat)
def fsC(k s y:Nat):Nat×Nat:=if 97<=s then(k,s)else(y,Cf.inv s)
def fsS(cs:List Cd)(k s:Nat)(st:FsT):FsT:=match nextL cs k s with
 | some (y,_)=>if y=st.1.length then(st.1 ++ [st.1.getD k [] ++ [s]],st.2 ++ [fsC k s y])else st
 | none=>st
def fsK(cs:List Cd)(st:FsT)(k:Nat):FsT:=ltrs.foldl (fun st s=>fsS cs k s st) st
def fsN(cs:List Cd)(m:Nat):FsT:=(List.range m).foldl (fsK cs) ([[]],[])
section
variable {cs:List Cd} {n N B:Nat} (hc:∀e∈cs,e.f.length=n /\∀i,(vec e.f i).natAbs<=B) (hR:(fcL cs n).1=List.range N)
include hc hR
end
end
section
def lcL2(g:AG)(tt:AT)(ti1:AI)(g1:AG)(tt1:AT)(te:AD)(vs vs1:List Nat)(K:List PyData->List Sl->Prop):List PyData->List PyData->List Sl->Prop
 | [],acc,env=>K acc env
 | d::ds,acc,env=>g d (wipeE env vs) fun e2=>tt e2 fun b e3=>(b=true->ti1 e3 fun ds1 e4=>lcL g1 tt1 te vs1 (fun acc e5=>lcL2 g tt ti1 g1 tt1 te vs vs1 K ds acc e5) ds1 acc e4)/\(b=false->lcL2 g tt ti1 g1 tt1 te vs vs1 K ds acc e3)
theorem lcL2_ind{α:Type}{g:AG}{tt:AT}{ti1:AI}{g1:AG}{tt1:AT}{te:AD}{vs vs1:List Nat}{K:List PyData->List Sl->Prop}(emb:α->PyData)(f:α->List PyData)(I:List Sl->Prop)(B:Nat)(xs:List α)(hB:xs.length*B<=sizeLine)
  (step:∀a∈xs,∀(acc:List PyData) (env:List Sl) (Q:List PyData->List Sl->Prop),I env->acc.length+B<=sizeLine->(∀e,I e->Q (acc++f a) e)->g (emb a) (wipeE env vs) fun e2=>tt e2 fun b e3=>(b=true->ti1 e3 fun ds1 e4=>lcL g1 tt1 te vs1 Q ds1 acc e4)/\(b=false->Q acc e3))
  (hf:∀a∈xs,(f a).length<=B) (fin:∀env,I env->K (xs.map f).flatten env) {env0:List Sl} (h0:I env0):lcL2 g tt ti1 g1 tt1 te vs vs1 K (xs.map emb) [] env0:=by
 have:∀(r d:List α) (acc:List PyData) (env:List Sl),xs=d++r->acc=(d.map f).flatten->acc.length<=d.length*B->I env->lcL2 g tt ti1 g1 tt1 te vs vs1 K (r.map emb) acc env:=by
  intro r
  induction r with
  | nil =>
   rintro d acc env e rfl _ hI
   rw [List.append_nil]at e
   subst e
   exact fin env hI
  | cons a r ih =>
   rintro d acc env e rfl hl hI
   have ha:a∈xs:=by rw [e];simp
   have e2:xs.length=d.length+1+r.length:=by rw [e,List.length_append,List.length_cons];omega
   have e3:(d.length+1)*B<=xs.length*B:=Nat.mul_le_mul_right _ (by omega)
   rw [Nat.add_mul,Nat.one_mul]at e3
   have hh:=step a ha (d.map f).flatten env (fun acc e=>lcL2 g tt ti1 g1 tt1 te vs vs1 K (r.map emb) acc e) hI (by omega) (fun e5 h5=>ih (d ++ [a]) _ e5 (by rw [e];simp) (by simp) (by
    have:=hf a ha
    clear e2
    rw [List.length_append,List.length_append,List.length_singleton,Nat.add_mul,Nat.one_mul]
    omega) h5)
   exact hh
 exact this xs [] [] env0 rfl rfl (by simp) h0
end
section
def nghL:List Cd->Nat->List Nat
 | [],_ =>[]
 | e::cs,x=>((if e.p=x then [e.q]else [])++(if e.q=x then [e.p]else []))++nghL cs x
end
section
abbrev wBack:Str:=Str.ofString "back"
abbrev wBoth:Str:=Str.ofString "both"
structure Rr where
 w:Str
 ks:List Nat
 l:List Nat
 p:List Int
theorem atI_map{α β:Type}{f:α->β}{xs:List α}{k:Nat}{x:α}(h:xs[k]? =some x):atI (xs.map f) (k:Int)=some (f x):=by
 obtain⟨hk,e⟩:=List.getElem?_eq_some_iff.mp h
 rw [atI_nat (by rw [List.length_map];exact hk),List.getElem_map,e]
end
section
section
variable {P:Program} {w:World} {A:Around} {E:Value->Shared->Prop} {s:Shared}
variable {a:Addr} {L:List (Addr×List Key)} {es:Array (Int×Value)} {ep:Nat} {t:SetTable}
abbrev gone(t:SetTable)(k:Int)(c:Nat):SetTable.Probe:=nth t.mask (runAt t.mask (SetTable.bits k % (t.mask+1)) (SetTable.bits k)) c
end
end
section
abbrev AK:=List Sl->(List (List Key)->List Sl->Prop)->Prop
end
section
section
variable {cs:List Cd} {n N B:Nat} {F:List (List Int)}
def leftC(cs:List Cd)(N:Nat):List Cd:=cs.filter fun e => !((fsN cs N).2.any fun t=>decide (t=(e.p,e.c)))
end
end
section
theorem lcL_eg{α:Type}{g:AG}{tt:AT}{te:AD}{vs:List Nat}{K:List PyData->List Sl->Prop}(emb f:α->PyData)(p:α->Bool)(J:List Sl->Prop)(ys:List α)(hl:ys.length<=sizeLine)
  (step:∀a∈ys,∀env,J env ->∀(Kt:PyData->List Sl->Prop) (Kf:List Sl->Prop),(p a=true ->∀e,J e->Kt (f a) e)->(p a=false ->∀e,J e->Kf e)->g (emb a) (wipeE env vs) fun e2=>tt e2 fun b e3=>(b=true->te e3 Kt)/\(b=false->Kf e3)) :
  ∀(xs:List α) (acc:List PyData) (env:List Sl),(∃zs,ys=zs++xs)->acc.length+xs.length<=ys.length->J env->(∀e,J e->K (acc++(xs.filter p).map f) e)->lcL g tt te vs K (xs.map emb) acc env
 | [],acc,env,_,_,j,fin=>by
  have:=fin env j
  rw [List.filter_nil,List.map_nil,List.append_nil]at this
  exact this
 | a::xs,acc,env,⟨zs,hz⟩,hn,j,fin=>by
  rw [List.length_cons]at hn
  refine step a (by rw [hz];simp) env j (fun y e4=>acc.length<sizeLine/\lcL g tt te vs K (xs.map emb) (acc ++ [y]) e4) (fun e3=>lcL g tt te vs K (xs.map emb) acc e3) (fun hp e je=>⟨by omega,lcL_eg emb f p J ys hl step xs _ e ⟨zs ++ [a],by rw [hz];simp⟩ (by rw [List.length_append,List.length_singleton];omega) je fun e' je' => ?_⟩) fun hp e je=>lcL_eg emb f p J ys hl step xs acc e ⟨zs ++ [a],by rw [hz];simp⟩ (by omega) je fun e' je' => ?_
  ·have:=fin e' je'
   rw [List.filter_cons,if_pos hp,List.map_cons]at this
   rw [List.append_assoc]
   exact this
  ·have:=fin e' je'
   rw [List.filter_cons,if_neg (by rw [hp];decide)]at this
   exact this
theorem lcL_e{α:Type}{g:AG}{tt:AT}{te:AD}{vs:List Nat}{K:List PyData->List Sl->Prop}{env:List Sl}(emb f:α->PyData)(p:α->Bool)(xs:List α)(J:List Sl->Prop)(hl:xs.length<=sizeLine)
  (step:∀a∈xs,∀env,J env ->∀(Kt:PyData->List Sl->Prop) (Kf:List Sl->Prop),(p a=true ->∀e,J e->Kt (f a) e)->(p a=false ->∀e,J e->Kf e)->g (emb a) (wipeE env vs) fun e2=>tt e2 fun b e3=>(b=true->te e3 Kt)/\(b=false->Kf e3))
  (fin:∀e,J e->K ((xs.filter p).map f) e) (j:J env):lcL g tt te vs K (xs.map emb) [] env:=lcL_eg emb f p J xs hl step xs [] env ⟨[],rfl⟩ (by simp) j fin
theorem lcL_em{α:Type}{g:AG}{tt:AT}{te:AD}{vs:List Nat}{K:List PyData->List Sl->Prop}{env:List Sl}(emb f:α->PyData)(xs:List α)(J:List Sl->Prop)(hl:xs.length<=sizeLine)
  (step:∀a∈xs,∀env,J env ->∀(Kt:PyData->List Sl->Prop) (Kf:List Sl->Prop),(∀e,J e->Kt (f a) e)->g (emb a) (wipeE env vs) fun e2=>tt e2 fun b e3=>(b=true->te e3 Kt)/\(b=false->Kf e3))
  (fin:∀e,J e->K (xs.map f) e) (j:J env):lcL g tt te vs K (xs.map emb) [] env:=lcL_e emb f (fun _=>true) xs J hl (fun a ha env j Kt Kf h1 _=>step a ha env j Kt Kf (h1 rfl)) (by rw [filter_yes];exact fin) j
end
section
def pkX(i:Nat)(t:AD)(env:List Sl)(P:PyData->List Sl->Prop):Option Sl->Prop
 | some (.own (.lst ds))=>t (env.set i (.dat (.list ds))) fun d e=>(noList d=true/\PkE (env.set i .non) (e.set i .non)/\e.length=env.length)/\P d (e.set i (.own (.lst ds)))
 | some (.dat _)=>t env P
 | _=>False
def aPkX(i:Nat)(t:AD):AD:=fun env P=>pkX i t env P env[i]?
theorem ae_pkX{X:Cx}{e:Expr}{te:TE}{t:AD}(i:Nat)(h:AE X e te t):AE X e te (aPkX i t):=⟨h.pe,fun Q P ok hh q=>by
 unfold aPkX at hh
 cases hs:(‹List Sl›)[i]? with
 | none=>rw [hs]at hh;exact hh.elim
 | some s =>
  rw [hs]at hh
  match s,hs,hh with
  | .own (.lst ds),hs,hh=>exact sim_pk h.sm Q P ok (by rw [x_pk,hs];exact hh) q
  | .dat _,hs,hh=>exact h.sm Q P ok hh q⟩
theorem x_pkX(i:Nat)(t:AD)(env:List Sl)(P:PyData->List Sl->Prop):aPkX i t env P=pkX i t env P env[i]? :=rfl
theorem x_pkX1(i:Nat)(t:AD)(env:List Sl)(P:PyData->List Sl->Prop)(ds:List PyData):pkX i t env P (some (.own (.lst ds)))=t (env.set i (.dat (.list ds))) fun d e=>(noList d=true/\PkE (env.set i .non) (e.set i .non)/\e.length=env.length)/\P d (e.set i (.own (.lst ds))):=rfl
end
section
def pairsD:List PyData->Option (List (List Key×PyData))
 | []=>some []
 | .tuple [kd,v]::ds=>(keyT kd).bind fun k=>(pairsD ds).map ((k,v) :: ·)
 | _::_=>none
end
section
theorem nodup_lenA{α:Type} [BEq α] [LawfulBEq α]:∀{l T:List α},l.Nodup->(∀x∈l,x∈T)->l.length<=T.length
 | [],_,_,_=>Nat.zero_le _
 | x::l,T,n,h=>by
  obtain⟨n1,n2⟩:=List.nodup_cons.mp n
  have hx:=h x (.head _)
  have:=nodup_lenA (T:=T.erase x) n2 fun y hy=>(List.mem_erase_of_ne (show y≠x from fun e=>n1 (e ▸ hy))).mpr (h y (.tail _ hy))
  rw [List.length_erase_of_mem hx]at this
  have:=List.length_pos_of_mem hx
  rw [List.length_cons]
  omega
end
section
def numL(t:Nat×Nat):List Cd->Nat->Option Nat
 | [],_=>none
 | e::r,i=>if (e.p,e.c)=t then some i else numL t r (i+1)
def tellN(cs:List Cd)(N:Nat)(t:Nat×Nat):Option Nat:=numL t (leftC cs N) 0
end
section
theorem rgD_nat(m:Nat):rgD 0 m=(List.range m).map fun k:Nat=>PyData.int (k:Nat):=by
 unfold rgD
 exact List.map_congr_left fun k _=>by simp
end
section
structure Seer(P:Program)(base:Heap):Prop where
 ns:base.NoSeer
 tr:P.given.tree=none
end
section
theorem perm_of_map{α:Type}(f:α->PyData):∀(l:List α) {ys:List PyData},ys.Perm (l.map f) ->∃l':List α,ys=l'.map f/\l'.Perm l
 | [],ys,h=>⟨[],h.eq_nil,List.Perm.refl _⟩
 | a::l,ys,h=>by
  have hm:f a∈ys:=h.mem_iff.mpr (by rw [List.map_cons];exact .head _)
  obtain⟨s,t,rfl⟩:=List.append_of_mem hm
  have h2:(s++t).Perm (l.map f):=(List.perm_middle.symm.trans h).cons_inv
  obtain⟨l',e,p⟩:=perm_of_map f l h2
  obtain⟨l1,l2,rfl,rfl,rfl⟩:=List.append_eq_map_iff.mp e
  exact⟨l1++a::l2,by rw [List.map_append,List.map_cons],List.perm_middle.trans (.cons a p)⟩
end
section
theorem eqvAll_map2{α:Type}{f:α->PyData}(h:∀a b,PyData.eqv (f a) (f b)=true↔a=b):∀{xs ys:List α},PyData.eqvAll (xs.map f) (ys.map f)=true↔xs=ys
 | [],[]=>⟨fun _=>rfl,fun _=>rfl⟩
 | [],_::_=>⟨(fun h=>by cases h),(fun h=>by cases h)⟩
 | _::_,[]=>⟨(fun h=>by cases h),(fun h=>by cases h)⟩
 | a::xs,b::ys=>by
  show (PyData.eqv (f a) (f b)&&PyData.eqvAll (xs.map f) (ys.map f))=true↔_
  rw [Bool.and_eq_true,h,eqvAll_map2 h]
  simp
end
section
def aLstRg(ta:AD):AO:=fun env P=>ta env fun d e=>match d with
 | .int j=>(0<=j/\j<=16777216)/\P (.lst (rgD 0 j.toNat)) e
 | _=>False
theorem x_lstRg(ta:AD)(env:List Sl)(P:MO->List Sl->Prop):aLstRg ta env P=ta env fun d e=>onI (fun j=>(0<=j/\j<=16777216)/\P (.lst (rgD 0 j.toNat)) e) d:=by
 unfold aLstRg
 congr 1
theorem rps_rg(F:Hp):∀l:List Nat,Rps F (l.map fun i=>V.int (0+(i:Nat))) (l.map fun i:Nat=>PyData.int (0+(i:Nat)))
 | [] => .nil
 | i::l => .cons (.int _) (rps_rg F l)
theorem ao_lstRg{X:Cx}{a:Expr}{p p2 pos pos2:Pos}{sa:TE}{ta:AD}(hc:X.calm=true)(hl:Gl X "list")(hml:X.mg "list" =none)(hr:Gl X "range")(hmr:X.mg "range" =none)(ha:AE X a sa ta)
  (na:starEach [a] X.env=(false,eval a X.env)::starEach [] X.env:=by rfl) (nb:starEach [.Call (.Name "range" p2) [a] [] pos2] X.env=(false,eval (.Call (.Name "range" p2) [a] [] pos2) X.env)::starEach [] X.env:=by rfl) :
  AEO X (.Call (.Name "list" p) [.Call (.Name "range" p2) [a] [] pos2] [] pos) (tLstRg (tRg1 sa)) (aLstRg ta) :=
 ⟨pe_listRg hc hl hml (prg_1 hr hmr ha.pe na) nb,fun Q P ok h q=>ha.sm _ _ ok h fun v d e F' H' fp' t ok' r h'=>by
  cases r with
  | int j =>
   obtain⟨⟨h1,h2⟩,h3⟩:=(show (0<=j/\j<=16777216)/\P (.lst (rgD 0 j.toNat)) e from h')
   refine⟨j,rfl,RgOk.of_le (Int.le_refl 0) h2 (by decide) h1,fun p hp => ?_⟩
   have rr:Rps F' (rgV 0 j) (rgD 0 j.toNat):=by
    unfold rgV rgD
    rw [Int.sub_zero]
    exact rps_rg F' _
   obtain⟨t2,ok2,m,hf⟩:=ok'.newLst hp rr
   exact q _ _ _ _ _ _ _ (t.trans t2) ok2 m (t.backs hf) h3
  | _=>exact h'.elim⟩
section
variable {cs:List Cd} {n B:Nat}
variable (hc:∀e∈cs,e.f.length=n /\∀i,(vec e.f i).natAbs<=B)
include hc
end
end
section
section
variable {n N:Nat} {cs:List Cd} {F:List (List Int)} {w u l:List Nat} {d:Vc}
variable {c0:List Cd} {w0:List (List Int)} {K M J:Nat} {es ds js:List Cd} {E G H:List (List Int)}
section
variable {B:Nat} (l0:∀e∈c0,Lo e.c) (lc:∀e∈cs,Lo e.c) (hY:YardOf n c0 w0 N cs F) (hw:Lts w) (hc:∀e∈cs,e.f.length=n /\∀i,(vec e.f i).natAbs<=B) (pg:∀e∈cs,e.p<N/\e.q<N)
include lc hY hw hc pg
end
end
end
section
def isWh(d:PyData):Bool:=isIntD d && !isBoolD d
end
end Cf
namespace Cf
open PySem PySem.Spec PyProof.Rows L2 PySem.Froz
section
variable {P:Program} {w:World} {A:Around} {E:Value->Shared->Prop} {s:Shared}
theorem tail_keeps(ep:Nat)(es1:Array (Int×Value))(t2:SetTable)(wd:Bool)(r:Ris t2.place.toList):Ris (tailTx ep es1 t2 wd).2.2.place.toList/\(tailTx ep es1 t2 wd).2.2.led=t2.led:=by
 unfold tailTx
 split
 ·exact⟨relayAll_ris _ _ _,relayAll_led _ _ _⟩
 ·exact⟨r,rfl⟩
theorem addTx_keeps(h:Int)(v:Value)(D:SD)(r:Ris D.2.2.place.toList):Ris (addTx h v D).2.2.place.toList/\(addTx h v D).2.2.led=D.2.2.led:=by
 have r1:=layNew_ris D.2.2 D.1 h v r
 have l1:=layNew_led D.2.2 D.1 h v
 unfold addTx
 split
 ·have:=tail_keeps D.2.1 (layNew D.2.2 D.1 h v).1 { (layNew D.2.2 D.1 h v).2.1 with plain:=false } (layNew D.2.2 D.1 h v).2.2.1 r1
  exact⟨this.1,this.2.trans l1⟩
 ·have:=tail_keeps D.2.1 (layNew D.2.2 D.1 h v).1 (layNew D.2.2 D.1 h v).2.1 (layNew D.2.2 D.1 h v).2.2.1 r1
  exact⟨this.1,this.2.trans l1⟩
def TxS(P:Program)(w:World)(h:Heap)(a:Addr)(l:List Str):Prop :=∃D:SD,h.get? a=some (sObj "set" D)/\TxOk P w D l/\Ris D.2.2.place.toList/\(w.params.followText "set-order" =true∨D.2.2.led=true)/\l.Nodup
theorem TxS.at{h h':Heap}{a:Addr}{l:List Str}(R:TxS P w h a l)(k:∀o,h.get? a=some o->h'.get? a=some o):TxS P w h' a l:=by
 obtain⟨D,h1,h2⟩:=R
 exact⟨D,k _ h1,h2⟩
theorem TxS.fresh{h:Heap}(w:World)(a:Addr)(ho:h.get? a=some { cls := .type "set",dict:=none,data := .set #[] 0 (.fresh 0 0 (!w.params.followText "set-order")) }):TxS P w h a []:=by
 refine⟨(#[],0,.fresh 0 0 (!w.params.followText "set-order")),ho,TxOk.nil (by rfl), ?_, ?_,.nil⟩
 ·show Ris ([]:List Nat)
  exact List.Pairwise.nil
 ·show _∨(!w.params.followText "set-order")=true
  cases w.params.followText "set-order"
  ·exact .inr rfl
  ·exact .inl rfl
theorem txs_add{a:Addr}{l:List Str}{k:Str}{u:Tok}{Q:Bool->Shared->Prop}(R:TxS P w s.heap a l)(hb:l.length+1<scanBound)
  (hQ:∀b h',(∀c o,c≠a->s.heap.get? c=some o->h'.get? c=some o)->TxS P w h' a (if k∈l then l else k::l)->Q b { s with heap:=h' }) :
  wpAny (model P w) A (setAddHashed a (.str k u) (hashStr w k)) Q E s:=by
 obtain⟨D,ho,F,hr,hl,nd⟩:=id R
 by_cases hk:k∈l
 ·obtain⟨es,ep,t⟩:=D
  have hd:(sObj "set" (es,ep,t)).data = .set es ep t:=rfl
  have hf:t.fits es.size=true:=F.fit
  have hel:ElemsOf (strKind P w) es.toList:=F.el
  have hsz:es.size=l.length:=F.sz
  have hb0:es.size<scanBound:=by omega
  have hkey:(strKind P w).is k (.str k u)=true:=is_str k u
  rw [if_pos hk]at hQ
  unfold setAddHashed setAddHashedIn
  refine wpAny_holding (wpAny_bind (wpAny_setState_of ho hd hf ?_))
  dsimp only
  rw [byScan_of rfl hb0 hel]
  simp only [↓reduceIte]
  unfold setAddByScan
  refine wpAny_bind ?_
  refine wpAny_bind (wpAny_rule ?_)
  refine wpAny_bind (wpAny_setScan_of (knd:=strKind P w) (k:=k) hkey ho hd hf hel ?_)
  cases hfi:List.findIdx? (fun e=>(strKind P w).is k e.2) es.toList with
  | some j =>
   dsimp only
   refine wpAny_pure (wpAny_pure ?_)
   exact hQ _ s.heap (fun _ _ _ z=>z) R
  | none =>
   exfalso
   obtain⟨e,he,q⟩:=(F.mem k).mp hk
   have c:=List.findIdx?_eq_none_iff.mp hfi e he
   rw [q]at c
   cases c
 ·rw [if_neg hk]at hQ
  obtain⟨r1,r2⟩:=addTx_keeps (hashStr w k) (.str k u) D hr
  refine add_x ho F hk hb (hQ true _ (fun c o hc e=>Heap.get?_update_of_ne _ hc.symm e) ⟨_,get_upd _ ho rfl,add_ok u F,r1,hl.imp id fun z=>r2.trans z,List.nodup_cons.mpr ⟨hk,nd⟩⟩)
def onceT(l:List Str):List Str->List Str
 | []=>l
 | k::ks=>onceT (if k∈l then l else k::l) ks
theorem onceT_mem{x:Str}:∀(ks l:List Str),x∈onceT l ks↔x∈l∨x∈ks
 | [],l=>by simp [onceT]
 | k::ks,l=>by
  rw [onceT,onceT_mem ks]
  split
  ·rename_i h
   rw [List.mem_cons]
   exact⟨fun z=>z.elim .inl fun y => .inr (.inr y),fun z=>z.elim .inl fun y=>y.elim (fun e => .inl (e ▸ h)) .inr⟩
  ·rw [List.mem_cons,List.mem_cons]
   exact⟨fun z=>z.elim (fun y=>y.elim (fun e => .inr (.inl e)) .inl) fun y => .inr (.inr y),fun z=>z.elim (fun y => .inl (.inr y)) fun y=>y.elim (fun e => .inl (.inl e)) .inr⟩
theorem onceT_nodup:∀(ks l:List Str),l.Nodup->(onceT l ks).Nodup
 | [],l,h=>h
 | k::ks,l,h=>by
  rw [onceT]
  refine onceT_nodup ks _ ?_
  split
  ·exact h
  ·rename_i hn
   exact List.nodup_cons.mpr ⟨hn,h⟩
theorem onceT_len:∀(ks l:List Str),(onceT l ks).length<=l.length+ks.length
 | [],l=>Nat.le_refl _
 | k::ks,l=>by
  rw [onceT]
  have:=onceT_len ks (if k∈l then l else k::l)
  rw [List.length_cons]
  split at this
  ·rename_i h
   rw [if_pos h]
   omega
  ·rename_i h
   rw [if_neg h]
   rw [List.length_cons]at this
   omega
theorem set_update_txts{I:Addr}{fp wr:List Addr}{G:Array GenState->Array GenState->Prop}{n:Nat}{Pv:Nat->Value->Prop}{St:Nat->Shared->Prop}{R:Result->Shared->Prop}
  (W:WalksS P w A.in1 I fp wr G n Pv St) (S:Addr) (hSf:S∉fp) (ns:List Str) (hn:n=ns.length) (hval:∀i v,Pv i v ->∃k t,ns[i]? =some k/\v = .str k t) :
  ∀(k i:Nat) (s:Shared) (l:List Str),n-i=k->i<=n->St i s->TxS P w s.heap S l->l.length+(n-i)+1<scanBound ->
   (∀s',Moved (S::wr) G s s'->TxS P w s'.heap S (onceT l (ns.drop i))->R (.ok (.ret .none)) s') ->
   codeAny (model P w) A (.builtin "set.update.loop" ⟨[.ref S,.ref I],[]⟩) R s:=by
 have hSw:S∉wr:=fun h=>hSf (W.sub _ h)
 have hsub:∀b∈wr,b∈S::wr:=fun b hb=>List.mem_cons_of_mem _ hb
 intro k
 induction k with
 | zero =>
  intro i s l hk' hi hst hS hb hR
  have hin:i=n:=by omega
  subst hin
  refine codeAny_builtin F.entry_set_update_loop ?_
  rw [Around.under_plainId F.plain_set_update_loop _]
  show wpAny _ A.in1 (pyNext (.ref I) >>=_) _ _ s
  refine wpAny_bind (W.done s _ _ hst fun s' hm => ?_)
  show wpAny _ A.in1 (ret Value.none) _ _ s'
  rw [show ns.drop i = []from List.drop_of_length_le (by omega)]at hR
  exact wpAny_pure (hR s' (hm.mono hsub) (hS.at fun o e=>hm.heap S o hSw e))
 | succ k ih =>
  intro i s l hk' hi hst hS hb hR
  have hlt:i<n:=by omega
  refine codeAny_builtin F.entry_set_update_loop ?_
  rw [Around.under_plainId F.plain_set_update_loop _]
  show wpAny _ A.in1 (pyNext (.ref I) >>=_) _ _ s
  refine wpAny_bind (W.item i s _ _ hlt hst fun v s' hP hst' hm => ?_)
  obtain⟨z,t,hz,rfl⟩:=hval i v hP
  have hS':TxS P w s'.heap S l:=hS.at fun o e=>hm.heap S o hSw e
  show wpAny _ A.in1 (holding [Value.str z t] (setAdd S (.str z t)) >>=_) _ _ s'
  refine wpAny_bind (wpAny_holding ?_)
  unfold setAdd
  refine wpAny_holding ?_
  refine wpAny_bind ((strKind P w).pyHash (k:=z) (is_str _ _) ?_)
  refine txs_add (s:={ s' with toks:=s'.toks+1 }) hS' (by omega) fun b h' hsb hS2 => ?_
  have hd:ns.drop i=z::ns.drop (i+1):=by
   have hl:=(List.getElem?_eq_some_iff.mp hz)
   rw [List.drop_eq_getElem_cons hl.1,hl.2]
  have hl2:(if z∈l then l else z::l).length<=l.length+1:=by
   split
   ·omega
   ·rw [List.length_cons];omega
  refine wpAny_pure ⟨plainId_quiet F.plain_set_update_loop _,ih (i+1) _ _ (by omega) hlt (W.frame _ s' _ _ hst' (Nat.le_succ _) fun b hb o e => ?_) hS2 (by omega) fun s'' hm'' hS'' => ?_⟩
  ·exact hsb b o (fun h:b=S=>hSf (by rw [<- h];exact hb)) e
  ·rw [hd,onceT]at hR
   refine hR s'' (Moved.trans W.gtrans ((hm.mono hsub).then_heap (Nat.le_succ _) fun b o hb e => ?_) hm'') hS''
   exact hsb b o (fun h:b=S=>hb (by rw [h];exact List.mem_cons_self)) e
theorem call_set_lstX{l:Addr}{items:Array Value}(ns:List Str){Q:Value->Shared->Prop}(hh:A.handled=none)(hl:s.heap.IsList l items)(hit:∀(i:Nat) (v:Value),items[i]? =some v ->∃k t,ns[i]? =some k/\v = .str k t)(hisz:items.size=ns.length)(hb:ns.length+1<scanBound)
  (h:∀(h':Heap) (tk:Nat),TxS P w h' s.heap.objs.size (onceT [] ns)->(∀b o,s.heap.get? b=some o->h'.get? b=some o)->Q (.ref s.heap.objs.size) { s with heap:=h',toks:=tk }) :
  wpAny (model P w) A (call (.type "set") [Value.ref l]) Q E s:=by
 obtain⟨c,tl,hmro⟩:=F.called_set.mro
 have hmade:=F.called_set.made
 have hsub:=F.called_set.sub
 refine wpAny_call (codeAny_of_tree ?_)
 show wpAny _ _ (callAny (.type "set") _) _ _ _
 refine wpAny_pure ⟨Code.quiet_builtin _ (by decide +kernel),codeAny_builtin F.entry_type_call ?_⟩
 rw [Around.under_plain (weight_type_call_type "set" [Value.ref l] []) rfl]
 have h1:=F.called_set.notType
 have h2:=F.called_set.canCreate
 have hct:=F.typeCall_set_1 (Value.ref l)
 repeat (any_goals (first | assumption | wp_step))
 refine codeAny_mono (code_set_led1 (Value.ref l) (E:=E) (Q₁:=fun obj s₁=>obj = .ref s.heap.objs.size/\s₁={ s with heap:=s.heap.push { cls := .type "set",dict:=none,data := .set #[] 0 (.fresh 0 0 (!w.params.followText "set-order")) } }) ⟨rfl,rfl⟩) fun r s₁ hr => ?_
 cases r with
 | error e=>exact hr
 | ok fl =>
  cases fl with
  | ret obj =>
   obtain⟨rfl,rfl⟩:=hr
   have hS:(s.heap.push { cls := .type "set",dict:=none,data := .set #[] 0 (.fresh 0 0 (!w.params.followText "set-order")) }).get? s.heap.objs.size=some { cls := .type "set",dict:=none,data := .set #[] 0 (.fresh 0 0 (!w.params.followText "set-order")) }:=Heap.get?_push_size _ rfl
   have hT:Shared.TypeIs { s with heap:=s.heap.push { cls := .type "set",dict:=none,data := .set #[] 0 (.fresh 0 0 (!w.params.followText "set-order")) } } (.ref s.heap.objs.size) "set" :=⟨_,hS,rfl⟩
   have hli:=F.called_set.init.lookup
   have hbi:=F.called_set.init.bind (.ref s.heap.objs.size)
   repeat (any_goals (first | assumption | wp_step))
   refine codeAny_mono (codeAny_call_builtin (R:=wants (fun r s₂=>r = .none /\∃h' tk,s₂={ s with heap:=h',toks:=tk }/\TxS P w h' s.heap.objs.size (onceT [] ns) /\
     (∀b o,s.heap.get? b=some o->h'.get? b=some o)) E) F.called_set.init.plain F.entry_set_init (check_set_init_1 hT ?_)) fun r₂ s₂ hr₂ => ?_
   ·have hz1:(s.heap.push { cls := .type "set",dict:=none,data := .set #[] 0 (.fresh 0 0 (!w.params.followText "set-order")) }).objs.size=s.heap.objs.size+1:=Heap.size_push ..
    have hh3:A.in1.in1.in1.handled=none:=by simp [hh]
    obtain⟨ol,hol,hcl,nl,hdl⟩:=hl
    obtain⟨ocls,odict,odata,oslots⟩:=ol
    simp only at hcl hdl
    subst hcl;subst hdl
    have hol':(s.heap.push { cls := .type "set",dict:=none,data := .set #[] 0 (.fresh 0 0 (!w.params.followText "set-order")) }).get? l=some { cls := .type "list",dict:=odict,data := .seq items nl,slots:=oslots }:=Heap.get?_push_of_some _ hol
    have hsls:=F.sub_list_set
    have hslf:=F.sub_list_frozenset
    have hne:(Value.type "list" ==Value.type "dict")=false:=by decide
    have hl1:(s.heap.push { cls := .type "set",dict:=none,data := .set #[] 0 (.fresh 0 0 (!w.params.followText "set-order")) }).IsList l items:=⟨_,hol',rfl,nl,rfl⟩
    unfold Builtin.«set.__init__» noKeywords Builtin.Frozenset.updateFrom
    generalize hPI:pyIter=PI
    wp_walk
    subst hPI
    refine wpAny_pyIter_list hl1 ?_
    refine wpAny_bind (wpAny_runValue ?_)
    have hlS:l<s.heap.objs.size:=Heap.lt_size hol
    have hneI:l≠(s.heap.push { cls := .type "set",dict:=none,data := .set #[] 0 (.fresh 0 0 (!w.params.followText "set-order")) }).objs.size:=by
     rw [Heap.size_push];exact Nat.ne_of_lt (Nat.lt_succ_of_lt hlS)
    have hSf:s.heap.objs.size ∉ [(s.heap.push { cls := .type "set",dict:=none,data := .set #[] 0 (.fresh 0 0 (!w.params.followText "set-order")) }).objs.size,l]:=by
     rw [Heap.size_push];simp only [List.mem_cons,List.mem_singleton,List.not_mem_nil,or_false,not_or]
     exact⟨Nat.ne_of_lt (Nat.lt_succ_self _),Nat.ne_of_gt hlS⟩
    refine set_update_txts ((Walks.list hh3 _ l hneI items).toS) s.heap.objs.size
     hSf ns hisz hit (items.size-0) 0 _ [] (by omega) (Nat.zero_le _)
     ⟨⟨_,Heap.get?_push_size _ rfl,rfl,rfl⟩,(hl1.push _)⟩ ?hS0 (by simpa [hisz]using hb) ?hR
    case hS0 =>
     exact TxS.fresh w _ (Heap.get?_push_of_some _ hS)
    case hR =>
     intro s' hm hS'
     obtain⟨h',g2,d',tk',os'⟩:=s'
     have eg:g2=s.gens:=hm.gens
     have ed:d'=s.drawn:=hm.drawn
     have eo:os'=s.os:=hm.os
     subst eg;subst ed;subst eo
     show wpAny _ _ _ _ _ _
     refine wpAny_pure ?_
     show wpAny _ _ (ret Value.none) _ _ _
     refine wpAny_pure ⟨rfl,h',tk',rfl,hS',fun b o e => ?_⟩
     have hb0:b<s.heap.objs.size:=Heap.lt_size e
     have hb1:b≠s.heap.objs.size:=Nat.ne_of_lt hb0
     have hb2:b≠(s.heap.push { cls := .type "set",dict:=none,data := .set #[] 0 (.fresh 0 0 (!w.params.followText "set-order")) }).objs.size:=by
      rw [Heap.size_push];exact Nat.ne_of_lt (Nat.lt_succ_of_lt hb0)
     exact hm.heap b o (by simp only [List.mem_cons,List.mem_singleton,List.not_mem_nil,or_false,not_or];exact⟨hb1,hb2⟩) (Heap.get?_push_of_some _ (Heap.get?_push_of_some _ e))
   ·cases r₂ with
    | error e=>exact hr₂
    | ok fl₂ =>
     cases fl₂ with
     | ret r =>
      obtain⟨rfl,h',tk,rfl,hS',hk'⟩:=hr₂
      repeat (any_goals (first | assumption | wp_step))
      exact h _ _ hS' hk'
     | _=>exact hr₂.elim
  | _=>exact hr.elim
theorem call_set_txtX{z:Str}{tz:Tok}(ns:List Str){Q:Value->Shared->Prop}(hh:A.handled=none)(hns:ns=z.cps.toList.map fun c=>(⟨#[c]⟩:Str))(hb:ns.length+1<scanBound)
  (h:∀(h':Heap) (tk:Nat),TxS P w h' s.heap.objs.size (onceT [] ns)->(∀b o,s.heap.get? b=some o->h'.get? b=some o)->Q (.ref s.heap.objs.size) { s with heap:=h',toks:=tk }) :
  wpAny (model P w) A (call (.type "set") [Value.str z tz]) Q E s:=by
 obtain⟨c,tl,hmro⟩:=F.called_set.mro
 have hmade:=F.called_set.made
 have hsub:=F.called_set.sub
 refine wpAny_call (codeAny_of_tree ?_)
 show wpAny _ _ (callAny (.type "set") _) _ _ _
 refine wpAny_pure ⟨Code.quiet_builtin _ (by decide +kernel),codeAny_builtin F.entry_type_call ?_⟩
 rw [Around.under_plain (weight_type_call_type "set" [Value.str z tz] []) rfl]
 have h1:=F.called_set.notType
 have h2:=F.called_set.canCreate
 have hct:=F.typeCall_set_1 (Value.str z tz)
 repeat (any_goals (first | assumption | wp_step))
 refine codeAny_mono (code_set_led1 (Value.str z tz) (E:=E) (Q₁:=fun obj s₁=>obj = .ref s.heap.objs.size/\s₁={ s with heap:=s.heap.push { cls := .type "set",dict:=none,data := .set #[] 0 (.fresh 0 0 (!w.params.followText "set-order")) } }) ⟨rfl,rfl⟩) fun r s₁ hr => ?_
 cases r with
 | error e=>exact hr
 | ok fl =>
  cases fl with
  | ret obj =>
   obtain⟨rfl,rfl⟩:=hr
   have hS:(s.heap.push { cls := .type "set",dict:=none,data := .set #[] 0 (.fresh 0 0 (!w.params.followText "set-order")) }).get? s.heap.objs.size=some { cls := .type "set",dict:=none,data := .set #[] 0 (.fresh 0 0 (!w.params.followText "set-order")) }:=Heap.get?_push_size _ rfl
   have hT:Shared.TypeIs { s with heap:=s.heap.push { cls := .type "set",dict:=none,data := .set #[] 0 (.fresh 0 0 (!w.params.followText "set-order")) } } (.ref s.heap.objs.size) "set" :=⟨_,hS,rfl⟩
   have hli:=F.called_set.init.lookup
   have hbi:=F.called_set.init.bind (.ref s.heap.objs.size)
   repeat (any_goals (first | assumption | wp_step))
   refine codeAny_mono (codeAny_call_builtin (R:=wants (fun r s₂=>r = .none /\∃h' tk,s₂={ s with heap:=h',toks:=tk }/\TxS P w h' s.heap.objs.size (onceT [] ns) /\
     (∀b o,s.heap.get? b=some o->h'.get? b=some o)) E) F.called_set.init.plain F.entry_set_init (check_set_init_1 hT ?_)) fun r₂ s₂ hr₂ => ?_
   ·have hz1:(s.heap.push { cls := .type "set",dict:=none,data := .set #[] 0 (.fresh 0 0 (!w.params.followText "set-order")) }).objs.size=s.heap.objs.size+1:=Heap.size_push ..
    have hh3:A.in1.in1.in1.handled=none:=by simp [hh]
    have hsls:=F.sub_str_set
    have hslf:=F.sub_str_frozenset
    have hne:(Value.type "str" ==Value.type "dict")=false:=by decide
    unfold Builtin.«set.__init__» noKeywords Builtin.Frozenset.updateFrom
    generalize hPI:pyIter=PI
    wp_walk
    subst hPI
    refine wpAny_pyIter_str fun oi Sti hW hSt => ?_
    refine wpAny_bind (wpAny_runValue ?_)
    have hisz:z.cps.size=ns.length:=by rw [hns,List.length_map,Array.length_toList]
    have hit:∀(i:Nat) (v:Value),PySem.SignAt z i v ->∃k t,ns[i]? =some k/\v = .str k t:=fun i v ⟨c,u,e1,e2⟩=>⟨_,u,by rw [hns,List.getElem?_map,Array.getElem?_toList,e1];rfl,e2⟩
    have hSf:s.heap.objs.size ∉ [(s.heap.push { cls := .type "set",dict:=none,data := .set #[] 0 (.fresh 0 0 (!w.params.followText "set-order")) }).objs.size]:=by
     rw [Heap.size_push];simp only [List.mem_cons,List.mem_singleton,List.not_mem_nil,or_false,not_or]
     exact Nat.ne_of_lt (Nat.lt_succ_self _)
    refine set_update_txts ((hW _ hh3).toS) s.heap.objs.size
     hSf ns hisz hit (z.cps.size-0) 0 _ [] (by omega) (Nat.zero_le _)
     hSt ?hS0 (by simpa [hisz]using hb) ?hR
    case hS0 =>
     exact TxS.fresh w _ (Heap.get?_push_of_some _ hS)
    case hR =>
     intro s' hm hS'
     obtain⟨h',g2,d',tk',os'⟩:=s'
     have eg:g2=s.gens:=hm.gens
     have ed:d'=s.drawn:=hm.drawn
     have eo:os'=s.os:=hm.os
     subst eg;subst ed;subst eo
     show wpAny _ _ _ _ _ _
     refine wpAny_pure ?_
     show wpAny _ _ (ret Value.none) _ _ _
     refine wpAny_pure ⟨rfl,h',tk',rfl,hS',fun b o e => ?_⟩
     have hb0:b<s.heap.objs.size:=Heap.lt_size e
     have hb1:b≠s.heap.objs.size:=Nat.ne_of_lt hb0
     have hb2:b≠(s.heap.push { cls := .type "set",dict:=none,data := .set #[] 0 (.fresh 0 0 (!w.params.followText "set-order")) }).objs.size:=by
      rw [Heap.size_push];exact Nat.ne_of_lt (Nat.lt_succ_of_lt hb0)
     exact hm.heap b o (by simp only [List.mem_cons,List.mem_singleton,List.not_mem_nil,or_false,not_or];exact⟨hb1,hb2⟩) (Heap.get?_push_of_some _ (Heap.get?_push_of_some _ e))
   ·cases r₂ with
    | error e=>exact hr₂
    | ok fl₂ =>
     cases fl₂ with
     | ret r =>
      obtain⟨rfl,h',tk,rfl,hS',hk'⟩:=hr₂
      repeat (any_goals (first | assumption | wp_step))
      exact h _ _ hS' hk'
     | _=>exact hr₂.elim
  | _=>exact hr.elim
end
end Cf
namespace Cf
open PySem PySem.Spec PyProof.Rows L2 PySem.Froz
theorem perm_of_sub{α:Type} [DecidableEq α]:∀(l b:List α),l.Nodup->(∀x∈l,x∈b)->b.length<=l.length->b.Perm l
 | [],b,_,_,h=>by
  have:b = []:=List.eq_nil_of_length_eq_zero (by simpa using h)
  rw [this]
 | x::l,b,nd,hs,h=>by
  obtain⟨n1,n2⟩:=List.nodup_cons.mp nd
  have hx:=hs x (.head _)
  refine(List.perm_cons_erase hx).trans (.cons x (perm_of_sub l (b.erase x) n2 (fun y hy => ?_) (by rw [List.length_erase_of_mem hx];rw [List.length_cons]at h;omega)))
  exact(List.mem_erase_of_ne (fun e=>n1 (by rw [<- e];exact hy))).mpr (hs y (.tail _ hy))
def srtT(l:List Str):List Str:=l.mergeSort (PySem.W.dataLe false PyData.str)
theorem each_str:∀(vs:List Value),(∀v∈vs,∃k t,v=Value.str k t) ->∃bs:List Str,PySem.W.EachIs (fun v b =>∃t,v=Value.str b t) vs bs
 | [],_=>⟨[],.nil⟩
 | v::vs,h=>by
  obtain⟨k,t,rfl⟩:=h v (.head _)
  obtain⟨bs,e⟩:=each_str vs fun u hu=>h u (.tail _ hu)
  exact⟨k::bs,.cons ⟨t,rfl⟩ e⟩
theorem each_mem{vs:List Value}{bs:List Str}(e:PySem.W.EachIs (fun v b =>∃t,v=Value.str b t) vs bs){k:Str}{t:Tok}(h:Value.str k t∈vs):k∈bs:=by
 induction e with
 | nil=>cases h
 | cons h1 _ ih =>
  obtain⟨t',rfl⟩:=h1
  rcases List.mem_cons.mp h with z | z
  ·cases z
   exact .head _
  ·exact .tail _ (ih z)
theorem each_vals2{out:List Value}{bs:List Str}(e:PySem.W.EachIs (fun v b =>∃t,v=Value.str b t) out bs):Vals (bs.map V.str) out:=by
 induction e with
 | nil=>exact .nil
 | cons h1 _ ih=>exact .cons h1 ih
section
variable {P:Program} {w:World} {A:Around} {E:Value->Shared->Prop} {s:Shared}
theorem sorted_txs{a:Addr}{l:List Str}{Q:Value->Shared->Prop}(R:TxS P w s.heap a l)(hh:A.handled=none)(hl:l.length<=1000)(hu:A.units+8<cLine)
  (hQ:∀s' p (out:Array Value) (c:Nat) (m:List Str),m.Perm l->(∀b o,s.heap.get? b=some o->s'.heap.get? b=some o)->s'.gens=s.gens->s'.os=s.os->s.heap.objs.size<=p ->
   s'.heap.get? p=some (seqObj "list" out c)->Vals ((srtT m).map V.str) out.toList->Q (.ref p) s') :
  wpAny (model P w) A (call (.builtin "sorted") [.ref a]) Q E s:=by
 obtain⟨D,ho,F,hr,hle,nd⟩:=R
 have hsz:D.1.size=l.length:=F.sz
 refine Calls.call_function_entry kind_sorted plain_sorted entry_sorted (args_sorted1 _) ?_
 unfold Builtin.«sorted»
 refine wpAny_bind (m:=checkCount "sorted" 1 1 _) (wpAny_pure ?_)
 refine wpAny_bind (collect_set (A:=A.in1) hh ⟨_,ho,rfl,rfl⟩ F.fit (by rw [hsz];exact Nat.lt_of_le_of_lt hl (by decide)) hr hle fun s1 vs k1 hz g1 o1 pm => ?_)
 have hvl:vs.length=l.length:=by rw [pm.length_eq,List.length_map,Array.length_toList];exact hsz
 have hstr:∀v∈vs,∃k t,v=Value.str k t:=fun v hv=>by
  obtain⟨e,he,q⟩:=List.mem_map.mp (pm.mem_iff.mp hv)
  obtain⟨⟨k,h2,_⟩,_⟩:=F.el e he
  subst q
  revert h2
  show Value.isStrOf k e.2=true->_
  cases e.2 with
  | str x t=>exact fun _=>⟨x,t,rfl⟩
  | _=>exact fun h=>by cases h
 obtain⟨bs,eb⟩:=each_str vs hstr
 have bl:bs.length=l.length:=by rw [<- hvl,eb.length]
 have bp:bs.Perm l:=perm_of_sub l bs nd (fun x hx=>by
  obtain⟨e,he,q⟩:=(F.mem x).mp hx
  have hm:e.2∈vs:=pm.mem_iff.mpr (List.mem_map.mpr ⟨e,he,rfl⟩)
  obtain⟨k,t,e2⟩:=hstr _ hm
  rw [e2]at q hm
  have:k=x:=by
   have q':Value.isStrOf x (.str k t)=true:=q
   simpa [Value.isStrOf]using q'
  rw [<- this]
  exact each_mem eb hm) (by omega)
 refine wpAny_bind (wpAny_newList ?_ (by rw [hvl,sizeLine_eq];omega))
 have hoL:(s1.heap.push (seqObj "list" vs.toArray 0)).get? s1.heap.objs.size=some (seqObj "list" vs.toArray 0):=Heap.get?_push_size _ rfl
 refine wpAny_bind (wpAny_holding (PySem.W.list_sort_data (enc:=PyData.str) hoL eb ?_ ?_ ?_ (by rw [bl,sizeLine_eq];omega) (fun b hb => ?_) fun out h1 h2 => ?_))
 ·exact eb.mono fun v b ⟨t,e⟩=>⟨[],by rw [e];exact .str _ _,by simp⟩
 ·intro d hd d' hd'
  obtain⟨x,_,rfl⟩:=List.mem_map.mp hd
  obtain⟨y,_,rfl⟩:=List.mem_map.mp hd'
  rfl
 ·exact PySem.W.Sortable.others fun b=>⟨(fun z=>by cases z),fun xs z=>by cases z⟩
 ·show A.units+1+1+0<cLine
  omega
 ·obtain⟨c,hc⟩:=sortedHeap_at (vs:=vs) (out:=out.toArray) hoL
  refine wpAny_pure ⟨_,rfl,hQ _ s1.heap.objs.size out.toArray c bs bp (fun b u e => ?_) g1 o1 hz hc (by rw [List.toList_toArray];exact each_vals2 h2)⟩
  have q:=k1 b u e
  have hlt:=Heap.lt_size q
  show (sortedHeap (s1.heap.push (seqObj "list" vs.toArray 0)) s1.heap.objs.size vs out.toArray).get? b=some u
  rw [sortedHeap_old (Nat.ne_of_lt hlt) (by rw [size_push'];exact Nat.lt_succ_of_lt hlt)]
  exact Heap.get?_push_of_some _ q
end
def txO(P:Program)(w:World)(a:Addr)(l:List Str):HO := .ext fun h=>TxS P w h a l
theorem txO_ok{P:Program}{w:World}{H:Hp}{h:Heap}{a:Addr}{l:List Str}(R:TxS P w h a l):ObjOk P w H h a (txO P w a l) :=
 ⟨R,by obtain⟨D,e,_⟩:=R;exact⟨_,e⟩,fun _ _ x k=>x.at fun o q=>k o q⟩
theorem txO_get{X:Cx}{pins:List (Addr×Obj)}{σ:St}{H:Hp}{s:Shared}{a:Addr}{l:List Str}(I:Inv X pins σ H s)(ha:H a=some (txO X.prog X.w a l)):TxS X.prog X.w s.heap a l:=(I.hok a _ ha).1
def sgsT(z:Str):List Str:=z.cps.toList.map fun c=>⟨#[c]⟩
def rSetTx(P:Program)(w:World)(K:PySem.W.Frag):List V->Hp->VK->Prop:=fun xs H Q =>∃ks:List Str,((∃z,xs = [.str z]/\ks=sgsT z) ∨∃a,xs = [.ref a]/\SqL K H a (ks.map V.str))/\ks.length<=1000 /\∀p,H p=none->Q (.ref p) (upd H p (txO P w p (onceT [] ks)))
def rSortTx(P:Program)(w:World):List V->Hp->VK->Prop:=fun xs H Q =>∃(a:Addr) (l:List Str),xs = [.ref a]/\H a=some (txO P w a l)/\l.length<=1000 /\∀p m,m.Perm l->H p=none->Q (.ref p) (upd H p (.lst ((srtT m).map V.str)))
section
variable {X:Cx}
theorem call_setTx(hc:X.calm=true):CallR X (.type "set") (rSetTx X.prog X.w X.K):=by
 intro pins s σ H xs us Q I r h
 obtain⟨ks,hv,hl,q⟩:=h
 have hb:ks.length+1<scanBound:=Nat.lt_of_le_of_lt (Nat.succ_le_succ hl) (by decide)
 have fin:∀(h':Heap) (tk:Nat),TxS X.prog X.w h' s.heap.objs.size (onceT [] ks)->(∀b o,s.heap.get? b=some o->h'.get? b=some o) ->∃v H',Inv X pins σ H' { s with heap:=h',toks:=tk }/\RelV v (.ref s.heap.objs.size)/\Q v H':=fun h' tk hT hk =>
  ⟨.ref s.heap.objs.size,_,I.laid hk (Nat.le_refl _) (txO_ok hT),rfl,q _ (I.hok.fresh (Nat.le_refl _))⟩
 rcases hv with ⟨z,rfl,e⟩ | ⟨a,rfl,hs⟩
 ·obtain⟨u,rfl,t,rfl⟩:∃u,us = [u] /\∃t,u=Value.str z t:=by
   cases r with
   | cons h1 h2 =>
    cases h2
    obtain⟨t,rfl⟩:=h1
    exact⟨_,rfl,t,rfl⟩
  exact call_set_txtX ks (I.ok.hd hc) e hb fin
 ·obtain rfl:=Vals.ref1 r
  obtain⟨its,rv,hli,hz⟩:=I.list hs
  have hn:its.length=ks.length:=by rw [<- Paired.length rv,List.length_map]
  refine call_set_lstX ks (I.ok.hd hc) hli.isList (fun i v hv => ?_) (by simpa using hn) hb fin
  have hv':its[i]? =some v:=by simpa using hv
  have hi:i<ks.length:=by have:=(List.getElem?_eq_some_iff.mp hv').1;omega
  obtain⟨u,e1,e2⟩:=Vals.get (i:=i) (x:=V.str ks[i]) rv (by rw [List.getElem?_map,List.getElem?_eq_getElem hi];rfl)
  rw [hv']at e1
  cases e1
  obtain⟨t,rfl⟩:=e2
  exact⟨ks[i],t,List.getElem?_eq_getElem hi,rfl⟩
theorem cr_sortTx{k:Nat}(hr:RoomG k X.A)(hc:X.calm=true):CallR X (.builtin "sorted") (rSortTx X.prog X.w):=by
 intro pins s σ H xs us Q I r h
 obtain⟨a,l,rfl,ha,hl,q⟩:=h
 obtain rfl:=Vals.ref1 r
 have hu:=hr.u64
 refine sorted_txs (txO_get I ha) (I.ok.hd hc) hl (by omega) fun s' p out c m pm k1 g1 o1 hz hp hv => ?_
 have hn:H p=none:=I.hok.fresh hz
 have hp':=hz
 have hlen:((srtT m).map V.str).length<=sizeLine:=by
  unfold srtT
  rw [List.length_map,(List.mergeSort_perm _ _).length_eq,pm.length_eq,sizeLine_eq]
  omega
 have J:Inv X pins σ (upd H p (.lst ((srtT m).map V.str))) { s with heap:=s'.heap,gens:=s'.gens,drawn:=s'.drawn,toks:=s'.toks } :=
  I.call (ch :=[]) (Un.laid k1 hp' hn) (I.hok.laid k1 hp' ⟨hlen,out.toList,c,hv,by simpa using hp⟩) (by rw [g1];exact I.bare) (fun _ z=>nomatch z)
 have e:s'={ s with heap:=s'.heap,gens:=s'.gens,drawn:=s'.drawn,toks:=s'.toks }:=by
  cases s'
  cases s
  cases o1
  rfl
 rw [e]
 exact⟨.ref p,_,J,rfl,q p m pm hn⟩
end
end Cf
namespace Cf
open PySem PySem.Spec PyProof.Rows L2
section
section
variable {cs:List Cd}
theorem sub_len{α:Type} [DecidableEq α]:∀{l b:List α},l.Nodup->(∀x∈l,x∈b)->l.length<=b.length
 | [],b,_,_=>Nat.zero_le _
 | x::l,b,nd,hs=>by
  obtain⟨n1,n2⟩:=List.nodup_cons.mp nd
  have hx:=hs x (.head _)
  have:=sub_len (b:=b.erase x) n2 fun y hy=>(List.mem_erase_of_ne (fun e=>n1 (by rw [<- e];exact hy))).mpr (hs y (.tail _ hy))
  rw [List.length_erase_of_mem hx]at this
  have:=List.length_pos_of_mem hx
  rw [List.length_cons]
  omega
end
end
section
def strsD:List PyData->Option (List Str)
 | []=>some []
 | .str z::ds=>(strsD ds).map (z :: ·)
 | _=>none
def tksD:PyData->Option (List Str)
 | .str z=>some (sgsT z)
 | .list ds=>strsD ds
 | _=>none
def aSortSet(tu:AL):AO:=fun env P=>tu env fun ds e=>match ds with
 | [d]=>opt (tksD d) fun ks=>ks.length<=1000 /\∀m:List Str,m.Perm (onceT [] ks)->P (.lst ((srtT m).map .str)) e
 | _=>False
theorem strs_rps{F:Hp}:∀{ds:List PyData} {ks:List Str} {xs:List V},strsD ds=some ks->Rps F xs ds->xs=ks.map V.str
 | [],ks,xs,h,r=>by
  cases h
  cases r
  rfl
 | .str z::ds,ks,xs,h,r=>by
  rw [strsD]at h
  cases hk:strsD ds with
  | none=>rw [hk]at h;cases h
  | some k2 =>
   rw [hk]at h
   cases h
   cases r with
   | cons r1 r2 =>
    cases r1
    rw [List.map_cons,<- strs_rps hk r2]
theorem strs_vals{F:Hp}:∀l:List Str,Rps F (l.map V.str) (l.map PyData.str)
 | [] => .nil
 | z::l => .cons (.str z) (strs_vals l)
theorem sim_sortSet{P0:Program}{w0:World}{K:PySem.W.Frag}{su:TA}{tu:AL}(ha:SimA su tu):SimO (tCB (rSortTx P0 w0) (tCons (tCB (rSetTx P0 w0 K) su) tNil)) (aSortSet tu):=fun Q P ok h q =>
 ha _ _ ok h fun vs ds e1 F1 H1 fp1 t1 ok1 r1 h1=>by
  match ds,r1,h1 with
  | [d],r1,h1 =>
   obtain⟨v,rfl,rv⟩:=rps1 r1
   have h1:opt (tksD d) fun ks=>ks.length<=1000 /\∀m:List Str,m.Perm (onceT [] ks)->P (.lst ((srtT m).map .str)) e1:=h1
   cases hk:tksD d with
   | none=>rw [hk]at h1;exact h1.elim
   | some ks =>
    rw [hk,opt_s]at h1
    obtain⟨hl,h1⟩:=h1
    have hol:=onceT_len ks []
    rw [List.length_nil,Nat.zero_add]at hol
    refine⟨ks, ?_,hl,fun p hp => ?_⟩
    ·match d,rv,hk with
     | .str z,rv,hk =>
      cases rv
      cases hk
      exact .inl ⟨z,rfl,rfl⟩
     | .list ds,rv,hk =>
      cases rv with
      | lst g1 g2 =>
       rw [<- strs_rps hk g2]
       exact .inr ⟨_,rfl,SqL.of (ok1.ex _ _ g1)⟩
    ·obtain⟨t2,x2⟩:=tr_newO (o:=txO P0 w0 p (onceT [] ks)) hp ok1.ex
     obtain⟨ok2,t2'⟩:=ok1.pure t2 x2
     refine⟨p,onceT [] ks,rfl,upd_same,by omega,fun p2 m pm hp2 => ?_⟩
     obtain⟨t3,ok3,mm,hf⟩:=ok2.newLst hp2 (strs_vals (F:=F1) (srtT m))
     exact q _ _ _ _ _ _ _ ((t1.trans t2').trans t3) ok3 mm ((t1.trans t2').backs hf) (h1 m pm)
section
variable {X:Cx} {e:Expr} {su:TA} {tu:AL} {p1 p2 pos pos2:Pos}
theorem ao_sortSet{k:Nat}(hr:RoomG k X.A)(hc:X.calm=true)(hg:Gl X "sorted")(hm:X.mg "sorted" =none)(hg2:Gl X "set")(hm2:X.mg "set" =none)(ha:APA X [e] su tu)
  (he:starEach [e] X.env=(false,eval e X.env)::starEach [] X.env:=by rfl) (he2:starEach [.Call (.Name "set" p2) [e] [] pos2] X.env=(false,eval (.Call (.Name "set" p2) [e] [] pos2) X.env)::starEach [] X.env:=by rfl) :
  AEO X (.Call (.Name "sorted" p1) [.Call (.Name "set" p2) [e] [] pos2] [] pos) (tCB (rSortTx X.prog X.w) (tCons (tCB (rSetTx X.prog X.w X.K) su) tNil)) (aSortSet tu) :=
 ⟨pe_callB (cr_sortTx hr hc) hg hm (by decide +kernel) (pa_cons (pe_callTy (call_setTx hc) hg2 hm2 (by decide +kernel) ha.pe (he:=he)) pa_nil he2) (he:=he2),sim_sortSet ha.sm⟩
end
def fSS:List PyData->(List Str->Prop)->Prop
 | [d],k=>opt (tksD d) k
 | _,_=>False
theorem x_fSS(d:PyData)(k:List Str->Prop):fSS [d] k=opt (tksD d) k:=rfl
theorem x_sortSet(tu:AL)(env:List Sl)(P:MO->List Sl->Prop):aSortSet tu env P=tu env fun ds e=>fSS ds fun ks=>ks.length<=1000 /\∀m:List Str,m.Perm (onceT [] ks)->P (.lst ((srtT m).map .str)) e :=
 congrArg (tu env) (funext fun ds=>funext fun e=>by
  match ds with
  | []=>rfl
  | [d]=>rfl
  | _::_::_=>rfl)
theorem x_tksS(z:Str):tksD (.str z)=some (sgsT z):=rfl
def hueL(l:List Nat):List Nat :=[97,98,99,100].filter fun c=>decide (c∈l)
theorem sgsT_tx(l:List Nat):sgsT (tx l)=l.map fun c=>tx [c]:=by
 unfold sgsT tx
 simp
theorem srt_same{m m':List Str}(h:m.Perm m')(hs:m'.Pairwise fun a b=>PySem.W.dataLe false PyData.str a b=true)(ht:∀a∈m',∀b∈m',PySem.W.dataLe false PyData.str a b=true->PySem.W.dataLe false PyData.str b a=true->a=b):srtT m=m':=by
 have T:=PySem.W.sortLe_total (PyProof.Rows.listOrd PyProof.Rows.itemOrd) false fun b:Str=>PySem.W.keyToks (PyData.str b)
 have p:(srtT m).Perm m':=(List.mergeSort_perm _ _).trans h
 have s:(srtT m).Pairwise fun a b=>PySem.W.dataLe false PyData.str a b=true:=List.pairwise_mergeSort (fun a b c h k=>T.trans a b c h k) (fun a b=>by
  rcases T.total a b with z | z
  ·rw [Bool.or_eq_true];exact .inl z
  ·rw [Bool.or_eq_true];exact .inr z) m
 exact p.eq_of_pairwise (fun a b ha hb=>ht a (p.mem_iff.mp ha) b hb) s hs
theorem hue_le:∀c ∈ [97,98,99,100],∀d ∈ [97,98,99,100],PySem.W.dataLe false PyData.str (tx [c]) (tx [d])=decide (c<=d):=by decide
theorem txs1_inj{c d:Nat}(h:tx [c]=tx [d]):c=d:=by
 have:=congrArg (fun z:Str=>z.cps.toList) h
 simpa [tx]using this
theorem hue_srt{l:List Nat}(hl:∀c∈l,Lo c){m:List Str}(h:m.Perm (onceT [] (l.map fun c=>tx [c]))):srtT m=(hueL l).map fun c=>tx [c]:=by
 have lo:∀c∈hueL l,c ∈ [97,98,99,100]:=fun c hc=>(List.mem_filter.mp hc).1
 have nd:((hueL l).map fun c=>tx [c]).Nodup:=by
  have:(hueL l).Nodup:=(show [97,98,99,100].Nodup by decide).filter _
  exact List.Pairwise.map _ (fun a b hab e=>hab (txs1_inj e)) this
 have mem:∀x,x∈m↔x∈(hueL l).map fun c=>tx [c]:=fun x=>by
  rw [h.mem_iff,onceT_mem]
  constructor
  ·rintro(z | z)
   ·cases z
   ·obtain⟨c,hc,rfl⟩:=List.mem_map.mp z
    exact List.mem_map.mpr ⟨c,List.mem_filter.mpr ⟨hl c hc,decide_eq_true hc⟩,rfl⟩
  ·intro z
   obtain⟨c,hc,rfl⟩:=List.mem_map.mp z
   exact .inr (List.mem_map.mpr ⟨c,of_decide_eq_true (List.mem_filter.mp hc).2,rfl⟩)
 have mnd:m.Nodup:=h.nodup_iff.mpr (onceT_nodup _ _ .nil)
 have pm:m.Perm ((hueL l).map fun c=>tx [c]):=perm_of_sub _ m nd (fun x hx=>(mem x).mpr hx) (sub_len mnd fun x hx=>(mem x).mp hx)
 refine srt_same pm ?_ fun a ha b hb h1 h2 => ?_
 ·refine List.Pairwise.map (R:=fun a b=>a ∈ [97,98,99,100]/\b ∈ [97,98,99,100]/\a<=b) _ (fun a b hab=>by rw [hue_le a hab.1 b hab.2.1];exact decide_eq_true hab.2.2) ?_
  exact(show [97,98,99,100].Pairwise fun a b=>a ∈ [97,98,99,100]/\b ∈ [97,98,99,100]/\a<=b by decide).sublist List.filter_sublist
 ·obtain⟨c,hc,rfl⟩:=List.mem_map.mp ha
  obtain⟨d,hd,rfl⟩:=List.mem_map.mp hb
  rw [hue_le c (lo c hc) d (lo d hd)]at h1
  rw [hue_le d (lo d hd) c (lo c hc)]at h2
  have:c=d:=by have:=of_decide_eq_true h1;have:=of_decide_eq_true h2;omega
  rw [this]
end
section
section
variable {P:Program} {w:World} {A:Around} {E:Value->Shared->Prop} {s:Shared}
theorem signs_each{z:Str}{vs:List Value}(h:ItemsOf (PySem.SignAt z) vs.toArray z.cps.size):PySem.W.EachIs (fun v b =>∃t,v=Value.str b t) vs (sgsT z):=by
 have hl:vs.length=(sgsT z).length:=by
  unfold sgsT
  have:=h.1
  rw [List.length_map,Array.length_toList]
  simpa using this
 have go:∀(vs:List Value) (bs:List Str),vs.length=bs.length->(∀(i:Nat) (v:Value) (b:Str),vs[i]? =some v->bs[i]? =some b ->∃t,v=Value.str b t)->PySem.W.EachIs (fun v b =>∃t,v=Value.str b t) vs bs:=by
  intro vs
  induction vs with
  | nil=>intro bs h _;cases bs with
   | nil=>exact .nil
   | cons _ _=>cases h
  | cons v vs ih =>
   intro bs h k
   cases bs with
   | nil=>cases h
   | cons b bs=>exact .cons (k 0 v b rfl rfl) (ih bs (by simpa using h) fun i u c e1 e2=>k (i+1) u c e1 e2)
 refine go vs _ hl fun i v b e1 e2 => ?_
 obtain⟨c,t,hc,rfl⟩:=h.2 i v (by simpa using e1)
 unfold sgsT at e2
 rw [List.getElem?_map,Array.getElem?_toList,hc]at e2
 cases e2
 exact⟨t,rfl⟩
theorem sorted_signs{z:Str}{tz:Tok}{Q:Value->Shared->Prop}(hh:A.handled=none)(hl:z.length<=1000)(hu:A.units+8<cLine)
  (hQ:∀s' p (out:Array Value) (c:Nat),(∀b o,s.heap.get? b=some o->s'.heap.get? b=some o)->s'.gens=s.gens->s'.os=s.os->s.heap.get? p=none ->
   s'.heap.get? p=some (seqObj "list" out c)->Vals ((srtT (sgsT z)).map V.str) out.toList->Q (.ref p) s') :
  wpAny (model P w) A (call (.builtin "sorted") [.str z tz]) Q E s:=by
 refine Calls.call_function_entry kind_sorted plain_sorted entry_sorted (args_sorted1 _) ?_
 unfold Builtin.«sorted»
 refine wpAny_bind (m:=checkCount "sorted" 1 1 _) (wpAny_pure ?_)
 refine wpAny_bind (wpAny_collect_str (A:=A.in1) hh z tz (fun s1 acc k1 g1 d1 o1 hI => ?_) (by rw [sizeLine_eq];show z.length<=_;omega))
 have eb:PySem.W.EachIs (fun v b =>∃t,v=Value.str b t) acc.toList (sgsT z):=signs_each (by simpa using hI)
 have bl:(sgsT z).length<=1000:=by
  unfold sgsT
  rw [List.length_map,Array.length_toList]
  exact hl
 have hvl:acc.toList.length<=1000:=by rw [eb.length];exact bl
 refine wpAny_bind (wpAny_newList ?_ (by rw [sizeLine_eq];omega))
 have hoL:(s1.heap.push (seqObj "list" acc.toList.toArray 0)).get? s1.heap.objs.size=some (seqObj "list" acc.toList.toArray 0):=Heap.get?_push_size _ rfl
 refine wpAny_bind (wpAny_holding (PySem.W.list_sort_data (enc:=PyData.str) hoL eb ?_ ?_ ?_ (by rw [sizeLine_eq];omega) (fun b hb => ?_) fun out h1 h2 => ?_))
 ·exact eb.mono fun v b ⟨t,e⟩=>⟨[],by rw [e];exact .str _ _,by simp⟩
 ·intro d hd d' hd'
  obtain⟨x,_,rfl⟩:=List.mem_map.mp hd
  obtain⟨y,_,rfl⟩:=List.mem_map.mp hd'
  rfl
 ·exact PySem.W.Sortable.others fun b=>⟨(fun y=>by cases y),fun xs y=>by cases y⟩
 ·show A.units+1+1+PyData.depth (.str b)<cLine
  have:PyData.depth (.str b)=0:=rfl
  omega
 ·obtain⟨c,hc⟩:=sortedHeap_at (vs:=acc.toList) (out:=out.toArray) hoL
  refine wpAny_pure ⟨_,rfl,hQ _ s1.heap.objs.size out.toArray c (fun b u e => ?_) g1 o1 ?_ hc (by rw [List.toList_toArray];exact each_vals2 h2)⟩
  ·have q:=k1 b u e
   have hlt:=Heap.lt_size q
   show (sortedHeap (s1.heap.push (seqObj "list" acc.toList.toArray 0)) s1.heap.objs.size acc.toList out.toArray).get? b=some u
   rw [sortedHeap_old (Nat.ne_of_lt hlt) (by rw [size_push'];exact Nat.lt_succ_of_lt hlt)]
   exact Heap.get?_push_of_some _ q
  ·cases e:s.heap.get? s1.heap.objs.size with
   | none=>rfl
   | some u=>exact absurd (Heap.lt_size (k1 _ u e)) (Nat.lt_irrefl _)
end
def rSortSg:List V->Hp->VK->Prop:=fun xs H Q =>∃z:Str,xs = [.str z]/\z.length<=1000 /\∀p,H p=none->Q (.ref p) (upd H p (.lst ((srtT (sgsT z)).map V.str)))
section
variable {X:Cx}
theorem cr_sortSg{k:Nat}(hr:RoomG k X.A)(hc:X.calm=true):CallR X (.builtin "sorted") rSortSg:=by
 intro pins s σ H xs us Q I r h
 obtain⟨z,rfl,hl,q⟩:=h
 obtain⟨u,rfl,rx⟩:=vals1 r
 obtain⟨t,rfl⟩:=rx
 have hu:=hr.u64
 refine sorted_signs (I.ok.hd hc) hl (by omega) fun s' p out c k1 g1 o1 hz hp hv => ?_
 have hn:H p=none:=I.hok.gone hz
 have hlen:((srtT (sgsT z)).map V.str).length<=sizeLine:=by
  unfold srtT sgsT
  rw [List.length_map,(List.mergeSort_perm _ _).length_eq,List.length_map,Array.length_toList,sizeLine_eq]
  have hl:z.cps.size<=1000:=hl
  omega
 have J:Inv X pins σ (upd H p (.lst ((srtT (sgsT z)).map V.str))) { s with heap:=s'.heap,gens:=s'.gens,drawn:=s'.drawn,toks:=s'.toks } :=
  I.call (ch :=[]) (Un.laidN k1 hz hn) (I.hok.laidN k1 hn ⟨hlen,out.toList,c,hv,by simpa using hp⟩) (by rw [g1];exact I.bare) (fun _ y=>nomatch y)
 have e:s'={ s with heap:=s'.heap,gens:=s'.gens,drawn:=s'.drawn,toks:=s'.toks }:=by
  cases s'
  cases s
  cases o1
  rfl
 rw [e]
 exact⟨.ref p,_,J,rfl,q p hn⟩
end
def fSortSg:List PyData->(List PyData->Prop)->Prop
 | [.str z],k=>z.length<=1000/\k ((srtT (sgsT z)).map .str)
 | _,_=>False
theorem sim_sortSg:SimCo rSortSg fSortSg:=by
 intro F H xs ds P Q ex r h q
 match ds,r,h with
 | [.str z],r,h =>
  obtain⟨v,rfl,r1⟩:=rps1 r
  cases r1
  exact⟨z,rfl,h.1,fun p hp=>q _ _ _ hp (strs_vals _) h.2⟩
theorem f_sortSg(z:Str)(k:List PyData->Prop):fSortSg [.str z] k=(z.length<=1000/\k ((srtT (sgsT z)).map .str)):=rfl
theorem hue_sg{l:List Nat}(hl:∀c∈l,Lo c)(nd:l.Nodup):srtT (sgsT (tx l))=(hueL l).map fun c=>tx [c]:=by
 rw [sgsT_tx]
 refine hue_srt hl ?_
 have nd2:(l.map fun c=>tx [c]).Nodup:=List.Pairwise.map (R:=fun a b=>a≠b) _ (fun a b hab e=>hab (txs1_inj e)) nd
 refine(perm_of_sub _ (l.map fun c=>tx [c]) (onceT_nodup _ _ .nil) (fun x hx => ?_) ?_)
 ·rw [onceT_mem]at hx
  rcases hx with z | z
  ·cases z
  ·exact z
 ·exact sub_len nd2 fun x hx=>by rw [onceT_mem];exact .inr hx
theorem hue_mem{l:List Nat}{c:Nat}:c∈hueL l↔Lo c/\c∈l:=by
 unfold hueL
 rw [List.mem_filter,decide_eq_true_eq]
theorem hue_nodup(l:List Nat):(hueL l).Nodup:=(show [97,98,99,100].Nodup by decide).filter _
theorem hue_len(l:List Nat):(hueL l).length<=4:=List.length_filter_le _ _
end
section
section
variable {cs:List Cd} {N:Nat}
def fin(cs:List Cd)(c:Nat):List Nat:=(cs.filter fun e=>decide (e.c=c)).map (·.q)
def pgI(p:Nat):PyData := .int (p:Nat)
theorem sortD_pg(l:List Nat):sortD (l.map pgI)=(l.mergeSort fun a b=>decide ((a:Int)<=b)).map pgI:=by
 unfold sortD
 have:=List.map_mergeSort (r:=fun a b:Nat=>decide ((a:Int)<=b)) (s:=PySem.W.dataLe false id) (f:=pgI) (l:=l) fun a _ b _=>by
  have:=congrFun (congrFun (PySem.W.dataLe_int fun n:Nat=>(n:Int)) a) b
  exact this.symm
 exact this.symm
theorem srt_range{l:List Nat}:sortD (l.map pgI)=(List.range N).map pgI↔l.Perm (List.range N):=by
 have inj:∀a b:Nat,pgI a=pgI b->a=b:=fun a b h=>by
  have:((a:Nat):Int)=b:=by injection h
  omega
 rw [sortD_pg]
 constructor
 ·intro h
  have:=List.map_inj_right (fun a b=>inj a b) |>.mp h
  rw [<- this]
  exact(List.mergeSort_perm _ _).symm
 ·intro h
  congr 1
  have p:(l.mergeSort fun a b=>decide ((a:Int)<=b)).Perm (List.range N):=(List.mergeSort_perm _ _).trans h
  refine p.eq_of_pairwise (le:=fun a b:Nat=>a<=b) (fun a b _ _ h k=>Nat.le_antisymm h k) ?_ (List.pairwise_lt_range.imp fun h=>Nat.le_of_lt h)
  refine(List.pairwise_mergeSort (le:=fun a b:Nat=>decide ((a:Int)<=b)) (fun a b c h k => ?_) (fun a b => ?_) l).imp fun h => ?_
  ·have h:=of_decide_eq_true h
   have k:=of_decide_eq_true k
   exact decide_eq_true (by omega)
  ·rw [Bool.or_eq_true]
   rcases Nat.le_total a b with z | z
   ·exact .inl (decide_eq_true (by omega))
   ·exact .inr (decide_eq_true (by omega))
  ·have:=of_decide_eq_true h
   omega
def srtN(l:List Nat):List Nat:=l.mergeSort fun a b=>decide ((a:Int)<=b)
theorem sortD_N(l:List Nat):sortD (l.map pgI)=(srtN l).map pgI:=sortD_pg l
theorem srtN_range{l:List Nat}:srtN l=List.range N↔l.Perm (List.range N):=by
 rw [<- srt_range,sortD_N]
 refine⟨fun h=>by rw [h],fun h=>List.map_inj_right (fun a b h => ?_) |>.mp h⟩
 have:((a:Nat):Int)=b:=by injection h
 omega
end
def OfH(H:List Nat)(l:List Nat):Prop :=∀s∈l,∃c∈H,s=c∨s=Cf.inv c
theorem OfH.binv{H l:List Nat}(lo:∀c∈H,Lo c)(h:OfH H l):OfH H (Cf.binv l):=fun s hs=>by
 unfold Cf.binv at hs
 obtain⟨y,hy,rfl⟩:=List.mem_map.mp hs
 obtain⟨c,hc,z⟩:=h y (List.mem_reverse.mp hy)
 refine⟨c,hc, ?_⟩
 rcases z with rfl | rfl
 ·exact .inr rfl
 ·exact .inl (inv_inv (lo c hc).lt)
theorem OfH.app{H a b:List Nat}(h:OfH H a)(k:OfH H b):OfH H (a++b):=fun s hs=>(List.mem_append.mp hs).elim (h s) (k s)
theorem OfH.lts{H l:List Nat}(lo:∀c∈H,Lo c)(h:OfH H l):Lts l:=fun s hs=>by
 obtain⟨c,hc,z⟩:=h s hs
 rcases z with z | z
 ·rw [z];exact(lo c hc).lt
 ·rw [z];exact inv_lt (lo c hc).lt
end
section
def zf(e:Cd):Cd:=⟨e.p,e.c,e.q,[]⟩
def freeOf(cs:List Cd):Bool:=(List.range cs.length).all fun i=>(List.range i).all fun j=>match cs[i]?,cs[j]? with
 | some a,some b => !(decide (b.c=a.c))||(!(decide (b.p=a.p)) && !(decide (b.q=a.q)))
 | _,_=>true
theorem freeOf_nc{cs:List Cd}(h:freeOf (cs.map zf)=true):NoCl cs:=by
 refine List.pairwise_iff_getElem.mpr fun j i hj hi lt ec => ?_
 have h1:=List.all_eq_true.mp (List.all_eq_true.mp h i (List.mem_range.mpr (by rw [List.length_map];exact hi))) j (List.mem_range.mpr lt)
 rw [List.getElem?_map,List.getElem?_map,List.getElem?_eq_getElem hi,List.getElem?_eq_getElem hj]at h1
 simp only [Option.map,zf,Bool.or_eq_true,Bool.and_eq_true,Bool.not_eq_true',decide_eq_false_iff_not]at h1
 rcases h1 with z | z
 ·exact absurd ec z
 ·exact z
def cnt(x:Nat):List Nat->Int
 | []=>0
 | s::l=>(if s=x then 1 else if s=Cf.inv x then -1 else 0)+cnt x l
theorem cnt_app(x:Nat):∀l m:List Nat,cnt x (l++m)=cnt x l+cnt x m
 | [],m=>by rw [List.nil_append,cnt];omega
 | s::l,m=>by rw [List.cons_append,cnt,cnt,cnt_app x l m];omega
def wgt(x s:Nat):Int:=if s=x then 1 else if s=Cf.inv x then -1 else 0
theorem cnt_one(x s:Nat)(l:List Nat):cnt x (s::l)=wgt x s+cnt x l:=rfl
theorem wgt_inv{x c:Nat}(hx:Lt x)(hc:Lt c):wgt x (Cf.inv c) = -wgt x c:=by
 have:∀x ∈ [97,98,99,100,65,66,67,68],∀c ∈ [97,98,99,100,65,66,67,68],wgt x (Cf.inv c) = -wgt x c:=by decide +kernel
 exact this x hx c hc
theorem cnt_rev(x:Nat):∀l:List Nat,cnt x l.reverse=cnt x l
 | []=>rfl
 | s::l=>by rw [List.reverse_cons,cnt_app,cnt_rev x l,cnt_one,cnt_one,cnt];omega
theorem cnt_binv{x:Nat}(hx:Lt x):∀{l:List Nat},Lts l->cnt x (Cf.binv l) = -cnt x l
 | [],_=>rfl
 | s::l,h=>by
  have ih:=cnt_binv hx (l:=l) fun c hc=>h c (.tail _ hc)
  unfold Cf.binv at *
  rw [List.reverse_cons,List.map_append,cnt_app,ih,List.map_cons,List.map_nil,cnt_one,cnt_one,wgt_inv hx (h s (.head _)),cnt]
  omega
theorem cnt_push{x c:Nat}(hx:Lt x)(hc:Lt c):∀t:List Nat,cnt x (push t c)=wgt x c+cnt x t
 | []=>rfl
 | d::t=>by
  by_cases h:d=Cf.inv c
  ·rw [push_y h,h,cnt_one,wgt_inv hx hc];omega
  ·rw [push_n h];rfl
theorem cnt_run{x:Nat}(hx:Lt x):∀(l t:List Nat),Lts l->cnt x (run t l)=cnt x t+cnt x l
 | [],t,_=>by show cnt x t=cnt x t+0;omega
 | c::l,t,h=>by
  show cnt x (run (push t c) l)=_
  rw [cnt_run hx l _ fun z hz=>h z (.tail _ hz),cnt_push hx (h c (.head _)),cnt_one]
  omega
theorem cnt_red{x:Nat}(hx:Lt x){l:List Nat}(h:Lts l):cnt x (red l)=cnt x l:=by
 unfold red
 rw [cnt_rev,cnt_run hx l [] h]
 show 0+_=_
 omega
def CntG(x:Nat)(a b m:Int)(l:List Nat)(d:Vc):Prop :=∃k:Int,a*cnt x l+b*d 0=m*k
theorem CntG.grp{x:Nat}(hx:Lt x)(a b m:Int):Grp (CntG x a b m) where
 one:=⟨0,by show a*0+b*0=m*0;omega⟩
 mul:=fun {l m' d e} _ _ h k=>by
  obtain⟨i,hi⟩:=h
  obtain⟨j,hj⟩:=k
  refine⟨i+j, ?_⟩
  rw [cnt_app]
  simp only [Int.mul_add]at *
  omega
 back:=fun {l d} hl h=>by
  obtain⟨i,hi⟩:=h
  refine⟨-i, ?_⟩
  rw [cnt_binv hx hl]
  simp only [Int.mul_neg]at *
  omega
 und2:=fun {l m' d} hl hm e h=>by
  obtain⟨i,hi⟩:=h
  refine⟨i, ?_⟩
  rw [<- cnt_red hx hm,<- e,cnt_red hx hl]
  exact hi
end
section
theorem vec1(a:Int)(i:Nat):vec [a] i=if i=0 then a else 0:=by cases i <;> rfl
theorem lts1{x:Nat}(h:Lt x):Lts [x]:=fun z hz=>by rw [List.mem_singleton.mp hz];exact h
end
section
def othL(ls:Lps)(k:Nat):Lps:=ls.take k++ls.drop (k+1)
def ClO(ls:Lps)(k:Nat):Prop:=Lng (flwC 1 (othL ls k) 1) (flwW (othL ls k)) (ls.getD k ([],[])).1 (vec (ls.getD k ([],[])).2)
section
variable {x:Nat} (hx:Lo x) {ls:Lps}
include hx
theorem gr1(ol:∀lp∈ls,Lts lp.1):Grp (Lng (flwC 1 ls 1) (flwW ls)):=Lng.grp (w0:=flwW ls) (flw_lo 1 ls 1 ol)
theorem not_cnt(a b m:Int){l:List Nat}{p:List Int}(ol:∀lp∈ls,Lts lp.1/\CntG x a b m lp.1 (vec lp.2))(hl:Lts l)(no:∀k:Int,a*cnt x l+b*vec p 0≠m*k):¬Lng (flwC 1 ls 1) (flwW ls) l (vec p):=fun h=>by
 obtain⟨k,hk⟩:=flw_min (CntG.grp (lo_lt hx) a b m) ol hl h
 exact no k hk
end
theorem cnt1(x:Nat):cnt x [x]=1:=by simp [cnt]
theorem cnt2(x:Nat):cnt x [x,x]=2:=by simp [cnt]
theorem cnt3(x:Nat):cnt x [x,x,x]=3:=by simp [cnt]
section
variable {x:Nat} (hx:Lo x) (n:Int)
include hx
theorem lts_x:Lts [x]/\Lts [x,x]/\Lts [x,x,x]:=by
 have l1:=lts1 (lo_lt hx)
 exact⟨l1,l1.app l1,l1.app (l1.app l1)⟩
theorem nd2:∀k,k<3->(decide (k=2)=true↔ClO [([x],[1]),([x,x],[3]),([x,x,x],[3])] k):=fun k hk=>by
 obtain⟨l1,l2,l3⟩:=lts_x hx
 have:k=0∨k=1∨k=2:=by omega
 rcases this with rfl | rfl | rfl
 ·refine iff_of_false (by decide) (not_cnt hx (ls :=[([x,x],[3]),([x,x,x],[3])]) 0 1 3 (fun lp h => ?_) l1 fun k h => ?_)
  ·simp only [List.mem_cons,List.not_mem_nil,or_false]at h
   rcases h with rfl | rfl
   ·exact⟨l2,1,by rw [cnt2];rfl⟩
   ·exact⟨l3,1,by rw [cnt3];rfl⟩
  ·have h:0*cnt x [x]+1*(1:Int)=3*k:=h
   omega
 ·refine iff_of_false (by decide) (not_cnt hx (ls :=[([x],[1]),([x,x,x],[3])]) (-1) 1 0 (fun lp h => ?_) l2 fun k h => ?_)
  ·simp only [List.mem_cons,List.not_mem_nil,or_false]at h
   rcases h with rfl | rfl
   ·exact⟨l1,1,by rw [cnt1];rfl⟩
   ·exact⟨l3,1,by rw [cnt3];rfl⟩
  ·have h : -1*cnt x [x,x]+1*(3:Int)=0*k:=h
   rw [cnt2]at h
   omega
 ·refine iff_of_true (by decide) ?_
  show Lng (flwC 1 [([x],[1]),([x,x],[3])] 1) (flwW [([x],[1]),([x,x],[3])]) [x,x,x] (vec [3])
  have gr:=gr1 hx (ls :=[([x],[1]),([x,x],[3])]) fun lp h=>by
   simp only [List.mem_cons,List.not_mem_nil,or_false]at h
   rcases h with rfl | rfl <;> assumption
  have g1:=flw_gen (n:=1) (ls :=[([x],[1]),([x,x],[3])]) (lp:=([x],[1])) (.head _) l1
  exact gcast (gr.mul l1 l2 g1 (gr.mul l1 l1 g1 g1)) fun i=>by(try dsimp only);rw [vec1,vec1];split <;> omega
end
end
section
abbrev Rows2:=List (Nat×Bool)
section
variable {ls:Lps}
variable {G:List Nat->Vc->Prop} (gr:Grp G)
include gr
omit gr
end
end
section
def shapesC:List (Nat×List Nat) :=[(0,[0]),(1,[1]),(1,[0,1]),(2,[2]),(2,[0,2]),(2,[1,2]),(2,[0,1,2]),(3,[3]),(3,[0,3]),(3,[1,3]),(3,[2,3]),(3,[0,1,3]),(3,[0,2,3]),(3,[1,2,3]),(3,[0,1,2,3])]
section
variable {n h0 h1 h2 L last:Nat} {rs:List (Nat×List Int)}
structure CombOk(h0 h1 h2 L last:Nat)(rs:List (Nat×List Int)):Prop where
 l0:Lo h0
 l1:Lo h1
 l2:Lo h2
 n01:h0≠h1
 n02:h0≠h2
 n12:h1≠h2
 hL:L<=2
 sh:(last,rs.map (·.1))∈shapesC
section
variable {Z:Nat} {F:List (List Int)} (h:CombOk h0 h1 h2 L last rs) (hF:FmL n n Z F) (fl:∀r∈rs,r.2.length=n) (fd:∀r∈rs,downL r.2 F=r.2)
include h hF fl fd
end
end
end
section
section
variable {n N B:Nat} {c0:List Cd} {w0:List (List Int)} {cs:List Cd} {F:List (List Int)}
def tl1(cs:List Cd)(N:Nat)(e:Cd)(b:Bool):Rows2:=(tellN cs N (e.p,e.c)).toList.map fun i=>(i,b)
def T1(cs:List Cd)(N p s q:Nat)(a:Rows2):Prop :=∃e∈cs,(s=e.c/\p=e.p/\q=e.q/\a=tl1 cs N e true)∨(s=Cf.inv e.c/\p=e.q/\q=e.p/\a=tl1 cs N e false)
variable {p q r s m:Nat} {l k:List Nat} {a b:Rows2}
end
end
section
def mergeD(ds more:List (Key×PyData)):List (Key×PyData):=more.foldl (fun acc p=>putD acc p.1 p.2) ds
theorem rpks_merge{F:Hp}:∀{ys:List (Key×V)} {es:List (Key×PyData)},RpKs F ys es ->∀{xs:List (Key×V)} {ds:List (Key×PyData)},RpKs F xs ds->RpKs F (mergeK xs ys) (mergeD ds es)
 | _,_,.nil,_,_,h=>h
 | _,_,@Paired.cons _ _ _ p q _ _ z t,xs,ds,h=>by
  have:=rpks_put (k:=q.1) z.2 h
  have h2:=rpks_merge t this
  show RpKs F (mergeK (putK xs p.1 p.2) _) _
  rw [z.1]
  exact h2
theorem each_ofInts:∀{us:List Value} {ks:List Int},IntsAre us ks->PySem.W.EachIs (fun v b =>∃t,v=Value.int b t) us ks
 | _,_,.nil => .nil
 | _,_,.cons _ _ h => .cons ⟨_,rfl⟩ (each_ofInts h)
theorem vals_ofEach{us:List Value}{ks:List Int}(h:PySem.W.EachIs (fun v b =>∃t,v=Value.int b t) us ks):Vals (ks.map V.int) us:=by
 induction h with
 | nil=>exact .nil
 | cons h1 _ ih=>exact .cons h1 ih
end
section
def hgs(r:Rr):Bool:=decide (r.w=wBack)||decide (r.w=wBoth)
def hks(r:Rr):List Nat:=if hgs r=true then r.ks else []
end
section
structure Tn where
 c:Nat
 r:List Nat
 f:List Int
structure TnOk(m:Nat)(t:Tn):Prop where
 lo:Lo t.c
 rl:t.r.length=m
 fl:t.f.length=m
 nd:t.r.Nodup
 lt:∀y∈t.r,y<m
def lowN(s:Nat):Nat:=if 97<=s then s else Cf.inv s
theorem lowN_lo:∀{s:Nat},Lt s->Lo (lowN s):=by
 have:∀c ∈ [97,98,99,100,65,66,67,68],lowN c ∈ [97,98,99,100]:=by decide
 exact fun {c} h=>this c h
def forthT(t:Tn)(x:Nat):Nat×Int:=(t.r.getD x 0,t.f.getD x 0)
def backT(t:Tn)(x:Nat):Nat×Int:=(t.r.idxOf x,-t.f.getD (t.r.idxOf x) 0)
def oneT(t:Tn)(s x:Nat):Nat×Int:=if 97<=s then forthT t x else backT t x
def turnAt(ts:List Tn)(s:Nat):Option Tn:=ts.find? fun t=>decide (t.c=lowN s)
def stepT(ts:List Tn)(s x:Nat):Nat×Int:=match turnAt ts s with
 | none=>(x,0)
 | some t=>oneT t s x
def dncL(ts:List Tn):List Nat->Nat->Int->Nat×Int
 | [],x,p=>(x,p)
 | s::l,x,p=>dncL ts l (stepT ts s x).1 (p+(stepT ts s x).2)
theorem dnc_app(ts:List Tn):∀(a b:List Nat) (x:Nat) (p:Int),dncL ts (a++b) x p=dncL ts b (dncL ts a x p).1 (dncL ts a x p).2
 | [],_,_,_=>rfl
 | s::a,b,x,p=>dnc_app ts a b _ _
theorem TnOk.mem{m:Nat}{t:Tn}(h:TnOk m t){x:Nat}(hx:x<m):x∈t.r :=
 (perm_of_sub t.r (List.range m) h.nd (fun y hy=>List.mem_range.mpr (h.lt y hy)) (by rw [List.length_range,h.rl];exact Nat.le_refl _)).mem_iff.mp (List.mem_range.mpr hx)
theorem TnOk.perm{m:Nat}{t:Tn}(h:TnOk m t):(List.range m).Perm t.r :=
 perm_of_sub t.r (List.range m) h.nd (fun y hy=>List.mem_range.mpr (h.lt y hy)) (by rw [List.length_range,h.rl];exact Nat.le_refl _)
theorem TnOk.idx{m:Nat}{t:Tn}(h:TnOk m t){x:Nat}(hx:x<m):t.r.idxOf x<m/\t.r.getD (t.r.idxOf x) 0=x:=by
 have k:=List.idxOf_lt_length_iff.mpr (h.mem hx)
 refine⟨by rw [<- h.rl];exact k, ?_⟩
 rw [List.getD_eq_getElem?_getD,List.getElem?_eq_getElem k]
 exact List.getElem_idxOf k
theorem TnOk.at{m:Nat}{t:Tn}(h:TnOk m t){x:Nat}(hx:x<m):t.r.getD x 0<m/\t.r.idxOf (t.r.getD x 0)=x:=by
 have k:x<t.r.length:=by rw [h.rl];exact hx
 rw [List.getD_eq_getElem?_getD,List.getElem?_eq_getElem k]
 exact⟨h.lt _ (List.getElem_mem k),h.nd.idxOf_getElem x k⟩
theorem one_lt{m:Nat}{t:Tn}(h:TnOk m t){s x:Nat}(hx:x<m):(oneT t s x).1<m:=by
 unfold oneT
 split
 ·exact(h.at hx).1
 ·exact(h.idx hx).1
def DnOk(m:Nat)(ts:List Tn):Prop :=∀t∈ts,TnOk m t
theorem step_lt{m:Nat}{ts:List Tn}(h:DnOk m ts){s x:Nat}(hx:x<m):(stepT ts s x).1<m:=by
 unfold stepT
 split
 ·exact hx
 ·rename_i t e
  exact one_lt (h t (List.mem_of_find?_eq_some e)) hx
theorem dnc_lt{m:Nat}{ts:List Tn}(h:DnOk m ts):∀(l:List Nat) (x:Nat) (p:Int),x<m->(dncL ts l x p).1<m
 | [],_,_,hx=>hx
 | s::l,x,p,hx=>dnc_lt h l _ _ (step_lt h hx)
structure Flr(n:Nat)(fs:List Cd)(S:Nat):Prop where
 lo:∀e∈fs,Lo e.c
 fl:∀e∈fs,e.f.length=n
 nc:NoCl fs
 pg:∀e∈fs,e.p<S/\e.q<S
section
variable {n:Nat} {fs:List Cd} {S:Nat} (F:Flr n fs S)
include F
end
end
end Cf
namespace Cf
open PySem PySem.Spec PyProof.Rows L2 PpSet PySem.Froz
section
variable {prog:Program} {w:World} {A:Around} {R:Result->Shared->Prop} {s:Shared} {ex y0 z0 y1 z1:Expr} {if0 if1:List Expr} {sc:Scope} {po:Pos} {it acc:Value} {env:Env}
theorem turnS_out(ex y0 z0 y1 z1:Expr)(if0 if1:List Expr)(sc:Scope)(po:Pos)(it acc:Value)(env:Env) :
  compTurn (.SetComp ex [⟨y0,z0,if0,0⟩,⟨y1,z1,if1,0⟩] sc po) 0 it acc env=(do
   standAt z0.pos
   match <- pyNext it with
   | none=>pure (.done .next)
   | some v =>
    letOwnedTupleGo y0 it v
    assign y0 env v
    let mut ok:=true
    for c in if0 do
     if ok then ok <- isTrue c env (eval c env)
    if ok then
     let x <- eval z1 env
     standAt z1.pos
     let x <- foldedSetIterable z1 env x
     let _ <- runOwn (.compStart (.SetComp ex [⟨y0,z0,if0,0⟩,⟨y1,z1,if1,0⟩] sc po) 1 (<- holding [x] (pyIter x)) acc env) env
    again (.compLoop (.SetComp ex [⟨y0,z0,if0,0⟩,⟨y1,z1,if1,0⟩] sc po) 0 it acc env)):=by rfl
theorem turnS_in(ex y0 z0 y1 z1:Expr)(if0 if1:List Expr)(sc:Scope)(po:Pos)(it acc:Value)(env:Env) :
  compTurn (.SetComp ex [⟨y0,z0,if0,0⟩,⟨y1,z1,if1,0⟩] sc po) 1 it acc env=(do
   standAt z1.pos
   match <- pyNext it with
   | none=>pure (.done .next)
   | some v =>
    letOwnedTupleGo y1 it v
    assign y1 env v
    let mut ok:=true
    for c in if1 do
     if ok then ok <- isTrue c env (eval c env)
    if ok then
     (do let v <- eval ex env;standAt ex.pos;let _ <- call (.builtin "set.add") [acc,v])
    again (.compLoop (.SetComp ex [⟨y0,z0,if0,0⟩,⟨y1,z1,if1,0⟩] sc po) 1 it acc env)):=by rfl
theorem loopS_out(hs:∀x,foldedSetIterable z1 env x=pure x)(J:Nat->Shared->Prop)
  (tn:∀n s,J n s->wpAny (model prog w) A (pyNext it) (fun r sa=>match r with
   | none=>R (.ok .next) sa
   | some v=>wpAny (model prog w) A (letOwnedTupleGo y0 it v) (fun _ sb=>wpAny (model prog w) A (assign y0 env v) (fun _ sc2 =>
     wpAny (model prog w) A (forIn if0 true fun c r=>if r=true then do let ok <- isTrue c env (eval c env);pure (ForInStep.yield ok)else pure (ForInStep.yield r)) (fun ok sd =>
      if ok=true then wpAny (model prog w) A (eval z1 env) (fun x se=>wpAny (model prog w) A (pyIter x) (fun i1 sf =>
       codeAny (model prog w) A (.compStart (.SetComp ex [⟨y0,z0,if0,0⟩,⟨y1,z1,if1,0⟩] sc po) 1 i1 acc env) (fun r sg=>match r with
        | .ok _ =>∃m,m<n/\J m sg
        | .error _=>False) sf) (notedBy (model prog w) A env fun e sg=>R (.error e) sg) se) (notedBy (model prog w) A env fun e sg=>R (.error e) sg) sd
      else ∃m,m<n/\J m sd) (notedBy (model prog w) A env fun e sg=>R (.error e) sg) sc2) (notedBy (model prog w) A env fun e sg=>R (.error e) sg) sb) (notedBy (model prog w) A env fun e sg=>R (.error e) sg) sa) (notedBy (model prog w) A env fun e sg=>R (.error e) sg) s)
  (n:Nat) (h:J n s):codeAny (model prog w) A (.compLoop (.SetComp ex [⟨y0,z0,if0,0⟩,⟨y1,z1,if1,0⟩] sc po) 0 it acc env) R s:=by
 refine codeAny_loop rfl J (fun n s hJ => ?_) n h
 show wpAny _ A ((compTurn (.SetComp ex [⟨y0,z0,if0,0⟩,⟨y1,z1,if1,0⟩] sc po) 0 it acc env).onRaise (fun x=>do noteFrame x env;theTreesLotGoes x)) _ _ s
 refine wpAny_noted ?_
 rw [turnS_out]
 refine wpAny_bind (wpAny_standAt (wpAny_bind (wpAny_mono (tn n s hJ) (fun r sa ha => ?_) fun _ _ q=>q)))
 cases r with
 | none=>exact wpAny_pure ha
 | some v =>
  refine wpAny_bind (wpAny_mono ha (fun _ sb hb=>wpAny_bind (wpAny_mono hb (fun _ sc hc=>wpAny_bind (wpAny_mono hc (fun ok sd hd => ?_) fun _ _ q=>q)) fun _ _ q=>q)) fun _ _ q=>q)
  cases ok with
  | false=>exact wpAny_pure ⟨rfl,hd⟩
  | true =>
   refine wpAny_bind (wpAny_mono hd (fun x se he=>wpAny_bind (wpAny_standAt (wpAny_bind (wpAny_of_eq (hs x) (wpAny_bind (wpAny_holding (wpAny_mono he (fun i1 sf hf => ?_) fun _ _ q=>q))))))) fun _ _ q=>q)
   refine wpAny_bind (wpAny_runOwn ?_)
   rw [Around.mark_none]
   refine codeAny_mono hf fun r sg hr => ?_
   cases r with
   | ok f=>first | exact wpAny_pure ⟨rfl,hr⟩ | exact wpAny_bind (wpAny_pure (wpAny_pure ⟨rfl,hr⟩))
   | error e=>exact hr.elim
theorem loopS_in(J:Nat->Shared->Prop)
  (tn:∀n s,J n s->wpAny (model prog w) A (pyNext it) (fun r sa=>match r with
   | none=>R (.ok .next) sa
   | some v=>wpAny (model prog w) A (letOwnedTupleGo y1 it v) (fun _ sb=>wpAny (model prog w) A (assign y1 env v) (fun _ sc2 =>
     wpAny (model prog w) A (forIn if1 true fun c r=>if r=true then do let ok <- isTrue c env (eval c env);pure (ForInStep.yield ok)else pure (ForInStep.yield r)) (fun ok sd =>
      if ok=true then wpAny (model prog w) A (eval ex env) (fun x se =>
       wpAny (model prog w) A (call (.builtin "set.add") [acc,x]) (fun _ sf =>∃m,m<n/\J m sf) (notedBy (model prog w) A env fun e sg=>R (.error e) sg) se) (notedBy (model prog w) A env fun e sg=>R (.error e) sg) sd
      else ∃m,m<n/\J m sd) (notedBy (model prog w) A env fun e sg=>R (.error e) sg) sc2) (notedBy (model prog w) A env fun e sg=>R (.error e) sg) sb) (notedBy (model prog w) A env fun e sg=>R (.error e) sg) sa) (notedBy (model prog w) A env fun e sg=>R (.error e) sg) s)
  (n:Nat) (h:J n s):codeAny (model prog w) A (.compLoop (.SetComp ex [⟨y0,z0,if0,0⟩,⟨y1,z1,if1,0⟩] sc po) 1 it acc env) R s:=by
 refine codeAny_loop rfl J (fun n s hJ => ?_) n h
 show wpAny _ A ((compTurn (.SetComp ex [⟨y0,z0,if0,0⟩,⟨y1,z1,if1,0⟩] sc po) 1 it acc env).onRaise (fun x=>do noteFrame x env;theTreesLotGoes x)) _ _ s
 refine wpAny_noted ?_
 rw [turnS_in]
 refine wpAny_bind (wpAny_standAt (wpAny_bind (wpAny_mono (tn n s hJ) (fun r sa ha => ?_) fun _ _ q=>q)))
 cases r with
 | none=>exact wpAny_pure ha
 | some v =>
  refine wpAny_bind (wpAny_mono ha (fun _ sb hb=>wpAny_bind (wpAny_mono hb (fun _ sc hc=>wpAny_bind (wpAny_mono hc (fun ok sd hd => ?_) fun _ _ q=>q)) fun _ _ q=>q)) fun _ _ q=>q)
  cases ok with
  | false=>exact wpAny_pure ⟨rfl,hd⟩
  | true=>exact wpAny_bind (wpAny_bind (wpAny_mono hd (fun x se he=>wpAny_bind (wpAny_standAt (wpAny_bind (wpAny_mono he (fun _ sf hf=>wpAny_pure (wpAny_pure ⟨rfl,hf⟩)) fun _ _ q=>q)))) fun _ _ q=>q))
theorem startS_in(h0:codeAny (model prog w) A (.compLoop (.SetComp ex [⟨y0,z0,if0,0⟩,⟨y1,z1,if1,0⟩] sc po) 1 it acc env) R s)
  (h:wpAny (model prog w) A (pyIter it) (fun i2 sg=>codeAny (model prog w) A (.compLoop (.SetComp ex [⟨y0,z0,if0,0⟩,⟨y1,z1,if1,0⟩] sc po) 1 i2 acc env) R sg) (notedBy (model prog w) A env fun x sg=>R (.error x) sg) s) :
  codeAny (model prog w) A (.compStart (.SetComp ex [⟨y0,z0,if0,0⟩,⟨y1,z1,if1,0⟩] sc po) 1 it acc env) R s:=by
 refine codeAny_of_tree ?_
 show wpAny _ _ ((compStart (.SetComp ex [⟨y0,z0,if0,0⟩,⟨y1,z1,if1,0⟩] sc po) 1 it acc env).onRaise (fun x=>do noteFrame x env;standAt theWindowsPlace)) _ _ s
 refine wpAny_notedAt ?_
 unfold compStart
 show wpAny _ _ (ask >>=_) _ _ s
 refine wpAny_bind (wpAny_askSetting (wpAny_ite ?_))
 split
 ·first | exact wpAny_bind (wpAny_pure (wpAny_pure (And.intro rfl h0))) | exact wpAny_pure (And.intro rfl h0)
 ·first
   | exact wpAny_bind (wpAny_rule (wpAny_bind (wpAny_standAt (wpAny_bind (wpAny_mono h (fun i2 sg h2=>wpAny_pure (And.intro rfl h2)) fun _ _ x=>x)))))
   | (refine wpAny_bind (wpAny_rule ?_);show wpAny _ _ (standAt z1.pos >>=_) _ _ s;exact wpAny_bind (wpAny_standAt (wpAny_bind (wpAny_mono h (fun i2 sg h2=>wpAny_pure (And.intro rfl h2)) fun _ _ x=>x))))
end
section
variable {X:Cx} {pins:List (Addr×Obj)} {σ:L2.St} {H:Hp} {s:Shared} {E:Value->Shared->Prop}
theorem tx_add{D:Addr}{k:Str}{u:Tok}{l:List Str}{Q:Value->Shared->Prop}(I:Inv X pins σ H s)(hD:H D=some (txO X.prog X.w D l))(few:l.length+1<scanBound)
  (go:∀s',Inv X pins σ (upd H D (txO X.prog X.w D (if k∈l then l else k::l))) s'->Q .none s'):wpAny (model X.prog X.w) X.A (call (.builtin "set.add") [.ref D,.str k u]) Q E s:=by
 have R:=txO_get I hD
 obtain⟨d,ho,_⟩:=id R
 refine wpAny_call_entry F.slot_set_add ⟨_,ho,rfl⟩ F.entry_set_add ?_ (F.args_set_add_2 _ _)
 unfold Builtin.«set.add» Builtin.Frozenset.oneOther
 simp only [List.isEmpty_nil,bind_assoc]
 unfold Builtin.Frozenset.addrOf setAdd
 refine wpAny_bind (wpAny_pure ?_)
 try dsimp only
 refine wpAny_bind (wpAny_pure ?_)
 try dsimp only
 refine wpAny_bind (wpAny_holding (wpAny_bind ((strKind X.prog X.w).pyHash (k:=k) (is_str _ _) ?_)))
 refine wpAny_holding (txs_add (s:={ s with toks:=s.toks+1 }) R few fun b h' sb R' => ?_)
 refine wpAny_pure ⟨_,rfl,go _ ?_⟩
 obtain⟨d',ho',_⟩:=id R'
 exact I.write (e:=D) (t':=s.toks+1) (by rw [hD];trivial) (.inl rfl) (fun b u hb hu=>sb b u hb hu) ⟨_,ho'⟩ (txO_ok R')
end
end Cf
namespace Cf
open PySem PySem.Spec PyProof.Rows L2 PpSet PySem.Froz
section
variable {X:Cx}
def tTc(P:Program)(w:World)(wi:TI)(g:TG)(tt:TT)(wi1:TI)(g1:TG)(tt1:TT)(te:TE)(vs vs1:List Nat):TE:=fun σ H Q=>wi σ H fun J H1 =>∀D,H1 D=none ->∃V:Nat->Nat->Hp->Prop,(∃m,V 0 m (upd H1 D (txO P w D []))) /\∀i m G,V i m G ->
 (J.stop i G/\Q (.ref D) G)∨(J.go i G /\∃N:Hp->Prop,(∀G',N G' ->∃m',m'<m/\V (i+1) m' G') /\∀x G',J.yld i G x G'->g x (wipe σ vs) G' fun σ2 G2=>wipe σ2 vs=wipe σ vs/\tt σ2 G2 fun b G3 =>
  if b=true then wi1 σ2 G3 fun J1 G4 =>∃V1:Nat->Nat->Hp->Prop,(∃m,V1 0 m G4) /\∀j k G,V1 j k G ->
   (J1.stop j G/\N G)∨(J1.go j G /\∃N1:Hp->Prop,(∀G',N1 G' ->∃k',k'<k/\V1 (j+1) k' G') /\∀x G',J1.yld j G x G'->g1 x (wipe σ2 vs1) G' fun σ3 G5=>wipe σ3 vs1=wipe σ2 vs1/\tt1 σ3 G5 fun b G6 =>
    if b=true then te σ3 G6 fun y G7 =>∃(z:Str) (l:List Str),y = .str z/\G7 D=some (txO P w D l)/\l.length+1<scanBound/\N1 (upd G7 D (txO P w D (if z∈l then l else z::l)))else N1 G6)
  else N G3)
theorem tc_core{pins:List (Addr×Obj)}{s:Shared}{σ:L2.St}{H:Hp}{Q:VK}{ex tg iter tg1 iter1:Expr}{ifs ifs1:List Expr}{scope:Scope}{own:List (PySem.Str×Nat)}{vs1:List Nat}{pos pos':Pos}{wi wi1:TI}{g g1:TG}{tt tt1:TT}{te:TE}{use:Option (Value->Sem Unit)}{Qf:Value->Shared->Prop}
  (hc:X.calm=true) (hN:X.N.Nodup) (I:Inv X pins σ H s) (hi:PI X tg iter wi) (ok:BlkOk X.N X.env.scope scope own) (hv:∀i∈vs1,i∈own.map (·.2))
  (hg:∀(s:Shared) (H:Hp) (C:Addr) (cl:List (PySem.Str×Addr)) (fp:List Addr),PG (X.blk s H scope (compEnvC scope cl C X.env) fp) tg g) (ht:∀(s:Shared) (H:Hp) (C:Addr) (cl:List (PySem.Str×Addr)) (fp:List Addr),PTs (X.blk s H scope (compEnvC scope cl C X.env) fp) ifs tt)
  (he:∀(s:Shared) (H:Hp) (C:Addr) (cl:List (PySem.Str×Addr)) (fp:List Addr),PE (X.blk s H scope (compEnvC scope cl C X.env) fp) ex te) (hs:∀x,foldedSetIterable iter X.env x=pure x)
  (hi1:∀(s:Shared) (H:Hp) (C:Addr) (cl:List (PySem.Str×Addr)) (fp:List Addr),PI (X.blk s H scope (compEnvC scope cl C X.env) fp) tg1 iter1 wi1)
  (hg1:∀(s:Shared) (H:Hp) (C:Addr) (cl:List (PySem.Str×Addr)) (fp:List Addr),PG (X.blk s H scope (compEnvC scope cl C X.env) fp) tg1 g1) (ht1:∀(s:Shared) (H:Hp) (C:Addr) (cl:List (PySem.Str×Addr)) (fp:List Addr),PTs (X.blk s H scope (compEnvC scope cl C X.env) fp) ifs1 tt1)
  (hs1:∀env x,foldedSetIterable iter1 env x=pure x)
  (wish:tTc X.prog X.w wi g tt wi1 g1 tt1 te (own.map (·.2)) vs1 σ H Q)
  (fin:∀D C s' m H',Inv X pins σ H' s'->Q (.ref D) H'->s'.heap.Ns C m->FpOk X pins H' C->compPost (model X.prog X.w) X.A X.xe use Qf (.ref D) C (.ok .next) s') :
  wpAny (model X.prog X.w) X.A (comprehension (.SetComp ex [⟨tg,iter,ifs,0⟩,⟨tg1,iter1,ifs1,0⟩] scope pos) scope X.env pos' (newSet (.type "set")) false (eval iter X.env) use) Qf X.xe s:=by
 have free:∀y∈scope.names,y.2 = .free ->∃c,X.env.cells.lookup y.1=some c:=fun y hy e=>(ok.free y hy e).elim (fun k=>I.ok.has _ (.inl k)) fun k=>I.ok.has _ (.inr k)
 refine wpAny_comprehension_free (use:=use) rfl hs (closure_ok free) ok.kind (fun y hy e=>by rw [ok.uniq y hy,e]) (thn (hi.run pins s σ H _ I wish) fun _ _ one=>thn one fun _ t two => ?_)
 obtain⟨a,fp,tn,J,H2,rfl,I2,T,st2,f2,wish⟩:=two
 refine newSet_ok (newEnv_comp ?_)
 obtain⟨D,eD⟩:∃D,D=t.heap.objs.size:=⟨_,rfl⟩
 rw [<- eD]
 obtain⟨V,⟨m0,v0⟩,turn⟩:=wish D (I2.hok.fresh (Nat.le_of_eq eD.symm))
 obtain⟨t3,et3⟩:∃t3:Shared,t3={ t with heap:=t.heap.push { cls := .type "set",dict:=none,data := .set #[] 0 (.fresh 0 0 (!X.w.params.followText "set-order")) } }:=⟨_,rfl⟩
 have hp3:t3.heap=t.heap.push { cls := .type "set",dict:=none,data := .set #[] 0 (.fresh 0 0 (!X.w.params.followText "set-order")) }:=by rw [et3]
 rw [<- et3]
 have up3:∀b o,t.heap.get? b=some o->t3.heap.get? b=some o:=fun b o e=>by rw [hp3];exact Heap.get?_push_of_some _ e
 have I3:Inv X pins σ (upd H2 D (txO X.prog X.w D [])) t3:=by
  rw [et3]
  exact I2.laid (t':=t.toks) (fun b o e=>Heap.get?_push_of_some _ e) (Nat.le_of_eq eD.symm) (by rw [eD];exact txO_ok (TxS.fresh X.w _ (Heap.get?_push_size _ rfl)))
 have f3:∀b∈fp,FpOk X pins (upd H2 D (txO X.prog X.w D [])) b/\b<t3.heap.objs.size:=fun b hb=>by
  obtain⟨o,e,_⟩:=T.obj _ _ st2 b hb
  have lt:=Heap.lt_size e
  exact⟨⟨by rw [upd_ne (by rw [eD];exact Nat.ne_of_lt lt)];exact(f2 b hb).1,(f2 b hb).2⟩,by rw [hp3,Heap.size_push];exact Nat.lt_succ_of_lt lt⟩
 have st3:tn 0 t3.heap:=T.keep _ _ _ st2 fun b _ o e=>up3 b o e
 obtain⟨H3,eH3⟩:∃H3,H3=upd H2 D (txO X.prog X.w D []):=⟨_,rfl⟩
 rw [<- eH3]at I3 f3 v0
 have I4:=block_start I3 ok hN f3
 have pg:=hg t3 H3 t3.heap.objs.size (cellsFrom (t3.heap.objs.size+1) scope.names (cloFrom X.env.cells scope.names [])) fp
 have pt:=ht t3 H3 t3.heap.objs.size (cellsFrom (t3.heap.objs.size+1) scope.names (cloFrom X.env.cells scope.names [])) fp
 have pe:=he t3 H3 t3.heap.objs.size (cellsFrom (t3.heap.objs.size+1) scope.names (cloFrom X.env.cells scope.names [])) fp
 have qi:=hi1 t3 H3 t3.heap.objs.size (cellsFrom (t3.heap.objs.size+1) scope.names (cloFrom X.env.cells scope.names [])) fp
 have qg:=hg1 t3 H3 t3.heap.objs.size (cellsFrom (t3.heap.objs.size+1) scope.names (cloFrom X.env.cells scope.names [])) fp
 have qt:=ht1 t3 H3 t3.heap.objs.size (cellsFrom (t3.heap.objs.size+1) scope.names (cloFrom X.env.cells scope.names [])) fp
 show codeAny _ _ (.compStart (.SetComp ex [⟨tg,iter,ifs,0⟩,⟨tg1,iter1,ifs1,0⟩] scope pos) 0 (.ref a) (.ref D) (compEnvC scope (cellsFrom (t3.heap.objs.size+1) scope.names (cloFrom X.env.cells scope.names [])) t3.heap.objs.size X.env)) (compPost (model X.prog X.w) X.A X.xe use Qf (.ref D) t3.heap.objs.size) { t3 with heap:=pushCells (t3.heap.push { cls := .type "dict",data := .dict #[] }) scope.names }
 have away:∀b∈fp,H3 b=none:=fun b hb=>(f3 b hb).1.1
 generalize ece:compEnvC scope (cellsFrom (t3.heap.objs.size+1) scope.names (cloFrom X.env.cells scope.names [])) t3.heap.objs.size X.env=ce at I4 pg pt pe qi qg qt ⊢
 have cL:ce.locals=t3.heap.objs.size:=by subst ece;rfl
 generalize et4:({ t3 with heap:=pushCells (t3.heap.push { cls := .type "dict",data := .dict #[] }) scope.names }:Shared)=t4 at I4 ⊢
 have st4:tn 0 t4.heap:=T.keep _ _ _ st3 fun b _ o e=>by rw [<- et4];exact pushCells_keeps _ _ _ _ (Heap.get?_push_of_some _ e)
 have calm:∀{σ':L2.St} {G:Hp} {s':Shared},Inv (X.blk t3 H3 scope ce fp) [] σ' G s'->(∀b∈fp,G b=none) ->∀b∈fp,FpOk (X.blk t3 H3 scope ce fp) [] G b:=fun {_ _ _} J n b hb =>
  ⟨n b hb,(J.ok.exf b hb).1,J.ok.exfs b hb,.inl hb,fun x c e=>(J.ok.exf b hb).2 x c e,fun p hp=>absurd (show p∈([]:List (Addr×Obj)) ++ []from hp) (by simp)⟩
 have round:codeAny (model X.prog X.w) X.A (.compLoop (.SetComp ex [⟨tg,iter,ifs,0⟩,⟨tg1,iter1,ifs1,0⟩] scope pos) 0 (.ref a) (.ref D) ce) (compPost (model X.prog X.w) X.A X.xe use Qf (.ref D) t3.heap.objs.size) t4:=by
  refine loopS_out (hs1 ce) (fun n z =>∃i G,Inv (X.blk t3 H3 scope ce fp) [] (wipe σ (own.map (·.2))) G z/\tn i z.heap/\(∀b∈fp,G b=none)/\V i n G) ?_ m0 ⟨0,H3,I4,st4,away,v0⟩
  rintro n t5 ⟨i,H5,I5,st5,n5,v5⟩
  rcases turn i n H5 v5 with ⟨stop,wish⟩ | ⟨go,N,hN,step⟩
  ·refine thnF (T.done (X.blk t3 H3 scope ce fp) rfl rfl rfl hc i [] t5 _ H5 (fun _ _=>False) I5 (calm I5 n5) st5 stop) fun r t6 ⟨er,I6⟩ => ?_
   subst er
   obtain⟨m,ns,_⟩:=I6.loc
   have ns:t6.heap.Ns ce.locals m:=ns
   have nC:H5 ce.locals=none:=I6.free
   rw [cL]at ns nC
   exact fin D t3.heap.objs.size t6 m H5 (I3.call' (ch:=fp) I6.os I6.base I6.hok I6.bare fun b hb=>⟨(f3 b hb).1.2.2.2.1,(f3 b hb).1.2.1,(f3 b hb).1.2.2.2.2.1,(f3 b hb).1.2.2.2.2.2⟩) wish ns (I3.fpOk (Nat.le_refl _) nC)
  ·refine thnF (T.item (X.blk t3 H3 scope ce fp) rfl rfl rfl hc i [] t5 _ H5 (fun _ _=>False) I5 (calm I5 n5) st5 go) fun r t6 ⟨u,er,h6⟩ => ?_
   subst er
   refine thnF h6 fun _ t7 ⟨x,H7,I7,r7,y7,st7,n7⟩ => ?_
   have P7:=I7.pinned (calm I7 n7) (T.obj _ _ st7)
   refine thnF (pg.run _ t7 _ H7 x u _ P7 r7 (step x H7 y7)) fun _ t8 ⟨σ8,H8,I8,same,q8⟩ => ?_
   refine thnF (pt.run _ t8 σ8 H8 _ I8 q8) fun b t9 ⟨H9,I9,q9⟩ => ?_
   have next:∀{σ9:L2.St} {z:Shared} {G:Hp},Inv (X.blk t3 H3 scope ce fp) ([]++pinsAt fp t7.heap) σ9 G z->(wipe σ (own.map (·.2))).length=σ9.length->(∀(j:Nat) v,(wipe σ (own.map (·.2)))[j]? =some (some v)->σ9[j]? =some (some v))->N G ->
     ∃m,m<n /\∃i G,Inv (X.blk t3 H3 scope ce fp) [] (wipe σ (own.map (·.2))) G z/\tn i z.heap/\(∀b∈fp,G b=none)/\V i m G:=fun {σ9 z G} J l9 k9 nx=>by
    obtain⟨m',lt,v'⟩:=hN G nx
    have held:∀b∈fp,∀o,t7.heap.get? b=some o->z.heap.get? b=some o/\G b=none:=fun b hb o e =>
     have k:=J.pin (b,o) (List.mem_append_right _ (List.mem_append_right _ (mem_pinsAt hb e)))
     ⟨k.1,k.2.1⟩
    refine⟨m',lt,i+1,G,(J.unpinned (pins :=[])).weak l9 k9,T.keep _ _ _ st7 fun b hb o e=>(held b hb o e).1,fun b hb => ?_,v'⟩
    obtain⟨o,e,_⟩:=T.obj _ _ st7 b hb
    exact(held b hb o e).2
   have l8:(wipe σ (own.map (·.2))).length=σ8.length:=by rw [<- same,wipe_length]
   have k8:∀(j:Nat) v,(wipe σ (own.map (·.2)))[j]? =some (some v)->σ8[j]? =some (some v):=fun j v e=>by rw [<- same]at e;exact(wipe_some e).1
   have k9:∀(j:Nat) v,(wipe σ (own.map (·.2)))[j]? =some (some v)->(wipe σ8 vs1)[j]? =some (some v):=fun j v e=>by
    rw [<- same]at e
    obtain⟨e1,e2⟩:=wipe_some e
    rw [L2.wipe_out fun z=>e2 (hv j z)]
    exact e1
   cases b with
   | false =>
    simp only [Bool.false_eq_true,if_false]at q9 ⊢
    exact next I9 l8 k8 q9
   | true =>
    simp only [if_true]at q9 ⊢
    refine thnF (qi.run _ t9 σ8 H9 _ I9 q9) fun _ t10 one=>thnF one fun _ t11 two => ?_
    obtain⟨a1,fq,tm,J1,G1,rfl,K1,T1,sq,fq1,V1,⟨m1,w1⟩,turn1⟩:=two
    have calm1:∀{G:Hp},(∀b∈fq,G b=none) ->∀b∈fq,FpOk (X.blk t3 H3 scope ce fp) ([]++pinsAt fp t7.heap) G b:=fun hn b hb=>⟨hn b hb,(fq1 b hb).2⟩
    have inner:codeAny (model X.prog X.w) X.A (.compLoop (.SetComp ex [⟨tg,iter,ifs,0⟩,⟨tg1,iter1,ifs1,0⟩] scope pos) 1 (.ref a1) (.ref D) ce)
      (fun r z=>match r with
       | .ok _ =>∃m,m<n /\∃i G,Inv (X.blk t3 H3 scope ce fp) [] (wipe σ (own.map (·.2))) G z/\tn i z.heap/\(∀b∈fp,G b=none)/\V i m G
       | .error _=>False) t11:=by
     refine loopS_in (fun k z =>∃j G,Inv (X.blk t3 H3 scope ce fp) ([]++pinsAt fp t7.heap) (wipe σ8 vs1) G z/\tm j z.heap/\(∀b∈fq,G b=none)/\V1 j k G) ?_ m1 ⟨0,G1,K1.weak (wipe_length _ _) (fun j v e=>(wipe_some e).1),sq,fun b hb=>(fq1 b hb).1,w1⟩
     rintro k t12 ⟨j,G2,K2,sq2,n2,w2⟩
     rcases turn1 j k G2 w2 with ⟨stop1,nx1⟩ | ⟨go1,N1,hN1,step1⟩
     ·refine thnF (T1.done (X.blk t3 H3 scope ce fp) rfl rfl rfl hc j _ t12 (wipe σ8 vs1) G2 (fun _ _=>False) K2 (calm1 n2) sq2 stop1) fun r t13 ⟨er,K3⟩ => ?_
      subst er
      exact next K3 (l8.trans (wipe_length σ8 vs1).symm) k9 nx1
     ·refine thnF (T1.item (X.blk t3 H3 scope ce fp) rfl rfl rfl hc j _ t12 (wipe σ8 vs1) G2 (fun _ _=>False) K2 (calm1 n2) sq2 go1) fun r t13 ⟨u1,er,h13⟩ => ?_
      subst er
      refine thnF h13 fun _ t14 ⟨x1,G4,K4,r4,y4,sq4,n4⟩ => ?_
      have P4:=K4.pinned (calm1 n4) (T1.obj _ _ sq4)
      refine thnF (qg.run _ t14 (wipe σ8 vs1) G4 x1 u1 _ P4 r4 (step1 x1 G4 y4)) fun _ t15 ⟨σ5,G5,K5,same5,q5⟩ => ?_
      refine thnF (qt.run _ t15 σ5 G5 _ K5 q5) fun b1 t16 ⟨G6,K6,q6⟩ => ?_
      have next1:∀{z:Shared} {G:Hp},Inv (X.blk t3 H3 scope ce fp) (([]++pinsAt fp t7.heap)++pinsAt fq t14.heap) σ5 G z->N1 G ->∃m,m<k /\∃j G,Inv (X.blk t3 H3 scope ce fp) ([]++pinsAt fp t7.heap) (wipe σ8 vs1) G z/\tm j z.heap/\(∀b∈fq,G b=none)/\V1 j m G:=fun {z G} J nx=>by
       obtain⟨m',lt,v'⟩:=hN1 G nx
       have held:∀b∈fq,∀o,t14.heap.get? b=some o->z.heap.get? b=some o/\G b=none:=fun b hb o e =>
        have k:=J.pin (b,o) (List.mem_append_right _ (List.mem_append_right _ (mem_pinsAt hb e)))
        ⟨k.1,k.2.1⟩
       refine⟨m',lt,j+1,G,J.unpinned.weak (by rw [<- same5,wipe_length]) (fun j v e=>by rw [<- same5]at e;exact(wipe_some e).1),T1.keep _ _ _ sq4 fun b hb o e=>(held b hb o e).1,fun b hb => ?_,v'⟩
       obtain⟨o,e,_⟩:=T1.obj _ _ sq4 b hb
       exact(held b hb o e).2
      cases b1 with
      | false =>
       simp only [Bool.false_eq_true,if_false]at q6 ⊢
       exact next1 K6 q6
      | true =>
       simp only [if_true]at q6 ⊢
       refine thnF (pe.run _ t16 σ5 G6 _ K6 q6) fun u7 t17 ⟨yv,G7,K7,r7,z,l,ey,hD7,few,nx⟩ => ?_
       subst ey
       obtain⟨tk,rfl⟩:=r7
       exact tx_add (X:=X.blk t3 H3 scope ce fp) K7 hD7 few fun t18 K8=>next1 K8 nx
    exact startS_in inner (T1.self X.A 0 _ _ _ sq inner)
 exact PpSet.codeAny_compStart_set round (T.self X.A 0 _ _ _ st4 round)
theorem pe_tc{ex tg iter tg1 iter1:Expr}{ifs ifs1:List Expr}{scope:Scope}{own:List (PySem.Str×Nat)}{vs1:List Nat}{pos:Pos}{wi wi1:TI}{g g1:TG}{tt tt1:TT}{te:TE}(hc:X.calm=true)(hN:X.N.Nodup)(hi:PI X tg iter wi)(ok:BlkOk X.N X.env.scope scope own)(hv:∀i∈vs1,i∈own.map (·.2))
  (hg:∀(s:Shared) (H:Hp) (C:Addr) (cl:List (PySem.Str×Addr)) (fp:List Addr),PG (X.blk s H scope (compEnvC scope cl C X.env) fp) tg g) (ht:∀(s:Shared) (H:Hp) (C:Addr) (cl:List (PySem.Str×Addr)) (fp:List Addr),PTs (X.blk s H scope (compEnvC scope cl C X.env) fp) ifs tt)
  (hi1:∀(s:Shared) (H:Hp) (C:Addr) (cl:List (PySem.Str×Addr)) (fp:List Addr),PI (X.blk s H scope (compEnvC scope cl C X.env) fp) tg1 iter1 wi1)
  (hg1:∀(s:Shared) (H:Hp) (C:Addr) (cl:List (PySem.Str×Addr)) (fp:List Addr),PG (X.blk s H scope (compEnvC scope cl C X.env) fp) tg1 g1) (ht1:∀(s:Shared) (H:Hp) (C:Addr) (cl:List (PySem.Str×Addr)) (fp:List Addr),PTs (X.blk s H scope (compEnvC scope cl C X.env) fp) ifs1 tt1)
  (he:∀(s:Shared) (H:Hp) (C:Addr) (cl:List (PySem.Str×Addr)) (fp:List Addr),PE (X.blk s H scope (compEnvC scope cl C X.env) fp) ex te) (hs:∀x,foldedSetIterable iter X.env x=pure x) (hs1:∀env x,foldedSetIterable iter1 env x=pure x) :
  PE X (.SetComp ex [⟨tg,iter,ifs,0⟩,⟨tg1,iter1,ifs1,0⟩] scope pos) (tTc X.prog X.w wi g tt wi1 g1 tt1 te (own.map (·.2)) vs1):=by
 refine⟨fun pins s σ H Q I wish => ?_⟩
 rw [PpSet.eval_SetComp]
 refine tc_core hc hN I hi ok hv hg ht he hs hi1 hg1 ht1 hs1 wish fun D C s' m H' I' q ns f=>⟨m,ns,fun h2 sb => ?_⟩
 obtain⟨f0,f1,f2,f3,f4,f5⟩:=f
 exact⟨.ref D,H',I'.turned (t':=s'.toks) (fun b o hb e=>(sb.2 b hb).trans e) f0 f1 f3 f4 f5,rfl,q⟩
end
def IsHue(d:PyData):Prop :=∃c,Lo c/\d = .str (tx [c])
def hueOf(te:AD):AD:=fun env P=>te env fun d e=>IsHue d/\P d e
def hueK(K:List Nat->List Sl->Prop):List PyData->List Sl->Prop:=fun acc e =>∃cs:List Nat,acc=cs.map (fun c => .str (tx [c]))/\(∀c∈cs,Lo c)/\K cs e
def aSortTc(ti:AI)(g:AG)(tt:AT)(ti1:AI)(g1:AG)(tt1:AT)(te:AD)(vs vs1:List Nat):AO:=fun env P=>ti env fun ds e0=>lcL2 g tt ti1 g1 tt1 (hueOf te) vs vs1 (hueK fun cs e=>P (.lst ((hueL cs).map fun c => .str (tx [c]))) (backE e0 vs e)) ds [] e0
theorem hue_few:∀{l:List Str},l.Nodup->(∀x∈l,∃c,Lo c/\x=tx [c])->l.length<=4:=fun {l} nd h=>by
 have:=nodup_lenA (T :=[tx [97],tx [98],tx [99],tx [100]]) nd fun x hx=>by
  obtain⟨c,hc,rfl⟩:=h x hx
  simp only [List.mem_cons,List.not_mem_nil,or_false]at hc ⊢
  rcases hc with rfl | rfl | rfl | rfl <;> simp
 exact this
theorem once_snoc(k:Str):∀(ks l:List Str),onceT l (ks ++ [k])=if k∈onceT l ks then onceT l ks else k::onceT l ks
 | [],l=>rfl
 | z::ks,l=>once_snoc k ks _
theorem sim_tc{P0:Program}{w0:World}{wi wi1:TI}{ti ti1:AI}{g g1:TG}{ag ag1:AG}{tt tt1:TT}{at' at1:AT}{te:TE}{ae:AD}{vs vs1 ts ts1:List Nat}(hi:SimI wi ti)(hg:SimG ts g ag)(ht:SimT tt at')(hi1:SimI wi1 ti1)(hg1:SimG ts1 g1 ag1)(ht1:SimT tt1 at1)(he:SimE te ae)(hts:∀i∈ts,i∈vs)(hts1:∀i∈ts1,i∈vs1)(hv:∀i∈vs1,i∈vs) :
  SimO (tCB (rSortTx P0 w0) (tCons (tTc P0 w0 wi g tt wi1 g1 tt1 te vs vs1) tNil)) (aSortTc ti ag at' ti1 ag1 at1 ae vs vs1):=by
 intro σ env F H fp Q P ok h q
 refine hi _ _ ok h fun J ds env1 F1 H1 fp1 t1 ok1 w h1 => ?_
 intro D hD
 have D1:F1 D=none:=ok1.ex.none hD
 have Df:D∉fp1:=fun m=>ok1.env.there D m hD
 let KK:List PyData->List Sl->Prop:=hueK fun cs e=>P (.lst ((hueL cs).map fun c => .str (tx [c]))) (backE env1 vs e)
 let LL:List PyData->List PyData->List Sl->Prop:=lcL2 ag at' ti1 ag1 at1 (hueOf ae) vs vs1 KK
 let Hu:List PyData->List Nat->Prop:=fun acc cs=>acc=cs.map (fun c => .str (tx [c])) /\∀c∈cs,Lo c
 let Sx:List Nat->List Str:=fun cs=>onceT [] (cs.map fun c=>tx [c])
 let St:Hp->(Hp->L2.St->List Sl->List PyData->Prop)->Prop:=fun H2 R =>∃σ2 env2 F2 fp2 acc cs,Tr F1 H1 fp1 F2 H2 fp2/\Ok F2 H2 σ2 env2 fp2/\σ2.length=σ.length/\(∀j,j∉vs->σ2[j]? =σ[j]?)/\H2 D=some (txO P0 w0 D (Sx cs))/\Hu acc cs/\F2 D=none/\D∉fp2/\R F2 σ2 env2 acc
 refine⟨fun i m H2=>m=ds.length-i/\i<=ds.length/\St H2 fun _ _ env2 acc=>LL (ds.drop i) acc env2, ?_, ?_⟩
 ·obtain⟨tn,xn⟩:=tr_newO (o:=txO P0 w0 D []) hD ok1.ex
  obtain⟨okn,tn'⟩:=ok1.pure tn xn
  exact⟨ds.length,by simp,Nat.zero_le _,σ,env1,F1,fp1,[],[],tn',okn,rfl,fun _ _=>rfl,upd_same,⟨rfl,fun _ h=>by cases h⟩,D1,Df,h1⟩
 ·rintro i m H2 ⟨rfl,hi,σ2,env2,F2,fp2,acc,cs,t2,ok2,l2,k2,hD2,r2,fD2,nD2,h2⟩
  by_cases hlt:i<ds.length
  ·refine .inr ⟨w.go F2 H2 i t2.ex ok2.ex hlt,fun H3=>St H3 fun _ _ env2 acc=>LL (ds.drop (i+1)) acc env2,fun H3 hh=>⟨ds.length-(i+1),by omega,rfl,hlt,hh⟩,fun x H3 y => ?_⟩
   obtain⟨F3,d,hd,t3,x3,r3⟩:=w.yld F2 H2 i x H3 t2.ex ok2.ex hlt y
   obtain⟨ok3,t3'⟩:=ok2.pure t3 x3
   obtain⟨fp4,ok4,t4⟩:=ok3.wipe vs
   have ew:wipe σ2 vs=wipe σ vs:=wipe_eq_of l2 k2
   rw [ew]at ok4
   have e:ds.drop i=d::ds.drop (i+1):=by
    rw [List.drop_eq_getElem_cons hlt]
    rw [List.getElem?_eq_getElem hlt]at hd
    cases hd
    rfl
   rw [e]at h2
   refine hg _ _ ok4 r3 h2 fun σ5 env5 F5 H5 fp5 t5 ok5 k5 h5 => ?_
   have agree:∀j,j∉vs->σ5[j]? =σ[j]? :=fun j hj=>(k5.2 j fun z=>hj (hts j z)).trans (wipe_out hj)
   have len5:σ5.length=σ.length:=k5.1.trans (wipe_length σ vs)
   refine⟨(wipe_eq_of len5 agree),ht _ _ ok5 h5 fun b env6 F6 H6 fp6 t6 ok6 h6 => ?_⟩
   have tt:=((t3'.trans t4).trans t5).trans t6
   obtain⟨q1,q2,q3⟩:=tt.keeps (fq :=[D]) (fun a ha=>by simp at ha;subst ha;exact nD2) (fun a ha=>by simp at ha;subst ha;rw [hD2];exact fun z=>by cases z) (fun a ha=>by simp at ha;subst ha;exact fD2)
   have hD6:=q1 D (by simp) _ hD2
   have nD6:=q2 D (by simp)
   have fD6:=q3 D (by simp)
   cases b with
   | true =>
    rw [if_pos rfl]
    refine hi1 _ _ ok6 (h6.1 rfl) fun J1 ds1 env7 F7 H7 fp7 t7 ok7 w1 h7 => ?_
    obtain⟨p1,p2,p3⟩:=t7.keeps (fq :=[D]) (fun a ha=>by simp at ha;subst ha;exact nD6) (fun a ha=>by simp at ha;subst ha;rw [hD6];exact fun z=>by cases z) (fun a ha=>by simp at ha;subst ha;exact fD6)
    refine⟨fun j k H8=>k=ds1.length-j/\j<=ds1.length/\St H8 fun F8 σ8 env8 acc=>Ex F7 F8/\(∀j,j∉vs1->σ8[j]? =σ5[j]?)/\lcL ag1 at1 (hueOf ae) vs1 (fun acc e5=>LL (ds.drop (i+1)) acc e5) (ds1.drop j) acc env8, ?_, ?_⟩
    ·exact⟨ds1.length,by simp,Nat.zero_le _,σ5,env7,F7,fp7,acc,cs,(t2.trans tt).trans t7,ok7,len5,agree,p1 D (by simp) _ hD6,r2,p3 D (by simp),p2 D (by simp),Ex.refl F7,fun _ _=>rfl,h7⟩
    ·rintro j k H8 ⟨rfl,hj,σ8,env8,F8,fp8,acc8,cs8,t8,ok8,l8,k8,hD8,r8,fD8,nD8,x8,s8,h8⟩
     by_cases hlt1:j<ds1.length
     ·refine .inr ⟨w1.go F8 H8 j x8 ok8.ex hlt1,fun H9=>St H9 fun F8 σ8 env8 acc=>Ex F7 F8/\(∀j,j∉vs1->σ8[j]? =σ5[j]?)/\lcL ag1 at1 (hueOf ae) vs1 (fun acc e5=>LL (ds.drop (i+1)) acc e5) (ds1.drop (j+1)) acc env8,fun H9 hh=>⟨ds1.length-(j+1),by omega,rfl,hlt1,hh⟩,fun x H9 y => ?_⟩
      obtain⟨F9,d1,hd1,t9,x9,r9⟩:=w1.yld F8 H8 j x H9 x8 ok8.ex hlt1 y
      obtain⟨ok9,t9'⟩:=ok8.pure t9 x9
      obtain⟨fp10,ok10,t10⟩:=ok9.wipe vs1
      have ew1:wipe σ8 vs1=wipe σ5 vs1:=wipe_eq_of (l8.trans len5.symm) s8
      rw [ew1]at ok10
      have e1:ds1.drop j=d1::ds1.drop (j+1):=by
       rw [List.drop_eq_getElem_cons hlt1]
       rw [List.getElem?_eq_getElem hlt1]at hd1
       cases hd1
       rfl
      rw [e1]at h8
      refine hg1 _ _ ok10 r9 h8 fun σ11 env11 F11 H11 fp11 t11 ok11 k11 h11 => ?_
      have ag1:∀j,j∉vs1->σ11[j]? =σ5[j]? :=fun j hj=>(k11.2 j fun z=>hj (hts1 j z)).trans (wipe_out hj)
      have len11:σ11.length=σ5.length:=k11.1.trans (wipe_length σ5 vs1)
      have agv:∀j,j∉vs->σ11[j]? =σ[j]? :=fun j hj=>(ag1 j fun z=>hj (hv j z)).trans (agree j hj)
      refine⟨(wipe_eq_of len11 ag1),ht1 _ _ ok11 h11 fun b1 env12 F12 H12 fp12 t12 ok12 h12 => ?_⟩
      have tt1:=((t9'.trans t10).trans t11).trans t12
      obtain⟨q1,q2,q3⟩:=tt1.keeps (fq :=[D]) (fun a ha=>by simp at ha;subst ha;exact nD8) (fun a ha=>by simp at ha;subst ha;rw [hD8];exact fun z=>by cases z) (fun a ha=>by simp at ha;subst ha;exact fD8)
      have hD12:=q1 D (by simp) _ hD8
      have nD12:=q2 D (by simp)
      have fD12:=q3 D (by simp)
      cases b1 with
      | true =>
       rw [if_pos rfl]
       refine he _ _ ok12 (h12.1 rfl) fun v y env13 F13 H13 fp13 t13 ok13 r13 h13 => ?_
       obtain⟨⟨c,hc,rfl⟩,h13⟩:=h13
       obtain⟨p1,p2,p3⟩:=t13.keeps (fq :=[D]) (fun a ha=>by simp at ha;subst ha;exact nD12) (fun a ha=>by simp at ha;subst ha;rw [hD12];exact fun z=>by cases z) (fun a ha=>by simp at ha;subst ha;exact fD12)
       have hD13:=p1 D (by simp) _ hD12
       have nD13:=p2 D (by simp)
       have fD13:=p3 D (by simp)
       cases r13
       obtain⟨ra,rb⟩:=r8
       have few:(Sx cs8).length<=4:=hue_few (onceT_nodup _ _ List.nodup_nil) fun x hx=>by
        rcases(onceT_mem _ _).mp hx with z | z
        ·cases z
        ·obtain⟨c,hc,rfl⟩:=List.mem_map.mp z
         exact⟨c,rb c hc,rfl⟩
       have es:Sx (cs8 ++ [c])=if tx [c]∈Sx cs8 then Sx cs8 else tx [c]::Sx cs8:=by
        show onceT [] ((cs8 ++ [c]).map fun c=>tx [c])=_
        rw [List.map_append]
        exact once_snoc (tx [c]) _ _
       refine⟨tx [c],Sx cs8,rfl,hD13,Nat.lt_of_le_of_lt (Nat.succ_le_succ few) (by decide),σ11,env13,F13,fp13,acc8 ++ [.str (tx [c])],cs8 ++ [c], ?_, ?_,len11.trans len5,agv,by rw [upd_same,es],⟨by rw [ra,List.map_append];rfl,fun x hx=>(List.mem_append.mp hx).elim (rb x) fun z=>by rw [List.mem_singleton.mp z];exact hc⟩,fD13,nD13,x8.trans (tt1.trans t13).ex,ag1,h13.2⟩
       ·have tall:=(t8.trans tt1).trans t13
        refine⟨tall.ex,fun b u z n => ?_,tall.nw,tall.nf⟩
        have:b≠D:=fun e=>by rw [e,hD]at z;cases z
        rw [upd_ne this]
        exact tall.kp b u z n
       ·refine⟨fun b u z => ?_,ok13.env.mono (Ex.refl F13) fun b hb u z => ?_,ok13.fr⟩
        ·have:b≠D:=fun e=>by rw [e,fD13]at z;cases z
         rw [upd_ne this]
         exact ok13.ex b u z
        ·have:b≠D:=fun e=>nD13 (e ▸ hb)
         rw [upd_ne this]
         exact z
      | false =>
       rw [if_neg Bool.false_ne_true]
       exact⟨σ11,env12,F12,fp12,acc8,cs8,t8.trans tt1,ok12,len11.trans len5,agv,hD12,r8,fD12,nD12,x8.trans tt1.ex,ag1,h12.2 rfl⟩
     ·have e1:j=ds1.length:=by omega
      subst e1
      rw [List.drop_length]at h8
      exact .inl ⟨w1.stop F8 H8 x8 ok8.ex,σ8,env8,F8,fp8,acc8,cs8,t8,ok8,l8,k8,hD8,r8,fD8,nD8,h8⟩
   | false =>
    rw [if_neg Bool.false_ne_true]
    exact⟨σ5,env6,F6,fp6,acc,cs,t2.trans tt,ok6,len5,agree,hD6,r2,fD6,nD6,h6.2 rfl⟩
  ·have e:i=ds.length:=by omega
   subst e
   rw [List.drop_length]at h2
   refine .inl ⟨w.stop F2 H2 t2.ex ok2.ex, ?_⟩
   obtain⟨cs',e1,e2,h2⟩:=h2
   obtain⟨ra,rb⟩:=r2
   have ecs:cs=cs':=by
    have:cs.map (fun c=>PyData.str (tx [c]))=cs'.map (fun c=>PyData.str (tx [c])):=ra.symm.trans e1
    exact List.map_inj_right (f:=fun c=>PyData.str (tx [c])) (fun x y z=>txs1_inj (by injection z)) |>.mp this
   subst ecs
   obtain⟨fp3,ok3,t3⟩:=Ok.back ok1 t2.ex vs ok2
   rw [backS_get σ vs σ2 l2 k2]at ok3
   have few:(Sx cs).length<=4:=hue_few (onceT_nodup _ _ List.nodup_nil) fun x hx=>by
    rcases(onceT_mem _ _).mp hx with z | z
    ·cases z
    ·obtain⟨c,hc,rfl⟩:=List.mem_map.mp z
     exact⟨c,rb c hc,rfl⟩
   refine⟨D,Sx cs,rfl,hD2,by omega,fun p2 m pm hp2 => ?_⟩
   obtain⟨t5,ok5,mm,hf⟩:=ok3.newLst hp2 (strs_vals (F:=F2) (srtT m))
   have tall:=t1.trans (t2.trans t3)
   refine q _ _ _ _ _ _ _ (tall.trans t5) ok5 mm (tall.backs hf) ?_
   rw [hue_srt rb pm]
   have:((hueL cs).map fun c=>tx [c]).map PyData.str=(hueL cs).map fun c => .str (tx [c]):=List.map_map
   rw [this]
   exact h2
section
variable {X:Cx}
theorem ao_sortTc{k:Nat}(hr:RoomG k X.A){ex tg iter tg1 iter1:Expr}{ifs ifs1:List Expr}{scope:Scope}{own:List (Str×Nat)}{pos p1 p2:Pos}{wi wi1:TI}{ti ti1:AI}{g g1:TG}{ag ag1:AG}{tt tt1:TT}{at' at1:AT}{te:TE}{ae:AD}{ts ts1:List Nat}(hg0:Gl X "sorted")(hm0:X.mg "sorted" =none)(hc:X.calm=true)(hN:X.N.Nodup)(hi:API X tg iter wi ti)(ok:BlkOk X.N X.env.scope scope own)
  (hg:∀(s:Shared) (H:Hp) (C:Addr) (cl:List (Str×Addr)) (fp:List Addr),APG (X.blk s H scope (compEnvC scope cl C X.env) fp) ts tg g ag) (ht:∀(s:Shared) (H:Hp) (C:Addr) (cl:List (Str×Addr)) (fp:List Addr),APTs (X.blk s H scope (compEnvC scope cl C X.env) fp) ifs tt at')
  (hi1:∀(s:Shared) (H:Hp) (C:Addr) (cl:List (Str×Addr)) (fp:List Addr),API (X.blk s H scope (compEnvC scope cl C X.env) fp) tg1 iter1 wi1 ti1)
  (hg1:∀(s:Shared) (H:Hp) (C:Addr) (cl:List (Str×Addr)) (fp:List Addr),APG (X.blk s H scope (compEnvC scope cl C X.env) fp) ts1 tg1 g1 ag1) (ht1:∀(s:Shared) (H:Hp) (C:Addr) (cl:List (Str×Addr)) (fp:List Addr),APTs (X.blk s H scope (compEnvC scope cl C X.env) fp) ifs1 tt1 at1)
  (he:∀(s:Shared) (H:Hp) (C:Addr) (cl:List (Str×Addr)) (fp:List Addr),AE (X.blk s H scope (compEnvC scope cl C X.env) fp) ex te ae) (hts:∀i∈ts,i∈own.map (·.2):=by decide) (hv:∀i∈ts1,i∈own.map (·.2):=by decide) (hs:∀x,foldedSetIterable iter X.env x=pure x:=by intro _;rfl) (hs1:∀env x,foldedSetIterable iter1 env x=pure x:=by intro _ _;rfl)
  (he0:starEach [.SetComp ex [⟨tg,iter,ifs,0⟩,⟨tg1,iter1,ifs1,0⟩] scope pos] X.env=(false,eval (.SetComp ex [⟨tg,iter,ifs,0⟩,⟨tg1,iter1,ifs1,0⟩] scope pos) X.env)::starEach [] X.env:=by rfl) :
  AEO X (.Call (.Name "sorted" p1) [.SetComp ex [⟨tg,iter,ifs,0⟩,⟨tg1,iter1,ifs1,0⟩] scope pos] [] p2) (tCB (rSortTx X.prog X.w) (tCons (tTc X.prog X.w wi g tt wi1 g1 tt1 te (own.map (·.2)) ts1) tNil)) (aSortTc ti ag at' ti1 ag1 at1 ae (own.map (·.2)) ts1) :=
 ⟨pe_callB (cr_sortTx hr hc) hg0 hm0 (by decide +kernel) (pa_cons (pe_tc hc hN hi.pe ok hv (fun s H C cl fp=>(hg s H C cl fp).pe) (fun s H C cl fp=>(ht s H C cl fp).pe) (fun s H C cl fp=>(hi1 s H C cl fp).pe) (fun s H C cl fp=>(hg1 s H C cl fp).pe) (fun s H C cl fp=>(ht1 s H C cl fp).pe) (fun s H C cl fp=>(he s H C cl fp).pe) hs hs1) pa_nil he0) (he:=he0),
  fun Q P okk h q=>sim_tc hi.sm (hg {} (fun _=>none) 0 [] []).sm (ht {} (fun _=>none) 0 [] []).sm (hi1 {} (fun _=>none) 0 [] []).sm (hg1 {} (fun _=>none) 0 [] []).sm (ht1 {} (fun _=>none) 0 [] []).sm (he {} (fun _=>none) 0 [] []).sm hts (fun _ h=>h) hv Q P okk h q⟩
end
theorem x_sortTc(env:List Sl)(PO:MO->List Sl->Prop)(ti:AI)(g:AG)(tt:AT)(ti1:AI)(g1:AG)(tt1:AT)(te:AD)(vs vs1:List Nat):aSortTc ti g tt ti1 g1 tt1 te vs vs1 env PO=ti env fun ds e0=>lcL2 g tt ti1 g1 tt1 (hueOf te) vs vs1 (hueK fun cs e=>PO (.lst ((hueL cs).map fun c => .str (tx [c]))) (backE e0 vs e)) ds [] e0:=rfl
theorem x_hueOf(te:AD)(env:List Sl)(PD:PyData->List Sl->Prop):hueOf te env PD=te env fun d e=>IsHue d/\PD d e:=rfl
end Cf
namespace Cf
open PySem PySem.Spec PyProof.Rows L2
section
theorem lcL_ea{α:Type}{g:AG}{tt:AT}{te:AD}{vs:List Nat}{K:List PyData->List Sl->Prop}(emb f:α->PyData)(J:List Sl->Prop):∀(xs:List α) (acc:List PyData) (env:List Sl),acc.length+xs.length<=sizeLine ->
  (∀a∈xs,∀env,J env ->∀(Kt:PyData->List Sl->Prop) (Kf:List Sl->Prop),(∀e,J e->Kt (f a) e)->g (emb a) (wipeE env vs) fun e2=>tt e2 fun b e3=>(b=true->te e3 Kt)/\(b=false->Kf e3)) ->
  J env->(∀e,J e->K (acc++xs.map f) e)->lcL g tt te vs K (xs.map emb) acc env
 | [],acc,env,hl,step,j,fin=>by
  have:=fin env j
  rw [List.map_nil,List.append_nil]at this
  exact this
 | a::xs,acc,env,hl,step,j,fin=>by
  rw [List.length_cons]at hl
  refine step a (.head _) env j (fun y e4=>acc.length<sizeLine/\lcL g tt te vs K (xs.map emb) (acc ++ [y]) e4) (fun e3=>lcL g tt te vs K (xs.map emb) acc e3) fun e je=>⟨by omega,lcL_ea emb f J xs _ e (by rw [List.length_append,List.length_singleton];omega) (fun b hb=>step b (.tail _ hb)) je fun e' je' => ?_⟩
  have:=fin e' je'
  rw [List.map_cons]at this
  rw [List.append_assoc]
  exact this
theorem getK_merge{j:Key}:∀(more ds:List (Key×PyData)),(more.map (·.1)).Nodup->getK (mergeD ds more) j=(getK more j).or (getK ds j)
 | [],ds,_=>by
  show getK ds j=(getK [] j).or _
  rfl
 | q::more,ds,nd=>by
  rw [List.map_cons,List.nodup_cons]at nd
  show getK (mergeD (putD ds q.1 q.2) more) j=_
  rw [getK_merge more _ nd.2,getK_put,getK_cons]
  by_cases e:q.1=j
  ·rw [if_pos e,if_pos e.symm]
   have:getK more j=none:=by
    unfold getK
    rw [Option.map_eq_none_iff,List.find?_eq_none]
    intro p hp z
    have z:=of_decide_eq_true z
    exact nd.1 (by rw [e,<- z];exact List.mem_map.mpr ⟨p,hp,rfl⟩)
   rw [this]
   rfl
  ·rw [if_neg e,if_neg fun z=>e z.symm]
end
section
def kn(y:Nat):Key := .inl (y:Nat)
end
section
def rDictPK(K:PySem.W.Frag):List V->Hp->VK->Prop:=fun xs H Q =>∃(a:Addr) (ps:List Addr) (kvs:List (Key×V)),xs = [.ref a]/\SqL K H a (ps.map V.ref)/\Paired (fun p kv=>SqT K H p [kV kv.1,kv.2]) ps kvs /\∀p,H p=none->Q (.ref p) (upd H p (.dK (mergeK [] kvs)))
def pairsK:List PyData->Option (List (Key×PyData))
 | []=>some []
 | .tuple [kd,v]::ds=>(keyOf kd).bind fun k=>(pairsK ds).map ((k,v) :: ·)
 | _::_=>none
theorem pairsK_of{K:PySem.W.Frag}{F H:Hp}(ex:Ex F H):∀{ds:List PyData} {vs:List V} {es:List (Key×PyData)},Rps F vs ds->pairsK ds=some es ->∃(ps:List Addr) (kvs:List (Key×V)),vs=ps.map V.ref/\Paired (fun p kv=>SqT K H p [kV kv.1,kv.2]) ps kvs/\RpKs F kvs es
 | [],_,_,r,h=>by
  cases r
  cases h
  exact⟨[],[],rfl,.nil,.nil⟩
 | d::ds,_,es,r,h=>by
  cases r with
  | cons r1 r2 =>
   unfold pairsK at h
   split at h
   ·rename_i e
    cases e
   ·rename_i kd v ds' e
    cases e
    cases hk:keyOf kd with
    | none=>rw [hk]at h;cases h
    | some k =>
     cases hp:pairsK ds with
     | none=>rw [hk,hp]at h;cases h
     | some es' =>
      rw [hk,hp]at h
      cases h
      obtain⟨ps,kvs,e1,e2,e3⟩:=pairsK_of ex r2 hp
      cases r1 with
      | tup g1 g2 =>
       cases g2 with
       | cons ra rb =>
        cases rb with
        | cons rv rn =>
         cases rn
         have ev:=keyOf_v ra hk
         subst ev
         exact⟨_::ps,(k,_)::kvs,by rw [List.map_cons,e1],.cons (SqT.of (ex _ _ g1)) e2,.cons ⟨rfl,rv⟩ e3⟩
   ·cases h
def fDictPK:List PyData->(List (Key×PyData)->Prop)->Prop
 | [.list ds],k=>opt (pairsK ds) fun es=>k (mergeD [] es)
 | _,_=>False
def aDictPK(tu:AL):AO:=fun env P=>tu env fun ds e=>fDictPK ds fun kvs=>P (.dK kvs) e
section
variable {X:Cx} {su:TA} {tu:AL} {e:Expr} {es:List Expr} {pos:Pos}
theorem sim_dictPK{K:PySem.W.Frag}(ha:SimA su tu):SimO (tCB (rDictPK K) su) (aDictPK tu):=fun Q P ok h q =>
 ha _ _ ok h fun vs ds e1 F1 H1 fp1 t1 ok1 r1 h1=>by
  match ds,r1,h1 with
  | [.list ds],r1,h1 =>
   obtain⟨v,rfl,r2⟩:=rps1 r1
   cases r2 with
   | lst g1 g2 =>
    have h1:opt (pairsK ds) (fun es=>P (.dK (mergeD [] es)) e1):=h1
    cases hp:pairsK ds with
    | none=>rw [hp]at h1;exact h1.elim
    | some es =>
     rw [hp,opt_s]at h1
     obtain⟨ps,kvs,rfl,e2,e3⟩:=pairsK_of (K:=K) ok1.ex g2 hp
     refine⟨_,ps,kvs,rfl,SqL.of (ok1.ex _ _ g1),e2,fun p hp0 => ?_⟩
     obtain⟨t2,x2⟩:=tr_newO (o := .dK (mergeK [] kvs)) hp0 ok1.ex
     obtain⟨ok2,t2'⟩:=ok1.pure t2 x2
     refine q p (.dK (mergeD [] es)) _ _ _ _ [p] (t1.trans t2') ok2 ⟨rfl,_,upd_same,rpks_merge e3 .nil⟩ (fun b hb => ?_) h1
     have eb:b=p:=by simpa using hb
     subst eb
     exact⟨ok1.ex.none hp0,fun m=>ok1.env.there b m hp0,t1.back hp0⟩
theorem ao_dictPK{x:Str}{p:Pos}(hc:X.calm=true)(hg:Gl X x)(hm:X.mg x=none)(hv:bootBuiltins x=some (.type "dict"))(ha:APA X (e::es) su tu)(hn:x ≠ "__name__" :=by decide)(hdb:(x==("__debug__" : Str))=false:=by decide)
  (he:starEach (e::es) X.env=(false,eval e X.env)::starEach es X.env:=by rfl) (hpl:(backTo pos (starEach es X.env)).any (·.1)=false:=by rfl):AEO X (.Call (.Name x p) (e::es) [] pos) (tCB (rDictPK X.K) su) (aDictPK tu) :=
 ⟨pe_callTy (call_dictP hc) hg hm hv ha.pe hn hdb he hpl,sim_dictPK ha.sm⟩
end
theorem x_dictPK(tu:AL)(env:List Sl)(PO:MO->List Sl->Prop):aDictPK tu env PO=tu env fun ds e=>fDictPK ds fun kvs=>PO (.dK kvs) e:=rfl
theorem x_fdPK(ds:List PyData)(k:List (Key×PyData)->Prop):fDictPK [.list ds] k=opt (pairsK ds) fun es=>k (mergeD [] es):=rfl
end
section
theorem intsAre_of:∀{ns:List Int} {us:List Value},Vals (ns.map V.int) us->IntsAre us ns
 | [],us,r=>by
  rw [List.map_nil]at r
  cases r
  exact .nil
 | n::ns,us,r=>by
  rw [List.map_cons]at r
  cases r with
  | cons h t =>
   obtain⟨u,rfl⟩:=h
   exact .cons _ _ (intsAre_of t)
def rTupRow(K:PySem.W.Frag):List V->Hp->VK->Prop:=fun xs H Q =>∃(p:Addr) (ns:List Int),xs = [.ref p]/\SqL K H p (ns.map V.int) /\∀(l:Addr) (o:Obj),o.dict=none->H l=none->Q (.ref l) (upd H l (.frz o (.tup (ns.map V.int))))
section
variable {X:Cx}
theorem call_tupRow:CallR X (.type "tuple") (rTupRow X.K):=by
 intro pins s σ H xs us Q I r h
 obtain⟨p,ns,rfl,hq,q⟩:=h
 obtain⟨u,rfl,rx⟩:=vals1 r
 cases rx
 obtain⟨its,r',pl,hz⟩:=I.list hq
 have hlen:=r'.length
 refine call_tuple_list pl.isList (fun h' kp => ?_) (by simp only [List.size_toArray] <;> omega)
 have I1:Inv X pins σ H { s with heap:=h' }:=I.kept (t':=s.toks) kp
 have I2:Inv X pins σ (upd H h'.objs.size (.frz { cls := .type "tuple",data := .seq its.toArray } (.tup (ns.map V.int)))) { s with heap:=h'.push { cls := .type "tuple",data := .seq its.toArray } } :=
  I1.laid (t':=s.toks) (fun b o e=>Heap.get?_push_of_some _ e) (Nat.le_refl _) (show ObjOk X.prog X.w _ _ _ (.frz _ (.tup (ns.map V.int)))from⟨Heap.get?_push_size _ rfl,hz,its,r',IsTup.new _ _⟩)
 exact⟨.ref h'.objs.size,_,I2,rfl,q _ _ rfl (I1.hok.fresh (Nat.le_refl _))⟩
def fTupRow:List PyData->(PyData->Prop)->Prop
 | [.list ds],k=>intsK ds fun ns=>k (rowPD ns)
 | _,_=>False
theorem sim_tupRow{K:PySem.W.Frag}:SimC (rTupRow K) fTupRow:=by
 intro F H xs ds P Q ex r h q
 match ds,r,h with
 | [.list ds],r,h =>
  obtain⟨v,rfl,r1⟩:=rps1 r
  have h:intsK ds (fun ns=>P (rowPD ns)):=h
  obtain⟨ns,rfl,h2⟩:=intsK_of h
  cases r1 with
  | lst g1 g2 =>
   obtain rfl:=g2.ints
   refine⟨_,ns,rfl,SqL.of (ex _ _ g1),fun l o hd hl => ?_⟩
   obtain⟨t,x⟩:=tr_new (o := .frz o (.tup (ns.map V.int))) hl ex
   exact q _ _ _ _ t x (.row upd_same hd) h2
def rowV(x:V)(H:Hp):Prop :=∃(a:Addr) (o:Obj) (xs:List V),x = .ref a/\H a=some (.frz o (.tup xs))/\o.dict=none
theorem rowV_is{pins:List (Addr×Obj)}{σ:St}{H:Hp}{s:Shared}{x:V}{v:Value}(I:Inv X pins σ H s)(r:RelV x v)(ty:rowV x H) :
  s.TypeIs v "tuple" /\∀a,v = .ref a ->∃ob,s.heap.get? a=some ob/\ob.dict=none:=by
 obtain⟨a,o,xs,rfl,h1,h2⟩:=ty
 cases r
 obtain⟨e,hz,its,rv,ob,e2,hc,n,hd⟩:=I.hok a _ h1
 rw [e]at e2
 cases e2
 exact⟨⟨o,e,hc⟩,fun b eb=>by cases eb;exact⟨o,e,h2⟩⟩
def rIndexT(K:PySem.W.Frag):V->List V->Hp->VK->Prop:=fun x xs H Q =>∃(a:Addr) (ns:List Int) (k:Int),x=V.ref a/\xs = [.int k]/\SqT K H a (ns.map V.int)/\k∈ns/\Q (.int (ns.idxOf k:Nat)) H
theorem mt_indexT:MtR X "tuple.index" (rIndexT X.K):=by
 intro pins s σ H x xs v us Q I rx rxs h
 obtain⟨a,ns,k,rfl,rfl,hq,hk,q⟩:=h
 cases rx
 obtain⟨u,rfl,ru⟩:=vals1 rxs
 obtain⟨t,rfl⟩:=ru
 obtain⟨its,rv,ht,hz⟩:=I.tuple hq
 exact PySem.SeqAt.tuple_index_ints ht (intsAre_of rv) hk ⟨.int (ns.idxOf k:Nat),H,I.tok _,⟨_,rfl⟩,q⟩
def tBR(r:V->List V->Hp->VK->Prop)(to:TE)(t:TA):TE:=fun σ H Q=>to σ H fun x H1=>rowV x H1/\t σ H1 fun xs H2=>r x xs H2 Q
variable {o e a:Expr} {es:List Expr} {to:TE} {t:TA} {name:Str} {apos cpos pos:Pos} {id:String} {r:V->List V->Hp->VK->Prop}
theorem pe_br(slot:Slot "tuple" name id)(hty:typeOf (.builtin id)=pure (.type "method_descriptor"))(hm:MtR X id r)(ho:PE X o to)(ha:PA X (e::es) t)
  (hbase:attributeBase o name X.env (eval o X.env)=eval o X.env:=by rfl)
  (hfew:((backTo cpos (starEach (e::es) X.env)).all (fun x => !x.1)&&(backToKw cpos (keywordEach [] X.env)).all (fun x=>x.1.isSome)
   && decide ((e::es).length+([]:List Keyword).length+(if ([]:List Keyword).isEmpty then 0 else 1)<30))=true:=by rfl)
  (hline:(apos.endLine==cpos.line)=true:=by rfl) (hs:starEach (e::es) X.env=(false,eval e X.env)::starEach es X.env:=by rfl) (hplain:(backTo cpos (starEach es X.env)).any (·.1)=false:=by rfl) :
  PE X (.Call (.Attribute o name apos) (e::es) [] cpos) (tBR r to t):=by
 refine⟨fun pins s σ H Q I h => ?_⟩
 refine wpAny_Call_method_late hbase hfew hline rfl (thn (ho.run pins s σ H _ I h) fun v s1 ⟨x,H1,I1,r1,ty,q1⟩ => ?_)
 obtain⟨h1,h2⟩:=rowV_is I1 r1 ty
 refine⟨"tuple",id,PySem.F.plainAttrs_tuple,slot,hty,h1,h2, ?_⟩
 have hA:=ha.run cpos pins s1 σ H1 _ I1 q1
 rw [hs]at hA ⊢
 refine Calls.callWith_builtin (by show (false||(backTo cpos (starEach es X.env)).any (·.1))=false;rw [hplain] <;> rfl) (Calls.evalArgs_plain ?_)
 exact thn hA fun us s2 ⟨vs,H2,I2,r2,q2⟩=>hm pins s2 σ H2 x vs v us Q I2 r1 r2 q2
def fIdxT:PyData->PyData->(PyData->Prop)->Prop
 | .dict ks,.int k,K=>rowE ks fun ns=>k∈ns/\K (.int (ns.idxOf k:Nat))
 | _,_,_=>False
def onRow(d:PyData)(k:Prop):Prop:=match d with
 | .dict ks=>rowE ks fun _=>k
 | _=>False
def aIdxT(ta tb:AD):AD:=fun env P=>ta env fun d1 e1=>onRow d1 (tb e1 fun d2 e2=>fIdxT d1 d2 fun d=>P d e2)
variable {sa se:TE} {ta te:AD}
theorem ae_idxT(ho:AE X a sa ta)(he:AE X e se te)(hbase:attributeBase a "index" X.env (eval a X.env)=eval a X.env:=by rfl)
  (hfew:((backTo pos (starEach (e :: []) X.env)).all (fun x => !x.1)&&(backToKw pos (keywordEach [] X.env)).all (fun x=>x.1.isSome)
   && decide ((e :: []).length+([]:List Keyword).length+(if ([]:List Keyword).isEmpty then 0 else 1)<30))=true:=by rfl)
  (hline:(apos.endLine==pos.line)=true:=by rfl) (hst:starEach (e :: []) X.env=(false,eval e X.env)::starEach [] X.env:=by rfl) (hplain:(backTo pos (starEach [] X.env)).any (·.1)=false:=by rfl) :
  AE X (.Call (.Attribute a "index" apos) [e] [] pos) (tBR (rIndexT X.K) sa (tCons se tNil)) (aIdxT ta te) :=
 ⟨pe_br PySem.F.slot_tuple_index PySem.F.type_tuple_index mt_indexT ho.pe (pa_cons he.pe pa_nil hst) hbase hfew hline hst hplain,fun Q P ok h q=>ho.sm _ _ ok h fun v1 d1 e1 F1 H1 fp1 t1 ok1 r1 h1=>by
  cases d1 with
  | dict ks =>
   have h1:rowE ks (fun _=>te e1 fun d2 e2=>fIdxT (.dict ks) d2 fun d=>P d e2):=h1
   obtain⟨ns,b,ob,rfl,rfl,g1,g2,h1⟩:=Rp.asRow h1 r1
   refine⟨⟨b,ob,_,rfl,ok1.ex _ _ g1,g2⟩,he.sm _ _ ok1 h1 fun v2 d2 e2 F2 H2 fp2 t2 ok2 r2 h2 => ?_⟩
   cases r2 with
   | int k =>
    have h2:rowE [(.none,.list (ns.map .int))] (fun ns=>k∈ns/\P (.int (ns.idxOf k:Nat)) e2):=h2
    rw [rowE_row]at h2
    exact⟨_,ns,k,rfl,rfl,.inl (.inr ⟨ob,ok2.ex _ _ (t2.ex _ _ g1)⟩),h2.1,q _ _ _ _ _ _ (t1.trans t2) ok2 (.int _) h2.2⟩
   | _=>exact h2.elim
  | _=>exact h1.elim⟩
def rSrtT(K:PySem.W.Frag):List V->Hp->VK->Prop:=fun xs H Q =>∃(a:Addr) (ks:List Int),xs = [.ref a]/\SqT K H a (ks.map V.int) /\
  ∀(ys:List Int) (p:Addr),ys.Perm ks->ys.Pairwise (· <= ·)->H p=none->Q (.ref p) (upd H p (.lst (ys.map V.int)))
theorem call_srtT{k:Nat}(hr:RoomG k X.A):CallR X (.builtin "sorted") (rSrtT X.K):=by
 intro pins s σ H xs us Q I r q
 obtain⟨a,ks,ex,hd,q⟩:=q
 have hu:=hr.u64
 subst ex
 obtain rfl:=Vals.ref1 r
 obtain⟨its,rv,⟨ob,ho,hc,n,hdt⟩,hz⟩:=I.tuple hd
 rw [List.length_map]at hz
 have hS:=intsAre_of rv
 have hil:its.length=ks.length:=by
  have:=rv.length
  rw [List.length_map]at this
  omega
 refine Calls.call_function_entry PyProof.Rows.kind_sorted PyProof.Rows.plain_sorted PyProof.Rows.entry_sorted (PyProof.Rows.args_sorted1 _) ?_
 unfold Builtin.«sorted»
 refine wpAny_bind (m:=checkCount "sorted" 1 1 _) (wpAny_pure ?_)
 refine wpAny_bind (wpAny_collect_seq (A:=X.A.in1) a (.inr rfl) ho hc hdt (fun h' hk => ?_) (by simp only [List.size_toArray] <;> omega))
 have I1:Inv X pins σ H { s with heap:=h' }:=I.kept (t':=s.toks) hk
 rw [List.toList_toArray]
 refine wpAny_bind (wpAny_newList ?_ (by omega))
 have hoL:(h'.push (seqObj "list" its.toArray 0)).get? h'.objs.size=some (seqObj "list" its.toArray 0):=Heap.get?_push_size _ rfl
 show wpAny _ _ _ _ _ { s with heap:=h'.push (seqObj "list" its.toArray 0) }
 have eb:=each_ofInts hS
 refine wpAny_bind (wpAny_holding (PySem.W.list_sort_data (enc:=PyData.int) hoL eb ?_ ?_ ?_ (by omega) (fun b hb => ?_) fun out h1 h2 => ?_))
 ·exact eb.mono fun v b ⟨t,e⟩=>⟨[],by rw [e];exact .int _ _,by simp⟩
 ·intro d hd d' hd'
  obtain⟨x,_,rfl⟩:=List.mem_map.mp hd
  obtain⟨y,_,rfl⟩:=List.mem_map.mp hd'
  rfl
 ·exact PySem.W.Sortable.others fun b=>⟨(fun z=>by cases z),fun xs z=>by cases z⟩
 ·show X.A.units+1+1+0<cLine
  omega
 ·obtain⟨e',he'⟩:=PyProof.Rows.sortedHeap_at (vs:=its) (out:=out.toArray) hoL
  have hp:(ks.mergeSort (PySem.W.dataLe false PyData.int)).Perm ks:=List.mergeSort_perm _ _
  have hlen:((ks.mergeSort (PySem.W.dataLe false PyData.int)).map V.int).length<=sizeLine:=by
   rw [List.length_map,hp.length_eq]
   exact hz
  have hs:(ks.mergeSort (PySem.W.dataLe false PyData.int)).Pairwise (· <= ·):=by
   have e:PySem.W.dataLe false PyData.int=fun a b:Int=>decide (a<=b):=PySem.W.dataLe_int id
   rw [e]
   have:=List.pairwise_mergeSort (le:=fun a b:Int=>decide (a<=b)) (fun a b c h1 h2=>by simp only [decide_eq_true_eq]at *;omega) (fun a b=>by simp only [Bool.or_eq_true,decide_eq_true_eq];omega) ks
   exact this.imp fun h=>of_decide_eq_true h
  refine wpAny_pure ⟨_,rfl,.ref h'.objs.size,upd H h'.objs.size (.lst ((ks.mergeSort (PySem.W.dataLe false PyData.int)).map V.int)),I1.laid (t':=s.toks) (fun b u e => ?_) (Nat.le_refl _)
   (show ObjOk X.prog X.w _ _ _ (.lst _)from⟨hlen,out,e',vals_ofEach h2,he'⟩),rfl,q _ _ hp hs (I1.hok.fresh (Nat.le_refl _))⟩
  have hb:b<h'.objs.size:=Heap.lt_size e
  rw [PyProof.Rows.sortedHeap_old (Nat.ne_of_lt hb) (by rw [size_push'];exact Nat.lt_succ_of_lt hb)]
  exact Heap.get?_push_of_some _ e
def fSrtT:List PyData->(List PyData->Prop)->Prop
 | [.tuple ds],k=>intsK ds fun ns =>∀ys:List Int,ys.Perm ns->ys.Pairwise (· <= ·)->k (ys.map .int)
 | [.dict ks],k=>rowE ks fun ns =>∀ys:List Int,ys.Perm ns->ys.Pairwise (· <= ·)->k (ys.map .int)
 | _,_=>False
theorem sim_srtT{K:PySem.W.Frag}:SimCo (rSrtT K) fSrtT:=by
 intro F H xs ds P Q ex r h q
 match ds,r,h with
 | [.tuple ds],r,h =>
  obtain⟨v,rfl,r1⟩:=rps1 r
  have h:intsK ds (fun ns =>∀ys:List Int,ys.Perm ns->ys.Pairwise (· <= ·)->P (ys.map .int)):=h
  obtain⟨ns,rfl,h2⟩:=intsK_of h
  cases r1 with
  | tup g1 g2 =>
   obtain rfl:=g2.ints
   exact⟨_,ns,rfl,SqT.of (ex _ _ g1),fun ys p e1 e2 hp=>q _ _ _ hp (Rps.ofInts ys) (h2 ys e1 e2)⟩
 | [.dict ks],r,h =>
  obtain⟨v,rfl,r1⟩:=rps1 r
  have h:rowE ks (fun ns =>∀ys:List Int,ys.Perm ns->ys.Pairwise (· <= ·)->P (ys.map .int)):=h
  obtain⟨ns,b,ob,rfl,rfl,g1,g2,h⟩:=Rp.asRow h r1
  exact⟨_,ns,rfl,.inl (.inr ⟨ob,ex _ _ g1⟩),fun ys p e1 e2 hp=>q _ _ _ hp (Rps.ofInts ys) (h ys e1 e2)⟩
end
theorem x_idxT(ta tb:AD)(env:List Sl)(P:PyData->List Sl->Prop):aIdxT ta tb env P=ta env fun d1 e1=>onRow d1 (tb e1 fun d2 e2=>fIdxT d1 d2 fun d=>P d e2):=rfl
theorem x_onRow(ns:List Int)(k:Prop):onRow (rowPD ns) k=k:=rowE_row ns fun _=>k
theorem f_idxT(ns:List Int)(k:Int)(K:PyData->Prop):fIdxT (rowPD ns) (.int k) K=(k∈ns/\K (.int (ns.idxOf k:Nat))):=rowE_row ns _
theorem f_tupRow(ns:List Int)(K:PyData->Prop):fTupRow [.list (ns.map .int)] K=K (rowPD ns):=intsK_map ns _
theorem f_srtR(ns:List Int)(K:List PyData->Prop):fSrtT [rowPD ns] K =∀ys:List Int,ys.Perm ns->ys.Pairwise (· <= ·)->K (ys.map .int):=rowE_row ns _
theorem f_lenR(ns:List Int)(K:PyData->Prop):fLen [rowPD ns] K=K (.int ns.length):=rowE_row ns _
theorem f_ixR(ns:List Int)(i:Int)(K:PyData->Prop):fIx (rowPD ns) (.int i) K=opt (atI ns i) fun n=>K (.int n):=(rowE_row ns _).trans (opt_ex _ _)
theorem f_addR(ns:List Int)(b:List PyData)(K:PyData->Prop):fAdd (rowPD ns) (.tuple b) K=(sz (ns.length+b.length)/\0<b.length/\K (.tuple (ns.map .int++b))):=rowE_row ns _
end
section
theorem lcL_rn{g:AG}{tt:AT}{te:AD}{vs:List Nat}{K:List PyData->List Sl->Prop}{env:List Sl}(c:Nat)(hc:c<=2^20)(I:List Int->List Sl->Prop)
  (fin:∀ou env,ou.length=c->I ou env->K (ou.map .int) env)
  (step:∀ou env (Kt:PyData->List Sl->Prop) (Kf:List Sl->Prop),ou.length<c->I ou env->(∀x e,I (ou ++ [x]) e->Kt (.int x) e)->g (.int (ou.length:Nat)) (wipeE env vs) fun e2=>tt e2 fun b e3=>(b=true->te e3 Kt)/\(b=false->Kf e3))
  (j:I [] env):lcL g tt te vs K (rgD 0 c) [] env:=by
 have e:rgD 0 c=(List.range c).map fun k=>PyData.int (k:Nat):=by
  unfold rgD
  exact List.map_congr_left fun k _=>by simp
 rw [e]
 refine lcL_ind (fun ds acc env =>∃ou:List Int,∃m,acc=ou.map .int/\ds=((List.range c).drop ou.length).map (fun k=>PyData.int (k:Nat))/\ou.length+ds.length=c+m/\m=0/\I ou env) ?_ ?_ _ _ _ ⟨[],0,rfl,rfl,by simp,rfl,j⟩
 ·rintro acc env ⟨ou,m,rfl,e1,e2,rfl,h⟩
  exact fin ou env (by simpa using e2) h
 ·rintro d ds acc env ih ⟨ou,m,rfl,e1,e2,rfl,h⟩
  rw [List.length_cons]at e2
  have hlt:ou.length<c:=by omega
  have e3:(List.range c).drop ou.length=ou.length::(List.range c).drop (ou.length+1):=by
   rw [List.drop_eq_getElem_cons (by rw [List.length_range];exact hlt),List.getElem_range]
  rw [e3,List.map_cons]at e1
  obtain⟨rfl,rfl⟩:=List.cons.inj e1
  have hs:((ou.map PyData.int).length<sizeLine):=by rw [List.length_map];exact sizeLine_big (by omega)
  have:=step ou env (fun y e4=>(ou.map PyData.int).length<sizeLine/\lcL g tt te vs K _ (ou.map PyData.int ++ [y]) e4) (fun e4=>lcL g tt te vs K (((List.range c).drop (ou.length+1)).map fun k=>PyData.int (k:Nat)) (ou.map PyData.int) e4) hlt h fun x e hI=>⟨hs,ih _ _ ⟨ou ++ [x],0,by rw [List.map_append];rfl,by rw [List.length_append,List.length_singleton],by rw [List.length_append,List.length_singleton];omega,rfl,hI⟩⟩
  exact this
end
section
abbrev Lp:=List Nat×List Int
def WL(n:Nat)(a:Lp):Prop:=Lts a.1/\a.2.length=n
section
variable {G:List Nat->Vc->Prop} (gr:Grp G) {n:Nat} {a b:Lp} (ha:WL n a) (hb:WL n b)
include gr ha
include hb
end
end
section
section
variable {X:Cx} {pins:List (Addr×Obj)} {σ:St} {H:Hp} {st:Shared}
structure Grown(H G:Hp)(P f c:Addr)(nm:Nat->Nat->Str)(pl:Pos)(w:NdefX.NF):Prop where
 kp:∀b u,b≠P->H b=some u->G b=some u
 bk:∀b u,G b=some u->H b=some u∨b=P∨b=f∨b=c
 tb:∃ps us:Array Value,H P=some (.tbl ps)/\G P=some (.tbl us)/\TriplesOk us.toList /\∀(p:Pos) (v:Value),codeAmong p us.toList=some v->codeAmong p ps.toList=some v∨(v = .ref c/\pl.line=p.line/\pl.col=p.col)
 nf:H f=none
 nc:H c=none ∨∃ps:Array Value,H P=some (.tbl ps)/\codeAmong pl ps.toList=some (.ref c)
 fn:G f=some (NdefX.FnO f w)
 co:G c=some (LamX.CodeO c w.qual)
def tNd(P:Addr)(nm:Nat->Nat->Str)(i:Nat)(pl:Pos)(mk:Addr->NdefX.NF):TS:=fun D σ H =>
 (∃ps:Array Value,H P=some (.tbl ps)/\TriplesOk ps.toList /\∀(p:Pos) (v:Value),codeAmong p ps.toList=some v ->∃c,v = .ref c/\H c=some (LamX.CodeO c (nm p.line p.col))) /\
 ∀(f c:Addr) (G:Hp),Grown H G P f c nm pl (mk c)->D.nx (σ.set i (some (.ref f))) G
theorem ps_nd{nm:Nat->Nat->Str}{c0 P:Addr}{name:Str}{sm:Stmt}{pl:Pos}{i:Nat}(hst:sm = .FunctionDef name (C8.fnArgs sm) (C8.fnBody sm) [] none [] (C8.fnScope sm) none name pl)(TB:LamX.TabB X.base X.mg c0 P)(hcode:X.env.code = .ref c0)(hn:nm pl.line pl.col=X.env.qual++name)
  (hfree:∀y∈(C8.fnScope sm).names,y.2 = .free->X.env.scope.names.lookup y.1=some .cell∨X.env.scope.names.lookup y.1=some .free) (hd0:(C8.fnArgs sm).defaults = []) (hk0:(C8.fnArgs sm).kw_defaults = []) (ha:annTrees (C8.fnArgs sm) none X.env = [])
  (hN:X.N.Nodup) (hi:X.N[i]? =some name) (hx:Loc X.env.scope name) (hf:X.fn name=true∨X.env.scope.names.lookup name=some .local) :
  PS X sm (tNd P nm i pl (NdefX.NF.of sm name (X.env.qual++name) (cloFrom X.env.cells (C8.fnScope sm).names []))):=by
 refine⟨fun pins st σ H D I ⟨⟨ps,tP,tr,all⟩,go⟩ => ?_⟩
 have hq:qualnameIn X.env name name=X.env.qual++name:=by
  rcases(show X.env.kindOf name=some .local∨X.env.kindOf name=some .cell from hx)with k | k <;> (unfold qualnameIn;rw [k]) <;> first | rfl | exact if_neg (by decide)
 have cells:∀y∈(C8.fnScope sm).names,y.2 = .free ->∃c,X.env.cells.lookup y.1=some c:=fun y hy e=>by
  rcases hfree y hy e with z | z
  ·exact I.ok.has _ (.inl z)
  ·exact I.ok.has _ (.inr z)
 rw [hst]
 refine PySem.W.nestDef_K hd0 hk0 ha ?_
 rw [hq]
 have gone:∀(f c:Addr) (G:Hp) (s2:Shared),Inv X pins σ G s2->Grown H G P f c nm pl (NdefX.NF.of sm name (X.env.qual++name) (cloFrom X.env.cells (C8.fnScope sm).names []) c) ->
   wpAny (model X.prog X.w) X.A (storeName X.env name (.ref f)) (fun _ s3=>SP X pins D .next s3) X.xe s2:=fun f c G s2 J g =>
  store_ok J hN hi hx (v := .ref f) rfl (fun s3 J3=>⟨_,G,J3,go f c G g⟩) hf
 have bP:st.heap.BuiltinsAt X.mg P:=TB.bm.keeps I.bk
 have gP:st.heap.get? P=some { cls := .none,data := .fields ps }:=I.hok P _ tP
 cases hc:codeAmong pl ps.toList with
 | none =>
  refine PySem.W.makeFunction_K (mg:=X.mg) (c:=c0) (P:=P) (ps:=ps) (closure_ok cells) I.ok.glob (I.mod.glob.keeps I.bk) hcode (TB.code.keeps I.bk) gP tr hc TB.gP bP fun c v1 v2 h2 tk hx2 hge hlt hrec htb => ?_
  obtain⟨c1,oc,vs,t,e1,hoc,hd,hv⟩:=hrec
  cases e1
  have nC:H c=none:=I.hok.fresh hge
  have J:=LamX.inv_table (t':=tk) (more := #[rawInt pl.line,rawInt pl.col,.ref c]) (h':=h2) I tP (fun b o hb e=>hx2 b o hb e) htb hge ⟨oc,vs,t,hoc,hd,hv⟩
  have nF:=J.hok.fresh (Nat.le_refl _)
  have J2:=NdefX.inv_fn (F:=NdefX.NF.of sm name (X.env.qual++name) (cloFrom X.env.cells (C8.fnScope sm).names []) c) (t':=tk) (doc:=v2) (pm:=(X.mg "__name__").getD .none) (ctv:=v1) J rfl
  refine gone _ c _ _ J2 ⟨fun b u hb e => ?_,fun b u e => ?_,⟨ps,ps ++ #[rawInt pl.line,rawInt pl.col,.ref c],tP, ?_, ?_,fun p v hv2 => ?_⟩,I.hok.fresh (Nat.le_trans hge (Nat.le_of_lt hlt)),.inl nC,upd_same, ?_⟩
  ·have e2:upd (upd H P (.tbl (ps ++ #[rawInt pl.line,rawInt pl.col,.ref c]))) c (LamX.CodeO c (X.env.qual++name)) b=some u:=by
    rw [upd_ne (ne_of_none e nC),upd_ne hb]
    exact e
   rw [upd_ne (ne_of_none e2 nF)]
   exact e2
  ·by_cases b1:b=h2.objs.size
   ·exact .inr (.inr (.inl b1))
   ·rw [upd_ne b1]at e
    by_cases b2:b=c
    ·exact .inr (.inr (.inr b2))
    ·rw [upd_ne b2]at e
     by_cases b3:b=P
     ·exact .inr (.inl b3)
     ·rw [upd_ne b3]at e
      exact .inl e
  ·have e2:upd (upd H P (.tbl (ps ++ #[rawInt pl.line,rawInt pl.col,.ref c]))) c (LamX.CodeO c (X.env.qual++name)) P=some (.tbl (ps ++ #[rawInt pl.line,rawInt pl.col,.ref c])):=by
    rw [upd_ne (ne_of_none tP nC),upd_same]
   rw [upd_ne (ne_of_none e2 nF)]
   exact e2
  ·rw [show (ps ++ #[rawInt pl.line,rawInt pl.col,.ref c]).toList=ps.toList ++ [rawInt pl.line,rawInt pl.col,.ref c]by simp]
   exact PySem.TriplesOk_snoc _ _ _ _ tr
  ·rw [show (ps ++ #[rawInt pl.line,rawInt pl.col,.ref c]).toList=ps.toList ++ [rawInt pl.line,rawInt pl.col,.ref c]by simp]at hv2
   exact NdefX.among_app2 _ tr hv2
  ·exact(upd_ne (Nat.ne_of_lt hlt)).trans upd_same
 | some cv =>
  obtain⟨c,rfl,hco⟩:=all pl cv hc
  rw [hn]at hco
  refine PySem.W.makeFunction_hit (mg:=X.mg) (c:=c0) (P:=P) (ps:=ps) (closure_ok cells) I.ok.glob (I.mod.glob.keeps I.bk) hcode (TB.code.keeps I.bk) gP tr hc bP fun v1 v2 h2 tk hx2 hsz => ?_
  have J:Inv X pins σ H { st with heap:=h2,toks:=tk }:=I.kept hx2
  have nF:H h2.objs.size=none:=J.hok.fresh (Nat.le_refl _)
  have J2:=NdefX.inv_fn (F:=NdefX.NF.of sm name (X.env.qual++name) (cloFrom X.env.cells (C8.fnScope sm).names []) c) (t':=tk) (doc:=v2) (pm:=(X.mg "__name__").getD .none) (ctv:=v1) J rfl
  have k:∀b u,H b=some u->upd H h2.objs.size (NdefX.FnO h2.objs.size (NdefX.NF.of sm name (X.env.qual++name) (cloFrom X.env.cells (C8.fnScope sm).names []) c)) b=some u:=fun b u e=>by
   rw [upd_ne (ne_of_none e nF)]
   exact e
  refine gone _ c _ _ J2 ⟨fun b u _ e=>k b u e,fun b u e => ?_,⟨ps,ps,tP,k _ _ tP,tr,fun p v z => .inl z⟩,nF,.inr ⟨ps,tP,hc⟩,upd_same,k _ _ hco⟩
  by_cases b1:b=h2.objs.size
  ·exact .inr (.inr (.inl b1))
  ·rw [upd_ne b1]at e
   exact .inl e
end
end
section
def aNd(j i:Nat)(P:Addr)(nm:Nat->Nat->Str)(mk:Addr->NdefX.NF):ATS:=fun A env=>env[j]? =some (.tab P nm)/\i<env.length/\i≠j/\A.nx (env.set i (.fn mk))
theorem sim_nd{ks:List Nat}{j i:Nat}{P:Addr}{nm:Nat->Nat->Str}{pl:Pos}{mk:Addr->NdefX.NF}(hq:∀c,(mk c).qual=nm pl.line pl.col)(hc:∀c,(mk c).c=c)(hi:i∉ks):SimS ks (tNd P nm i pl mk) (aNd j i P nm mk):=by
 intro σ env F H fp D A ok h q
 obtain⟨e0,li,nij,h⟩:=h
 obtain⟨x,fj,fr,e1,hs,hm,hd,put⟩:=ok.env.at e0
 cases hs with
 | tab tb =>
  obtain⟨ps,t1,t2,t3⟩:=tb
  have Pf:P∈fp:=(hm P).mpr (.inl (by simp))
  have FP:F P=none:=ok.fr P Pf
  refine⟨⟨ps,t1,t2,fun p v hv => ?_⟩,fun f c G g => ?_⟩
  ·obtain⟨c,e2,e3⟩:=t3 p v hv
   exact⟨c,e2,ok.ex _ _ e3⟩
  have gco:G c=some (LamX.CodeO c (nm pl.line pl.col)):=by rw [g.co,hq]
  have fc:∀u,F c=some u->u=LamX.CodeO c (nm pl.line pl.col):=fun u e=>by
   rcases g.nc with z | ⟨ps2,z1,z2⟩
   ·rw [ok.ex _ _ e]at z;cases z
   ·rw [t1]at z1
    cases z1
    obtain⟨c2,y1,y2⟩:=t3 _ _ z2
    cases y1
    rw [y2]at e
    exact(Option.some.inj e).symm
  let F1:Hp:=fun b=>if b=f∨b=c then G b else F b
  have f1:∀b,b=f∨b=c->F1 b=G b:=fun b hb=>if_pos hb
  have f2:∀b,¬(b=f∨b=c)->F1 b=F b:=fun b hb=>if_neg hb
  have ex1:Ex F F1:=fun b u e=>by
   by_cases hb:b=f∨b=c
   ·rw [f1 b hb]
    rcases hb with rfl | rfl
    ·have:=ok.ex _ _ e
     rw [g.nf]at this;cases this
    ·rw [fc u e];exact gco
   ·rw [f2 b hb];exact e
  have ex2:Ex F1 G:=fun b u e=>by
   by_cases hb:b=f∨b=c
   ·rw [f1 b hb]at e;exact e
   ·rw [f2 b hb]at e
    exact g.kp b u (fun z=>by rw [z,FP]at e;cases e) (ok.ex _ _ e)
  have nPf:P≠f:=fun z=>by rw [z,g.nf]at t1;cases t1
  have nPc:P≠c:=fun z=>by
   obtain⟨ps3,us,_,z2,_⟩:=g.tb
   rw [z,g.co]at z2
   cases z2
  have fp1:F1 P=none:=by rw [f2 P (by rintro(z | z);exact nPf z;exact nPc z)];exact FP
  have tb2:TabAt F1 G P nm:=by
   obtain⟨ps3,us,z1,z2,z3,z4⟩:=g.tb
   rw [t1]at z1
   cases z1
   refine⟨us,z2,z3,fun p v hv => ?_⟩
   rcases z4 p v hv with y | ⟨rfl,y1,y2⟩
   ·obtain⟨c3,e2,e3⟩:=t3 p v y
    exact⟨c3,e2,ex1 _ _ e3⟩
   ·exact⟨c,rfl,by rw [f1 c (.inr rfl),gco,y1,y2]⟩
  have hk:∀b∈fr,∀u,H b=some u->G b=some u:=fun b hb u e=>g.kp b u (fun z=>hd P (by simp) (z ▸ hb)) e
  obtain⟨fpA,heA,hmA⟩:=put F1 G x (.tab P nm) [P] ex1 hk (.tab tb2) hd
  rw [set_same e1,set_same e0]at heA
  obtain⟨y,fi,fs,k1,ks1,km,kd,kput⟩:=heA.at (List.getElem?_eq_getElem li)
  obtain⟨fpB,heB,hmB⟩:=kput F1 G (some (.ref f)) (.fn mk) [] (Ex.refl F1) (fun _ _ _ u=>u) (.fn (c:=c) (by rw [f1 f (.inl rfl)];exact g.fn) (by rw [hc,f1 c (.inr rfl),hq];exact gco)) (fun _ hb=>by simp at hb)
  have sub:∀b,b∈fpB->b∈fp:=fun b hb=>by
   have h1:b∈fpA:=(km b).mpr (((hmB b).mp hb).elim (fun z=>by simp at z) .inr)
   exact(hm b).mpr ((hmA b).mp h1)
  refine q.nx _ _ F1 G fpB ⟨ex1,fun b u e n=>g.kp b u (fun z=>n (z ▸ Pf)) e,fun b z => ?_,fun b hb => .inl (sub b hb)⟩ ⟨ex2,heB,fun b hb => ?_⟩ (kept_set hi) h
  ·by_cases hb:b=f∨b=c
   ·rcases hb with rfl | rfl
    ·exact .inr (.inl g.nf)
    ·rcases g.nc with w | ⟨ps2,w1,w2⟩
     ·exact .inr (.inl w)
     ·rw [t1]at w1
      cases w1
      obtain⟨c2,y1,y2⟩:=t3 _ _ w2
      cases y1
      exact .inl (by rw [y2];exact fun z=>by cases z)
   ·rw [f2 b hb]at z
    exact .inl z
  ·have hb2:=sub b hb
   by_cases hz:b=f∨b=c
   ·exfalso
    have th:=ok.env.there b hb2
    rcases hz with rfl | rfl
    ·exact th g.nf
    ·rcases g.nc with w | ⟨ps2,w1,w2⟩
     ·exact th w
     ·rw [t1]at w1
      cases w1
      obtain⟨c2,y1,y2⟩:=t3 _ _ w2
      cases y1
      rw [ok.fr _ hb2]at y2
      cases y2
   ·rw [f2 b hz]
    exact ok.fr b hb2
section
variable {X:Cx} {ks:List Nat}
theorem as_nd{nm:Nat->Nat->Str}{c0 P:Addr}{name:Str}{sm:Stmt}{pl:Pos}{i:Nat}(j:Nat)(TB:LamX.TabB X.base X.mg c0 P)(hcode:X.env.code = .ref c0)(hn:nm pl.line pl.col=X.env.qual++name)(hN:X.N.Nodup)(hst:sm = .FunctionDef name (C8.fnArgs sm) (C8.fnBody sm) [] none [] (C8.fnScope sm) none name pl)
  (hfree:∀y∈(C8.fnScope sm).names,y.2 = .free->X.env.scope.names.lookup y.1=some .cell∨X.env.scope.names.lookup y.1=some .free) (hi:X.N[i]? =some name) (hx:Loc X.env.scope name) (hd0:(C8.fnArgs sm).defaults = []:=by rfl) (hk0:(C8.fnArgs sm).kw_defaults = []:=by rfl) (ha:annTrees (C8.fnArgs sm) none X.env = []:=by rfl)
  (hf:X.fn name=true∨X.env.scope.names.lookup name=some .local:=by first | exact .inl rfl | exact .inr rfl) (hk:i∉ks:=by decide) :
  AS X ks sm (tNd P nm i pl (NdefX.NF.of sm name (X.env.qual++name) (cloFrom X.env.cells (C8.fnScope sm).names []))) (aNd j i P nm (NdefX.NF.of sm name (X.env.qual++name) (cloFrom X.env.cells (C8.fnScope sm).names []))) :=
 ⟨ps_nd hst TB hcode hn hfree hd0 hk0 ha hN hi hx hf,sim_nd (fun _=>hn.symm) (fun _=>rfl) hk⟩
end
def spT(P0:Addr)(nm:Nat->Nat->Str)(R:ASp):L2.Sp:=fun vs H Q _ =>∃F fp args W,Ok F H (vs.map some) args fp/\TabAt F H P0 nm/\F P0=none/\P0∉fp/\R args W /\
 ∀v r args' F' H' fp',Tr F H (P0::fp) F' H' (P0::fp')->Ok F' H' (some v::vs.map some) (r::args') fp'->TabAt F' H' P0 nm->F' P0=none->P0∉fp'->W r args'->Q v H'
theorem EnvAt.lend{F H:Hp}{σ:St}{env:List Sl}{fp:List Addr}{j:Nat}{P0:Addr}{nm:Nat->Nat->Str}(h:EnvAt F H σ env fp)(hj:env[j]? =some .non)(t:TabAt F H P0 nm)(n:P0∉fp) :
  ∃fq,EnvAt F H σ (env.set j (.tab P0 nm)) fq /\∀b,b∈fq↔b=P0∨b∈fp:=by
 obtain⟨x,fi,fr,e1,hs,hm,hd,put⟩:=h.at hj
 have fi0:∀b,b∉fi:=by
  cases hs with
  | non=>exact fun b hb=>by simp at hb
 have n2:P0∉fr:=fun z=>n ((hm P0).mpr (.inr z))
 obtain⟨fq,he,hm2⟩:=put F H x (.tab P0 nm) [P0] (Ex.refl F) (fun _ _ _ u=>u) (.tab t) (fun b hb z=>n2 ((List.mem_singleton.mp hb) ▸ z))
 rw [set_same e1]at he
 refine⟨fq,he,fun b=>(hm2 b).trans ⟨fun z=>z.elim (fun y => .inl (List.mem_singleton.mp y)) fun y => .inr ((hm b).mpr (.inr y)),fun z=>z.elim (fun y => .inl (by simp [y])) fun y => .inr (((hm b).mp y).elim (fun w=>absurd w (fi0 b)) id)⟩⟩
theorem EnvAt.lent{F H:Hp}{σ:St}{env:List Sl}{fp:List Addr}{j:Nat}{P0:Addr}{nm:Nat->Nat->Str}(h:EnvAt F H σ env fp)(hj:env[j]? =some (.tab P0 nm)) :
  ∃fq,EnvAt F H σ (env.set j .non) fq/\TabAt F H P0 nm/\P0∉fq /\∀b,b∈fp↔b=P0∨b∈fq:=by
 obtain⟨x,fi,fr,e1,hs,hm,hd,put⟩:=h.at hj
 cases hs with
 | tab t =>
  obtain⟨fq,he,hm2⟩:=put F H x .non [] (Ex.refl F) (fun _ _ _ u=>u) .non (fun _ hb=>by simp at hb)
  rw [set_same e1]at he
  have s:∀b,b∈fq↔b∈fr:=fun b=>(hm2 b).trans ⟨fun z=>z.elim (fun y=>by simp at y) id,.inr⟩
  refine⟨fq,he,t,fun z=>hd P0 (by simp) ((s _).mp z),fun b=>(hm b).trans ⟨fun z=>z.elim (fun y => .inl (List.mem_singleton.mp y)) fun y => .inr ((s b).mpr y),fun z=>z.elim (fun y => .inl (by simp [y])) fun y => .inr ((s b).mp y)⟩⟩
theorem Tr.sub{F H F' H':Hp}{fp fq fp' fq':List Addr}(t:Tr F H fp F' H' fp')(h:∀b,b∈fp->b∈fq)(h':∀b,b∈fq'->b∈fp'∨b∈fq):Tr F H fq F' H' fq' :=
 ⟨t.ex,fun a o e n=>t.kp a o e fun z=>n (h a z),fun a z=>(t.nw a z).imp id fun y=>y.imp id (h a),fun a ha=>(h' a ha).elim (fun z=>(t.nf a z).imp (h a) id) .inl⟩
section
variable {P:Program} {w:World} {K:PySem.W.Frag} {mg:Str->Option Value} {base:Heap} {P0:Addr} {nm:Nat->Nat->Str}
def CodeAt(K:PySem.W.Frag)(f:Addr)(qual:Str)(cdv:Value):Prop:=(∃(oc:Value) (od:Option Addr) (g:FuncData) (osl:Array (Option Value)),K.lookup f=some ⟨oc,od,.func g,osl⟩/\g.code=cdv)/\PySem.W.codeIn K cdv qual=true
theorem okT{x qual:Str}{pr:Arguments}{body:List Stmt}{sco:Scope}{dvs:List V}{kws:List (Str×V)}{f:Addr}{fd:FuncData}{N ps:List Str}{k:Nat}{R:ASp}(F:FunD K x qual pr body sco dvs kws f fd)(S:FnScope N ps sco)(ks:List Nat)(len:∀args W,R args W->args.length=ps.length)(hks:∀i∈ks,i<ps.length)(hlt:ps.length<N.length)
  (hbody:∀(cdv:Value) (A:Around) (outer:List Env) (s:Shared) (H:Hp) (E:XK),CodeAt K f qual cdv->RoomG k (A.deeper (envOfC qual sco s.heap.objs.size f cdv)) ->
   ∃ts t,ASs (cxOf CX0 P w K mg base N qual sco f cdv A outer s H E).nox ks body ts t /\
    ∀args W,R args W->t { nx:=fun env=>env[N.length-1]? =some (.tab P0 nm)/\W (.dat .none) (mask ks ps.length env),rt:=fun r env=>env[N.length-1]? =some (.tab P0 nm)/\W r (mask ks ps.length env) } ((args++List.replicate (N.length-ps.length) Sl.non).set (N.length-1) (.tab P0 nm))):FnG P w K mg base CX0 (k+1) f fd ps (spT P0 nm R):=by
 obtain⟨oc,od,dV,kV,doc,pm,an,cdv,ct,osl,rfl,lk,hcd,_,_⟩:=F.ex
 refine fng_of lk hcd S (fun vs H Q E h => ?_) (fun A outer s H vs Q E hr h => ?_)
 ·obtain⟨F,fp,args,W,ok,_,_,_,hR,_⟩:=h
  rw [<- len _ _ hR,<- ok.env.len,List.length_map]
 ·obtain⟨F0,fp,args,W,ok,tb,hF,hn,hR,q⟩:=h
  obtain⟨ts,t,hb,ht⟩:=hbody cdv A outer s H E ⟨⟨_,_,_,_,lk,rfl⟩,hcd⟩ hr
  have al:args.length=ps.length:=len _ _ hR
  have hl:vs.length=ps.length:=by rw [<- al,<- ok.env.len,List.length_map]
  refine⟨ts,PSs.nox hb.pe, ?_⟩
  have e0:EnvAt F0 H (L2.start N vs) (args++List.replicate (N.length-ps.length) .non) fp:=by
   unfold L2.start
   rw [hl]
   exact ok.env.start _
  have last:(args++List.replicate (N.length-ps.length) Sl.non)[N.length-1]? =some .non:=by
   rw [List.getElem?_append_right (by omega),List.getElem?_replicate,if_pos (by omega)]
  obtain⟨fq,eq,mq⟩:=e0.lend last tb hn
  have ok0:Ok F0 H (L2.start N vs) ((args++List.replicate (N.length-ps.length) Sl.non).set (N.length-1) (.tab P0 nm)) fq:=⟨ok.ex,eq,fun b hb=>((mq b).mp hb).elim (fun z=>z ▸ hF) (ok.fr b)⟩
  have fin:∀{v:V} {r:Sl} {σ':St} {env':List Sl} {F' H':Hp} {fp':List Addr},Tr F0 H fq F' H' fp'->Ok F' H' (some v::σ') (r::env') fp'->Kept ks (L2.start N vs) σ'->env'[N.length-1]? =some (.tab P0 nm)/\W r (mask ks ps.length env')->Q v H':=by
   intro v r σ' env' F' H' fp' t' ok' k' hp
   have he:=ok'.env
   cases he with
   | cons h1 h2 h3 =>
    rename_i f1 f2
    obtain⟨f3,h4,tb2,n2,m2⟩:=h2.lent hp.1
    obtain⟨fp2,he2,sub⟩:=EnvAt.mask (ks:=ks) (vs.map some) 0 h4 fun i hi _ hlt=>by
     have e:=k' i hi
     rw [Nat.sub_zero,e]
     unfold L2.start
     rw [List.length_map]at hlt
     rw [List.getElem?_append_left (by rw [List.length_map];omega)]
    rw [List.length_map,hl]at he2
    have em:maskL ks 0 ps.length (env'.set (N.length-1) Sl.non)=maskL ks 0 ps.length env':=by
     have go:∀(n o j:Nat) (e:List Sl),(o+n<=o+j)->maskL ks o n (e.set j .non)=maskL ks o n e:=by
      intro n
      induction n with
      | zero=>intro o j e _;rfl
      | succ n ih =>
       intro o j e h
       cases e with
       | nil=>rfl
       | cons s e =>
        obtain⟨j,rfl⟩:∃i,j=i+1:=⟨j-1,by omega⟩
        show (if o∈ks then s else .non)::maskL ks (o+1) n (e.set j .non)=_
        rw [ih (o+1) j e (by omega)]
        rfl
     exact go _ _ _ _ (by omega)
    rw [em]at he2
    have P2:P0∉f1:=fun z=>h3 P0 z ((m2 P0).mpr (.inl rfl))
    have s2:∀b∈fp2,b∈f2:=fun b hb=>(m2 b).mpr (.inr (sub b hb))
    have FP:F' P0=none:=ok'.fr P0 (List.mem_append_right _ ((m2 P0).mpr (.inl rfl)))
    refine q v r _ F' H' (f1++fp2) (t'.sub (fun b hb=>((mq b).mp hb).elim (fun z=>by simp [z]) fun z => .tail _ z) fun b hb => ?_) ⟨ok'.ex,.cons h1 he2 fun a ha hb=>h3 a ha (s2 a hb),fun b hb=>ok'.fr b ((List.mem_append.mp hb).elim (List.mem_append_left _) fun z=>List.mem_append_right _ (s2 b z))⟩ tb2 FP (fun z=>(List.mem_append.mp z).elim P2 fun y=>n2 (sub _ y)) hp.2
    rcases List.mem_cons.mp hb with rfl | hb
    ·exact .inr (.head _)
    ·exact .inl ((List.mem_append.mp hb).elim (List.mem_append_left _) fun z=>List.mem_append_right _ (s2 b z))
  refine hb.sm _ _ ok0 (ht _ _ hR) ⟨fun σ' env' F' H' fp' t' ok' k' hp => ?_,fun σ' env' F' H' fp' t' ok' k' hp=>hp.elim,fun σ' env' F' H' fp' t' ok' k' hp=>hp.elim,fun v r σ' env' F' H' fp' t' ok' k' hp=>fin t' ok' k' hp⟩
  exact fin (r := .dat .none) t' (ok'.cons .non) k' hp
end
end
section
theorem call_simT{R:ASp}{σ:St}{F0 H0 F H:Hp}{fp0 fp fo:List Addr}{env:List Sl}{vs:List V}{as:List Arg}{xs e:List Sl}{j:Nat}{P0:Addr}{nm:Nat->Nat->Str}{Q:VK}{E:XK}{W:Sl->List Sl->Prop}(tr:Tr F0 H0 fp0 F H fp)(ok:Ok F H σ env fp)(ar:ArgsAt F H σ vs as fo)(hf:∀b∈fo,F b=none/\b∉fp/\(b∈fp0∨H0 b=none))
  (hj:env[j]? =some (.tab P0 nm)) (hg:grab as (env.set j .non)=some (xs,e)) (ej:e[j]? =some .non) (hR:R xs fun r ys=>(give as ys e)[j]? =some .non/\W r ((give as ys e).set j (.tab P0 nm)))
  (q:∀v r env' F' H' fpv fp',Tr F0 H0 fp0 F' H' (fpv++fp')->Ok F' H' σ env' fp'->SlAt F' H' (some v) r fpv->(∀b∈fpv,F' b=none/\b∉fp')->W r env'->Q v H'):spT P0 nm R vs H Q E:=by
 obtain⟨f1,he1,tb,n1,m1⟩:=ok.env.lent hj
 have okn:Ok F H σ (env.set j .non) f1:=⟨ok.ex,he1,fun b hb=>ok.fr b ((m1 b).mpr (.inr hb))⟩
 have PF:P0∈fp:=(m1 P0).mpr (.inl rfl)
 obtain⟨fa,fe,h1,h2,h3,h4,h5⟩:=grab_ok okn ar (fun b hb=>⟨(hf b hb).1,fun z=>(hf b hb).2.1 ((m1 b).mpr (.inr z))⟩) hg
 have nPa:P0∉fa:=fun z=>(h3 P0 z).elim n1 fun y=>(hf P0 y).2.1 PF
 have nPe:P0∉fe:=fun z=>n1 (h4 P0 z)
 refine⟨F,fa,xs,_,⟨ok.ex,h1,fun b hb => ?_⟩,tb,ok.fr P0 PF,nPa,hR,fun v r ys F' H' fq t' ok' tb' hF' nq hp => ?_⟩
 ·rcases h3 b hb with z | z
  ·exact okn.fr b z
  ·exact(hf b z).1
 ·obtain⟨k1,k2,k3⟩:=t'.keeps (fq:=fe) (fun b hb hc=>(List.mem_cons.mp hc).elim (fun z=>nPe (z ▸ hb)) fun z=>h5 b z hb) h2.env.there h2.fr
  have he':=ok'.env
  cases he' with
  | cons s1 s2 s3 =>
   rename_i fpv fys
   have hE:EnvAt F' H' σ e fe:=h2.env.mono t'.ex k1
   obtain⟨fpn,g1,g2⟩:=give_ok ar s2 hE fun b hb hc=>k2 b hc (.tail _ (List.mem_append_right _ hb))
   have nPn:P0∉fpn:=fun z=>(g2 P0 z).elim (fun y=>nq (List.mem_append_right _ y)) nPe
   obtain⟨fpt,g3,g4⟩:=g1.lend hp.1 tb' nPn
   have fr1:∀b∈fpt,F' b=none:=fun b hb=>by
    rcases(g4 b).mp hb with rfl | z
    ·exact hF'
    ·exact(g2 b z).elim (fun z=>ok'.fr b (List.mem_append_right _ z)) (k3 b)
   have back:∀c,(c=P0∨c∈fa)∨H c=none->c∈fp0∨H0 c=none:=fun c hc=>by
    rcases hc with (rfl | y) | y
    ·exact tr.nf _ PF
    ·rcases h3 c y with x | x
     ·exact tr.nf c ((m1 c).mpr (.inr x))
     ·exact(hf c x).2.2
    ·exact tr.back y
   refine q v r _ F' H' fpv fpt ⟨tr.ex.trans t'.ex,fun b u z n => ?_,fun b z => ?_,fun b hb => ?_⟩ ⟨ok'.ex,g3,fr1⟩ s1 (fun b hb=>⟨ok'.fr b (List.mem_append_left _ hb),fun hc => ?_⟩) hp.2
   ·refine t'.kp b u (tr.kp b u z n) fun hc => ?_
    rcases back b (.inl (List.mem_cons.mp hc))with w | w
    ·exact n w
    ·rw [z]at w;cases w
   ·rcases t'.nw b z with y | y | y
    ·exact tr.nw b y
    ·exact(tr.back y).elim (fun w => .inr (.inr w)) fun w => .inr (.inl w)
    ·exact(back b (.inl (List.mem_cons.mp y))).elim (fun w => .inr (.inr w)) fun w => .inr (.inl w)
   ·rcases List.mem_append.mp hb with y | y
    ·exact back b ((t'.nf b (.tail _ (List.mem_append_left _ y))).imp List.mem_cons.mp id)
    ·rcases(g4 b).mp y with rfl | y
     ·exact back _ (.inl (.inl rfl))
     ·rcases g2 b y with x | x
      ·exact back b ((t'.nf b (.tail _ (List.mem_append_right _ x))).imp List.mem_cons.mp id)
      ·exact tr.nf b ((m1 b).mpr (.inr (h4 b x)))
   ·rcases(g4 b).mp hc with rfl | y
    ·exact nq (List.mem_append_left _ hb)
    ·rcases g2 b y with y | y
     ·exact s3 b hb y
     ·exact k2 b y (.tail _ (List.mem_append_left _ hb))
def aFnT(R:ASp)(P0:Addr)(nm:Nat->Nat->Str)(j:Nat)(tu:AAr):AD:=fun env W=>tu env fun as e=>e[j]? =some (.tab P0 nm)/\match grab as (e.set j .non)with
 | some (xs,e2)=>e2[j]? =some .non/\R xs fun r ys=>(give as ys e2)[j]? =some .non/\match r.data with
  | some d=>W d ((give as ys e2).set j (.tab P0 nm))
  | none=>False
 | none=>False
theorem sim_fnT{R:ASp}{su:TA}{tu:AAr}{E:XK}{P0:Addr}{nm:Nat->Nat->Str}{j:Nat}(ha:SimAr su tu):SimE (tCall (spT P0 nm R) [] E su) (aFnT R P0 nm j tu):=fun Q P ok h q=>ha _ _ ok h fun vs as env' F' H' fp' fo t ok' ar hf ⟨hj,h'⟩=>by
 cases hg:grab as (env'.set j .non)with
 | none=>simp only [hg]at h'
 | some p =>
  obtain⟨xs,e⟩:=p
  simp only [hg]at h'
  rw [List.append_nil]
  refine call_simT (W:=fun r e2=>match r.data with
   | some d=>P d e2
   | none=>False) t ok' ar hf hj hg h'.1 h'.2 fun v r env2 F2 H2 fpv fp2 t2 ok2 s hfv hp => ?_
  cases s with
  | non=>exact hp.elim
  | scr _=>exact hp.elim
  | ks _ _ _ _=>exact hp.elim
  | tab _=>exact hp.elim
  | fn _ _=>exact hp.elim
  | dat r=>exact q _ _ _ _ _ _ ⟨t2.ex,t2.kp,t2.nw,fun b hb=>t2.nf b hb⟩ ok2 r hp
  | own m =>
   rename_i a o
   cases e2:o.data with
   | none=>simp only [Sl.data,e2]at hp
   | some d =>
    simp only [Sl.data,e2]at hp
    obtain⟨F3,g1,g2,g3,g4⟩:=m.freeze e2 ok2.ex fun b hb=>(hfv b hb).1
    refine q _ _ _ F3 H2 fp2 ⟨t2.ex.trans g1,t2.kp,fun b z => ?_,fun b hb=>t2.nf b (List.mem_append_right _ hb)⟩ ⟨g2,ok2.env.mono g1 (fun _ _ _ u=>u),fun b hb => ?_⟩ g3 hp
    ·rcases g4 b z with y | y
     ·exact t2.nw b y
     ·exact(t2.nf b (List.mem_append_left _ y)).elim (fun w => .inr (.inr w)) fun w => .inr (.inl w)
    ·cases e3:F3 b with
     | none=>rfl
     | some u =>
      rcases g4 b (some_ne e3)with z | z
      ·exact absurd (ok2.fr b hb) z
      ·exact absurd hb (hfv b z).2
structure CalT(P:Program)(w:World)(K:PySem.W.Frag)(mg:Str->Option Value)(base:Heap)(k:Nat)(x:Str)(ps:List Str)(P0:Addr)(nm:Nat->Nat->Str)(R:ASp):Prop where
 ex:∃f fd,FnG P w K mg base CX0 k f fd ps (spT P0 nm R)/\mg x=some (.ref f)/\PySem.W.keepIn K (.ref f)=true/\Binds K fd ps []
theorem CalT.of{P:Program}{w:World}{K:PySem.W.Frag}{mg:Str->Option Value}{base:Heap}{k:Nat}{x:Str}{pr:Arguments}{body:List Stmt}{sco:Scope}{kws:List (Str×V)}{f:Addr}{fd:FuncData}{ps:List Str}{P0:Addr}{nm:Nat->Nat->Str}{R:ASp}(o:FnG P w K mg base CX0 k f fd ps (spT P0 nm R))(F:FunD K x x pr body sco [] kws f fd)(m0:mg x=some (.ref f))
  (h:∀(kV doc pm:Value) (an:Option Addr) (cdv ct:Value) (us:List Value),us.length=ps.length->bindArgs (PySem.W.fnOf x x pr body sco .none kV doc pm an cdv ct) ⟨us,[]⟩=pure (ps.zip us)):CalT P w K mg base k x ps P0 nm R :=
 ⟨f,fd,o,m0,F.kp,F.bindsN h⟩
section
variable {X:Cx} {k:Nat} {ps:List Str} {R:ASp} {x:Str} {p pos:Pos} {e:Expr} {es:List Expr} {su:TA} {tu:AAr} {P0:Addr} {nm:Nat->Nat->Str}
theorem ae_callT(j:Nat)(C:CalT X.prog X.w X.K X.mg X.base k x ps P0 nm R)(hr:RoomG k X.A)(hg:Gl X x)(ha:APR X (e::es) su tu)(hdb:(x==("__debug__" : Str))=false:=by decide)(he:starEach (e::es) X.env=(false,eval e X.env)::starEach es X.env:=by rfl)(hpl:(backTo pos (starEach es X.env)).any (·.1)=false:=by rfl) :
  AE X (.Call (.Name x p) (e::es) [] pos) (tCall (spT P0 nm R) [] E0 su) (aFnT R P0 nm j tu):=by
 obtain⟨f,fd,a,b,c,d⟩:=C.ex
 exact⟨peg_call a hr hg b c d .nil pass0 ha.pe hdb he hpl,sim_fnT ha.sm⟩
end
structure NOg(P:Program)(w:World)(K:PySem.W.Frag)(mg:Str->Option Value)(base:Heap)(CX:CXT)(k:Nat)(f:Addr)(F:NdefX.NF)(ps fr:List Str)(R:ASp):Prop where
 len:∀(args:List Sl) W,R args W->args.length=ps.length+fr.length
 run:∀(A:Around) (outer:List Env) (s:Shared) (H:Hp) (ys us:List Value) (vs xs:List V) (Q:VK) (E:XK),RoomG k A->Env0 P w K mg base A outer s H->H f=some (NdefX.FnO f F)->H F.c=some (LamX.CodeO F.c F.qual) ->
  NdefX.CellsAt F.cl fr (xs.map some) s.heap H->vs.length=ps.length->Vals vs us->spA R (vs++xs) H Q E->codeAny (model P w) A (.call (.ref f) ⟨us,[]⟩) (CR CX outer P w H s Q E) s
theorem start_eq{N:List Str}{vs xs:List V}:NdefX.startF N vs (xs.map some)=L2.start N (vs++xs):=by
 unfold NdefX.startF L2.start
 rw [List.map_append,List.append_assoc,List.length_map,List.length_append,Nat.sub_sub]
section
variable {P:Program} {w:World} {K:PySem.W.Frag} {mg:Str->Option Value} {base:Heap}
theorem NOg.mono{CX:CXT}{j k:Nat}{f:Addr}{F:NdefX.NF}{ps fr:List Str}{R:ASp}(o:NOg P w K mg base CX j f F ps fr R)(h:j<=k):NOg P w K mg base CX k f F ps fr R:=⟨o.len,fun A outer s H ys us vs xs Q E hr=>o.run A outer s H ys us vs xs Q E (hr.mono h)⟩
theorem okN{f:Addr}{F:NdefX.NF}{N ps fr:List Str}{k:Nat}{R:ASp}(S:NdefX.NScope N ps fr F.scope)(hb:∀(doc pm ctv:Value) (us:List Value),us.length=ps.length->bindArgs (F.fd doc pm ctv) ⟨us,[]⟩=pure (ps.zip us))(len:∀args W,R args W->args.length=ps.length+fr.length)
  (hbody:∀(A:Around) (outer:List Env) (s:Shared) (H:Hp) (E:XK),RoomG k (A.deeper (NdefX.envF F f s.heap.objs.size)) ->
   ∃ts t,ASs (NdefX.ncx CX0 P w K mg base N F f A outer s H E) [] F.body ts t /\
    ∀args W,R args W->t { nx:=fun env=>W (.dat .none) (mask [] (ps.length+fr.length) env),rt:=fun r env=>W r (mask [] (ps.length+fr.length) env) } (args++List.replicate (N.length-(ps.length+fr.length)) .non)):NOg P w K mg base CX0 (k+1) f F ps fr R:=by
 refine⟨len,fun A outer s H ys us vs xs Q E hr e0 hf hc C lv rv h => ?_⟩
 have ul:us.length=ps.length:=by rw [<- rv.length];exact lv
 have nol:s.heap.NoLimit:=e0.mod.nolimit.keeps fun b o q=>(e0.bs b o q).1
 obtain⟨od,sl,doc,pm,ctv,ho⟩:=NdefX.fnO_at e0.hok hf
 refine codeAny_call_function hr.r.depth ho rfl S.co S.gen rfl (NdefX.codeO_at e0.hok hc) ?_
 rw [hb doc pm ctv us ul]
 refine wpAny_pure (wpAny_newFunctionEnv S.nocell (fun⟨n,_⟩ hy=>S.par n (List.of_mem_zip hy).1) (fun h2 hns hsb=>⟨nol.fresh _ hsb, ?_⟩) S.kind)
 show codeAny _ _ (.func F.body (NdefX.envF F f s.heap.objs.size)) _ _
 refine codeAny_func ?_
 have kp:∀b o,s.heap.get? b=some o->h2.get? b=some o:=fun b o e=>hsb.extBut b o (Nat.ne_of_lt (Heap.lt_size e)) (Heap.get?_push_of_some _ e)
 obtain⟨F0,fp,args,W,ok,hR,q⟩:=h
 obtain⟨ts,t,hbd,ht⟩:=hbody A outer s H E (hr.deeper _)
 have al:args.length=ps.length+fr.length:=len _ _ hR
 have xl:(vs++xs).length=ps.length+fr.length:=by rw [<- al,<- ok.env.len,List.length_map]
 have ok0:Ok F0 H (L2.start N (vs++xs)) (args++List.replicate (N.length-(ps.length+fr.length)) .non) fp:=by
  refine⟨ok.ex, ?_,ok.fr⟩
  unfold L2.start
  rw [xl]
  exact ok.env.start _
 have I:Inv (NdefX.ncx CX0 P w K mg base N F f A outer s H E) [] (NdefX.startF N vs (xs.map some)) H { s with heap:=h2,toks:=s.toks+(ps.zip us).length }:=NdefX.inv_startN S hr.r.hd e0 lv rv C hns kp
 rw [start_eq]at I
 have fin:∀{v:V} {r:Sl} {σ':St} {env':List Sl} {F' H':Hp} {fp':List Addr},Tr F0 H fp F' H' fp'->Ok F' H' (some v::σ') (r::env') fp'->W r (mask [] (ps.length+fr.length) env')->Q v H':=by
  intro v r σ' env' F' H' fp' t' ok' hp
  have he:=ok'.env
  cases he with
  | cons h1 h2 h3 =>
   rename_i f1 f2
   obtain⟨fp2,he2,sub⟩:=EnvAt.mask (ks :=[]) ((vs++xs).map some) 0 h2 fun i hi _ _=>by simp at hi
   rw [List.length_map,xl]at he2
   exact q v r _ F' H' (f1++fp2) (t'.sub (fun _ hb=>hb) fun b hb => .inl ((List.mem_append.mp hb).elim (List.mem_append_left _) fun z=>List.mem_append_right _ (sub b z)))
    ⟨ok'.ex,.cons h1 he2 fun a ha hb=>h3 a ha (sub a hb),fun b hb=>ok'.fr b ((List.mem_append.mp hb).elim (List.mem_append_left _) fun z=>List.mem_append_right _ (sub b z))⟩ hp
 have wish:ts { nx:=fun _ G=>Q .non G,rt:=Q } (L2.start N (vs++xs)) H:=hbd.sm _ _ ok0 (ht _ _ hR) ⟨fun σ' env' F' H' fp' t' ok' k' hp=>fin (r := .dat .none) t' (ok'.cons .non) hp,fun σ' env' F' H' fp' t' ok' k' hp=>hp.elim,fun σ' env' F' H' fp' t' ok' k' hp=>hp.elim,fun v r σ' env' F' H' fp' t' ok' k' hp=>fin t' ok' hp⟩
 refine wpAny_mono (hbd.pe.run [] _ _ H _ I wish) (fun fl s2 hs => ?_) fun _ _ hs=>hs
 have done:∀{σ2:St} {G:Hp} {v:V} {u:Value},Inv (NdefX.ncx CX0 P w K mg base N F f A outer s H E) [] σ2 G s2->RelV v u->Q v G->CE outer P w H s Q u s2:=fun {_ G v _} J r q=>⟨v,G,J.os,J.bare,J.base,J.hok,r,q⟩
 match fl,hs with
 | .ret u,⟨v,_,G,J,r,q⟩=>exact done J r q
 | .next,⟨_,G,J,q⟩=>exact done (v:=V.non) (u:=Value.none) J rfl q
 | .brk,⟨_,_,_,q⟩=>exact q.elim
 | .cont,⟨_,_,_,q⟩=>exact q.elim
end
def capD(e:List Sl):List Nat->Option (List PyData)
 | []=>some []
 | j::js=>match e[j]? with
  | some (.dat d)=>(capD e js).map (d :: ·)
  | _=>none
theorem capD_ok{F H:Hp}{σ:St}{env:List Sl}{fp:List Addr}(ok:Ok F H σ env fp):∀{js:List Nat} {cs:List PyData},capD env js=some cs ->∃xs:List V,js.map (NdefX.slotAt σ)=xs.map some/\Rps F xs cs
 | [],cs,h=>by cases h;exact⟨[],rfl,.nil⟩
 | j::js,cs,h=>by
  simp only [capD]at h
  split at h
  ·rename_i d e0
   obtain⟨cs2,h2,rfl⟩:=Option.map_eq_some_iff.mp h
   obtain⟨x,fi,fr,e1,hs,hm⟩:=ok.env.at e0
   cases hs with
   | dat r =>
    rename_i v
    obtain⟨xs,h3,h4⟩:=capD_ok ok h2
    refine⟨v::xs, ?_,.cons r h4⟩
    rw [List.map_cons,List.map_cons,h3,NdefX.slotAt_of e1]
  ·cases h
def aFnN(R:ASp)(mk:Addr->NdefX.NF)(i:Nat)(js:List Nat)(tu:AL):AD:=fun env W=>env[i]? =some (.fn mk)/\tu env fun ds e=>e[i]? =some (.fn mk)/\match capD e js with
 | some cs=>R ((ds++cs).map .dat) fun r _=>match r.data with
  | some d=>W d e
  | none=>False
 | none=>False
def tCallF(mk:Addr->NdefX.NF)(n i:Nat)(js:List Nat)(R:ASp)(E:XK)(t:TA):TE:=fun σ H Q =>∃f c,σ[i]? =some (some (.ref f))/\H f=some (NdefX.FnO f (mk c)) /\
 t σ H fun vs G=>G f=some (NdefX.FnO f (mk c))/\G (mk c).c=some (LamX.CodeO (mk c).c (mk c).qual)/\vs.length=n /\∃xs:List V,js.map (NdefX.slotAt σ)=xs.map some/\spA R (vs++xs) G Q E
theorem sim_fnN{R:ASp}{mk:Addr->NdefX.NF}{n i:Nat}{js:List Nat}{su:TA}{tu:AL}{E:XK}(len:∀args W,R args W->args.length=n+js.length)(ha:SimA su tu):SimE (tCallF mk n i js R E su) (aFnN R mk i js tu):=fun Q W ok ⟨e0,h⟩ q=>by
 obtain⟨x,fi,fr,e1,hs,hm⟩:=ok.env.at e0
 cases hs with
 | fn g1 g2 =>
  rename_i f c
  refine⟨f,c,e1,ok.ex _ _ g1,ha _ _ ok h fun vs ds env' F' H' fp' t ok' r ⟨_,h'⟩=>⟨ok'.ex _ _ (t.ex _ _ g1),ok'.ex _ _ (t.ex _ _ g2), ?_⟩⟩
  cases hc:capD env' js with
  | none=>simp only [hc]at h'
  | some cs =>
   simp only [hc]at h'
   obtain⟨xs,h3,h4⟩:=capD_ok ok' hc
   have hl:=len _ _ h'
   have l2:=congrArg List.length h3
   rw [List.length_map,List.length_map]at l2
   rw [List.length_map,List.length_append,<- h4.len,<- r.len]at hl
   exact⟨by omega,xs,h3,sim_fnD t ok' (r.app h4) h' q⟩
section
variable {X:Cx} {mk:Addr->NdefX.NF} {cl:List (Str×Addr)} {ps fr:List Str} {js:List Nat} {k:Nat} {x:Str} {R:ASp} {su:TA} {tu:AL} {e:Expr} {es:List Expr} {p pos:Pos}
theorem ae_callN(i:Nat)(Fn:∀f c,NOg X.prog X.w X.K X.mg X.base CX0 k f (mk c) ps fr R)(hcl:∀c,(mk c).cl=cl)(cp:X.Ok->NdefX.Caps X cl fr js)(hr:RoomG k X.A)(len:∀args W,R args W->args.length=ps.length+js.length)(ha:APA X (e::es) su tu)(hN:X.N[i]? =some x:=by rfl)(hv:Vis X.env.scope x:=by first | exact Or.inl rfl | exact Or.inr (Or.inl rfl) | exact Or.inr (Or.inr rfl))
  (hd:(x==("__debug__" : Str))=false:=by decide) (hcd:(x==("__classdict__" : Str))=false:=by decide)
  (he:starEach (e::es) X.env=(false,eval e X.env)::starEach es X.env:=by rfl) (hpl:(backTo pos (starEach es X.env)).any (·.1)=false:=by rfl) :
  AE X (.Call (.Name x p) (e::es) [] pos) (tCallF mk ps.length i js R E0 su) (aFnN R mk i js tu):=by
 refine⟨⟨fun pins s σ H Q I h => ?_⟩,sim_fnN len ha.sm⟩
 obtain⟨f,c,hs,hf,ht⟩:=h
 refine wpAny_Call_Name_kw (thn ((pe_var (pos:=p) hN hv hd hcd).run pins s σ H (fun v G=>v = .ref f/\G=H) I ⟨.ref f,hs,rfl,rfl⟩) fun u s1 ⟨v,G,I1,r1,q1⟩ => ?_)
 obtain⟨ev,eH⟩:=q1
 subst ev
 rw [eH]at I1
 obtain rfl:u=Value.ref f:=r1
 refine PySem.W.callWith_F (first :=[]) (NdefX.fnAt_of I1 hf) (thn (ha.pe.run pos pins s1 σ H _ I1 ht) fun us s2 ⟨vs,H2,I2,r,h1,h2,h3,xs,h4,q⟩=>⟨NdefX.fnAt_of I2 h1, ?_⟩) he hpl
 show wpAny _ _ (call (.ref f) us) _ _ _
 have C:NdefX.CellsAt (mk c).cl fr (xs.map some) s2.heap H2:=by
  rw [<- h4,hcl c]
  exact NdefX.cells_of I2 (cp I2.ok)
 exact call_end pass0 I2 ((Fn f c).run X.A X.stack s2 H2 [] us vs xs Q E0 hr I2.env0 h1 h2 C h3 r q)
end
end
section
theorem code_of{K:PySem.W.Frag}{p:He.Defn}{qual:Str}{cdv:Value}(h:CodeAt K (He.fAd K p) qual cdv):cdv = .ref (He.cT K p).1:=by
 obtain⟨⟨oc,od,g,osl,lk,e⟩,hc⟩:=h
 obtain⟨c,rfl⟩:=He.codeIn_ref hc
 rw [show (He.cT K p).1=He.codeOf K p from rfl,He.codeOf_eq lk e]
def OnlyT(P0:Addr)(H:Hp):Prop:=H P0=some (.tbl #[]) /\∀b,b=P0∨H b=none ∨∃o xs,H b=some (.frz o (.lst xs))
theorem law_startT{R:ASp}{K:PySem.W.Frag}{H:Hp}{a P0:Addr}{nm:Nat->Nat->Str}{ns:List Int}{E:XK}(hT:OnlyT P0 H)(nK:K.lookup P0=none)(hS:SqL K H a (ns.map V.int))(hR:∀P:Sl->List Sl->Prop,P (.dat (.bool true)) [.non]->R [.scr K ns] P):spT P0 nm R [.ref a] H (fun v _=>v = .bl true) E:=by
 let F:Hp:=fun b=>if b=P0 then none else H b
 have f0:F P0=none:=if_pos rfl
 have f1:∀b,b≠P0->F b=H b:=fun b hb=>if_neg hb
 have ex:Ex F H:=fun b u e=>by
  by_cases hb:b=P0
  ·rw [hb,f0]at e;cases e
  ·rw [f1 b hb]at e;exact e
 have hS2:SqL K F a (ns.map V.int):=by
  by_cases hb:a=P0
  ·exfalso
   rcases hS with z | z
   ·rcases z with z | ⟨o,z⟩ <;> rw [hb,hT.1]at z <;> cases z
   ·obtain⟨_,_,_,lk,_⟩:=z
    rw [hb,nK]at lk
    cases lk
  ·rcases hS with z | z
   ·exact .inl (z.imp (fun y=>by rw [f1 a hb];exact y) fun⟨o,y⟩=>⟨o,by rw [f1 a hb];exact y⟩)
   ·exact .inr z
 refine⟨F,[],[.scr K ns],fun r _=>r = .dat (.bool true),⟨ex,EnvAt.cons (.scr hS2) .nil (by simp),fun _ h=>by simp at h⟩,⟨#[],hT.1,True.intro,fun p v z => ?_⟩,f0,by simp,hR _ rfl,fun v r args' F' H' fp' t ok _ _ _ hp => ?_⟩
 ·have z:codeAmong p []=some v:=z
  simp [codeAmong]at z
 ·subst hp
  cases ok.env with
  | cons h1 _ _ =>
   cases h1 with
   | dat r =>
    cases r
    rfl
theorem lawT_call{Pr:Program}{wo:World}{K:PySem.W.Frag}{mg mb:Str->Option Value}{CX:CXT}{k:Nat}{fa a c0 P0:Addr}{fd:FuncData}{x:Str}{sp:L2.Sp}{s1:Shared}{vs:List Value}{ns:List Int}
  (KX:K.In s1.heap) (hns:s1.heap.Ns mainGlobals mg) (hb:s1.heap.Ns builtinsNs mb) (hbb:∀x:Str,x ≠ "__name__" ->mb x=bootBuiltins x) (hlim:s1.heap.NoLimit) (hseer:Seer Pr s1.heap) (hg:s1.gens = #[])
  (hT:s1.heap.get? P0=some { cls := .none,data := .fields #[] }) (nT:K.lookup P0=none) (C:PySem.W.CodeHd s1.heap c0 P0)
  (hbm:∃(bm:Addr) (ob:Obj),mg "__builtins__" =some (.ref bm)/\bm≠builtinsNs/\s1.heap.get? bm=some ob/\ob.cls = .type "module" /\ob.dict=some builtinsNs/\ob.data = .plain)
  (ha:s1.heap.get? a=some { cls := .type "list",data := .seq vs.toArray }) (hi:IntsAre vs ns) (hl:ns.length<=sizeLine) (hr:RoomG k callerA)
  (F:∀base:Heap,K.In base->base.Ns mainGlobals mg->Seer Pr base->LamX.TabB base mg c0 P0->FnG Pr wo K mg base CX k fa fd [x] sp) (hbind:∀(s:Shared) (u:Value),BindsTo s fd ⟨[u],[]⟩ [(x,u)])
  (hsp:∀H:Hp,OnlyT P0 H->SqL K H a (ns.map V.int)->sp [.ref a] H (fun v _=>v = .bl true) fun _ _ _=>False)
  (hCX:∀H e s',CX [] H s1 (fun _ _ _=>False) e s'->False) :
  codeAny (model Pr wo) callerA (.call (.ref fa) ⟨[.ref a],[]⟩) (fun r s2=>r = .ok (.ret (.bool true))/\OldK s1.heap s2.heap/\s2.os=s1.os/\AllBare s2.gens) s1:=by
 have rv:=vals_ints hi
 have lenV:=hi.length
 have aP:a≠P0:=fun z=>by
  rw [z,hT]at ha
  cases ha
 have core:∀H:Hp,OnlyT P0 H->SqL K H a (ns.map V.int)->HOk Pr wo H s1.heap->(∀b,H b≠none->b=a∨b=P0)->(H a≠none->K.lookup a=none) ->
   codeAny (model Pr wo) callerA (.call (.ref fa) ⟨[.ref a],[]⟩) (fun r s2=>r = .ok (.ret (.bool true))/\OldK s1.heap s2.heap/\s2.os=s1.os/\AllBare s2.gens) s1:=by
  intro H hO hS hok hA hK
  have base_of:∀{b:Addr} {o:Obj},s1.heap.get? b=some o->H b=none->(hidT s1.heap H).get? b=some o:=fun e n=>hidT_get e n
  have noD:∀{b:Addr} {o:Obj},s1.heap.get? b=some o->(∀us n,o.data ≠ .seq us n)->o.data ≠ .fields #[]->H b=none:=fun {b o} e h1 h2=>by
   cases q:H b with
   | none=>rfl
   | some u =>
    rcases hA b (by rw [q];simp)with z | z
    ·subst z
     rw [ha]at e
     cases e
     exact(h1 _ _ rfl).elim
    ·rw [z,hT]at e
     cases e
     exact(h2 rfl).elim
  have noA:∀{b:Addr} {o:Obj} {es:Array DictEntry} {ep:Nat},s1.heap.get? b=some o->o.data = .dict es ep->H b=none:=fun {b o es ep} e d=>noD e (fun us n z=>by rw [d]at z;cases z) fun z=>by rw [d]at z;cases z
  have noC:∀{b:Addr} {o:Obj},s1.heap.get? b=some o->o.cls = .type "module" ->H b=none:=fun {b o} e d=>by
   cases q:H b with
   | none=>rfl
   | some u =>
    rcases hA b (by rw [q];simp)with z | z
    ·subst z
     rw [ha]at e
     cases e
     exact absurd (show (Value.type "list") = .type "module" from d) (by simp)
    ·rw [z,hT]at e
     cases e
     cases d
  have nsK:∀{b:Addr} {m:Str->Option Value},s1.heap.Ns b m->(hidT s1.heap H).Ns b m:=fun {b m} ⟨o,es,ep,e,d,r⟩=>⟨o,es,ep,base_of e (noA e d),d,r⟩
  have hKb:K.In (hidT s1.heap H):=fun b o e=>base_of (KX b o e) (by
   cases q:H b with
   | none=>rfl
   | some u =>
    rcases hA b (by rw [q];simp)with z | z
    ·subst z
     rw [hK (by rw [q];simp)]at e
     cases e
    ·rw [z,nT]at e
     cases e)
  have hM:Mod K mg (hidT s1.heap H):=⟨hKb,nsK hns,⟨mb,nsK hb,hbb⟩,let ⟨mc,h1,h2⟩:=hlim;⟨mc,nsK h1,h2⟩⟩
  have hSe:Seer Pr (hidT s1.heap H):=⟨⟨let ⟨mc,h1,h2⟩:=hseer.ns.statics;⟨mc,nsK h1,h2⟩,let ⟨mc,h1,h2⟩:=hseer.ns.mods;⟨mc,nsK h1,h2⟩,let ⟨mc,h1,h2⟩:=hseer.ns.imp;⟨mc,nsK h1,h2⟩,
   let ⟨mg,bm,ob,h1,h2,h3,h4,h5⟩:=hseer.ns.main;⟨mg,bm,ob,nsK h1,h2,base_of h3 (noC h3 h4),h4,h5⟩⟩,hseer.tr⟩
  have TB:LamX.TabB (hidT s1.heap H) mg c0 P0:=by
   refine⟨?_, ?_,fun z => ?_⟩
   ·obtain⟨o,us,v1,v2,v3,v4,v5,v6,v7,e1,r1,r2,r3,r4,r5,r6,r7,r8,hne⟩:=C
    refine⟨o,us,v1,v2,v3,v4,v5,v6,v7,base_of e1 (noD e1 (fun ws n z => ?_) fun z => ?_),r1,r2,r3,r4,r5,r6,r7,r8,hne⟩
    ·rw [r2]at z;cases z
    ·rw [r2]at z
     cases z
     simp at r3
   ·obtain⟨bm,ob,b1,b2,b3,b4,b5,b6⟩:=hbm
    refine⟨bm,ob,b1,b2,fun q => ?_,fun q => ?_,base_of b3 (noC b3 b4),b4,b5,b6⟩
    ·obtain⟨o,es,ep,e,hd,_⟩:=hns
     rw [q,e]at b3
     cases b3
     rw [hd]at b6
     cases b6
    ·rw [q,hT]at b3
     cases b3
     cases b6
   ·obtain⟨o,es,ep,e,hd,_⟩:=hns
    rw [z,hT]at e
    cases e
    cases hd
  have e0:Env0 Pr wo K mg (hidT s1.heap H) callerA [] s1 H:=⟨rfl,hM,fun b o e=>of_hidT e,Nat.le_of_eq (hidT_size _ _),trivial,fun b hb=>absurd (show b∈([]:List Addr)from hb) (by simp),hok,.of_eq hg⟩
  refine codeAny_mono ((F _ hKb (nsK hns) hSe TB).run callerA [] s1 H ⟨[.ref a],[]⟩ [.ref a] [.ref a] _ _ hr e0 (hbind s1 (.ref a)) (.cons rfl .nil) (hsp H hO hS)) fun r s2 h => ?_
  match r,h with
  | .error e,h=>exact(hCX H e s2 h).elim
  | .ok .next,h=>exact h.elim
  | .ok .brk,h=>exact h.elim
  | .ok .cont,h=>exact h.elim
  | .ok (.ret u),⟨v,H2,os,bare,un,hok2,r2,q⟩ =>
   obtain rfl:v = .bl true:=q
   obtain rfl:u=Value.bool true:=r2
   have same:∀b o,b≠P0->s1.heap.get? b=some o->s2.heap.get? b=some o:=fun b o nb e=>by
    cases q:H b with
    | none=>exact un.keep b o e q (by intro z;exact absurd (show b∈([]:List Addr)from z) (by simp)) (by simp)
    | some u =>
     rcases hO.2 b with z | z | ⟨ob,xs,z⟩
     ·exact absurd z nb
     ·rw [q]at z
      cases z
     ·obtain⟨e1,_⟩:=hok b _ z
      obtain⟨e2,_⟩:=hok2 b _ (un.frzs b ob _ z)
      rw [e]at e1
      cases e1
      exact e2
   obtain⟨more,grown⟩:∃more:Array Value,s2.heap.get? P0=some { cls := .none,data := .fields more }:=by
    obtain⟨more,z⟩:=un.tbls P0 #[] hO.1
    exact⟨_,hok2 P0 _ z⟩
   refine⟨rfl,⟨fun b o e => ?_,fun b o e => ?_⟩,os,bare⟩
   ·by_cases nb:b=P0
    ·subst nb
     rw [hT]at e
     cases e
     exact .inr (.inl ⟨(C.tab hT).isCodeTable,rfl,#[],more,rfl,by rw [Array.empty_append];exact grown⟩)
    ·exact .inl (same b o nb e)
   ·by_cases nb:b=P0
    ·rw [nb]
     exact⟨_,grown⟩
    ·exact⟨o,same b o nb e⟩
 cases hk:K.lookup a with
 | some o =>
  have e:=KX a o hk
  rw [ha]at e
  cases e
  refine core (fun b=>if b=P0 then some (.tbl #[])else none) ⟨if_pos rfl,fun b => ?_⟩ (.inr ⟨_,vs.toArray,_,hk,rfl,rfl,rfl,by rw [List.size_toArray,lenV];exact hl,by simpa using rv⟩) (fun b u z => ?_) (fun b z => ?_) fun z=>absurd (show (if a=P0 then some (HO.tbl #[])else none)=none from if_neg aP) z
  ·by_cases nb:b=P0
   ·exact .inl nb
   ·exact .inr (.inl (if_neg nb))
  ·by_cases nb:b=P0
   ·cases (if_pos nb).symm.trans z
    subst nb
    exact hT
   ·cases (if_neg nb).symm.trans z
  ·by_cases nb:b=P0
   ·exact .inr nb
   ·exact absurd (if_neg nb) z
 | none =>
  refine core (fun b=>if b=a then some (.frz { cls := .type "list",data := .seq vs.toArray } (.lst (ns.map V.int)))else if b=P0 then some (.tbl #[])else none) ⟨(if_neg (Ne.symm aP)).trans (if_pos rfl),fun b => ?_⟩ (.inl (.inr ⟨{ cls := .type "list",data := .seq vs.toArray },if_pos rfl⟩)) (fun b u z => ?_) (fun b z => ?_) fun _=>hk
  ·by_cases nb:b=a
   ·exact .inr (.inr ⟨_,_,if_pos nb⟩)
   ·by_cases np:b=P0
    ·exact .inl np
    ·exact .inr (.inl ((if_neg nb).trans (if_neg np)))
  ·by_cases nb:b=a
   ·cases (if_pos nb).symm.trans z
    subst nb
    exact⟨ha,by rw [List.length_map];exact hl,vs,_,rv,ha⟩
   ·have z1:=(if_neg nb).symm.trans z
    by_cases np:b=P0
    ·cases (if_pos np).symm.trans z1
     subst np
     exact hT
    ·cases (if_neg np).symm.trans z1
  ·by_cases nb:b=a
   ·exact .inl nb
   ·by_cases np:b=P0
    ·exact .inr np
    ·exact absurd ((if_neg nb).trans (if_neg np)) z
theorem walkgT_ofE{l:PySem.W.OpenLaw}{n k:Nat}{q:Program}{loose:List Str}{XP:(Str->Option Value)->Heap->Prop}{YP:World->Heap->Prop}{d:DefRec}{CX:CXT}{x:Str}
  (hn:l.most=some n) (hn2:n<=sizeLine) (hdf:d.params.defaults = []) (hr:Room k callerA) (hi:importsNone q=true) (htree:l.prog.given.tree=none)
  (F:∀(w:World) (mg:Str->Option Value) (fa:Addr) (h:Heap),YP w h->h.Ns mainGlobals mg->mg d.name=some (.ref fa) ->
   ∃(K:PySem.W.Frag) (fd:FuncData) (sp:L2.Sp) (c0 P0:Addr),K.In h/\h.get? P0=some { cls := .none,data := .fields #[] }/\K.lookup P0=none/\PySem.W.CodeHd h c0 P0/\(∀(s:Shared) (u:Value),BindsTo s fd ⟨[u],[]⟩ [(x,u)]) /\
    (∀(H:Hp) (a:Addr) (ns:List Int),ns.length<=n->OnlyT P0 H->SqL K H a (ns.map V.int)->sp [.ref a] H (fun v _=>v = .bl true) fun _ _ _=>False) /\
    ∀bs:Heap,K.In bs->bs.Ns mainGlobals mg->Seer l.prog bs->LamX.TabB bs mg c0 P0->FnG l.prog w K mg bs CX k fa fd [x] sp)
  (hCX:∀(H:Hp) (s:Shared) (e:Value) (s':Shared),CX [] H s (fun _ _ _=>False) e s'->False):PySem.W.WalkO q loose XP YP l.row.toRowW d [] (fun f vs=>PySem.call f vs):=by
 refine Att.attach_call hn hdf fun w s0 s1 mg mb fa o pm cd doc a vs ns G Y ho hd hcd hmg hobj hints hlen hg => ?_
 obtain⟨K,fd,sp,c0,P0,KX,hT,nT,C,hb,hsp,hF⟩:=F w mg fa _ Y G.T.g hmg
 exact lawT_call KX G.T.g G.T.b G.T.builtins G.T.nolimit ⟨G.T.seer hi,htree⟩ hg hT nT C G.T.bmain hobj hints (Nat.le_trans hlen hn2) ⟨hr,rfl⟩ hF hb (fun H hO hS=>hsp H a ns hlen hO hS) fun H e s'=>hCX H s1 e s'
end
section
def tCallW(mk:Addr->NdefX.NF)(n i:Nat)(ws:List (Option V))(R:ASp)(E:XK)(t:TA):TE:=fun σ H Q =>∃f c,σ[i]? =some (some (.ref f))/\H f=some (NdefX.FnO f (mk c)) /\
 t σ H fun vs G=>G f=some (NdefX.FnO f (mk c))/\G (mk c).c=some (LamX.CodeO (mk c).c (mk c).qual)/\vs.length=n /\∃xs:List V,ws=xs.map some/\spA R (vs++xs) G Q E
section
variable {X:Cx} {mk:Addr->NdefX.NF} {cl:List (Str×Addr)} {ps fr:List Str} {ws:List (Option V)} {js:List Nat} {k i:Nat} {x:Str} {R:ASp} {su:TA} {tu:AL} {e:Expr} {es:List Expr} {p cpos:Pos}
theorem pe_callW(Fn:∀f c,NOg X.prog X.w X.K X.mg X.base CX0 k f (mk c) ps fr R)(hC:∀pins σ H s,Inv X pins σ H s ->∀c,NdefX.CellsAt (mk c).cl fr ws s.heap H)(hr:RoomG k X.A)(ha:PA X (e::es) su)(hN:X.N[i]? =some x)(hv:Vis X.env.scope x)
  (hd:(x==("__debug__" : Str))=false:=by decide) (hcd:(x==("__classdict__" : Str))=false:=by decide)
  (he:starEach (e::es) X.env=(false,eval e X.env)::starEach es X.env:=by rfl) (hpl:(backTo cpos (starEach es X.env)).any (·.1)=false:=by rfl) :
  PE X (.Call (.Name x p) (e::es) [] cpos) (tCallW mk ps.length i ws R E0 su):=by
 refine⟨fun pins s σ H Q I h => ?_⟩
 obtain⟨f,c,hs,hf,ht⟩:=h
 refine wpAny_Call_Name_kw (thn ((pe_var (pos:=p) hN hv hd hcd).run pins s σ H (fun v G=>v = .ref f/\G=H) I ⟨.ref f,hs,rfl,rfl⟩) fun u s1 ⟨v,G,I1,r1,q1⟩ => ?_)
 obtain⟨ev,eH⟩:=q1
 subst ev
 rw [eH]at I1
 obtain rfl:u=Value.ref f:=r1
 refine PySem.W.callWith_F (first :=[]) (NdefX.fnAt_of I1 hf) (thn (ha.run cpos pins s1 σ H _ I1 ht) fun us s2 ⟨vs,H2,I2,r,h1,h2,h3,xs,h4,q⟩=>⟨NdefX.fnAt_of I2 h1, ?_⟩) he hpl
 show wpAny _ _ (call (.ref f) us) _ _ _
 have C:=hC _ _ _ _ I2 c
 rw [h4]at C
 exact call_end pass0 I2 ((Fn f c).run X.A X.stack s2 H2 [] us vs xs Q E0 hr I2.env0 h1 h2 C h3 r q)
theorem lcI_core{pins:List (Addr×Obj)}{s:Shared}{σ:St}{H:Hp}{Q:VK}{elt tg iter:Expr}{ifs:List Expr}{scope:Scope}{own:List (Str×Nat)}{pos pos':Pos}{wi:TI}{g:TG}{tt:TT}{te:TE}{use:Option (Value->Sem Unit)}{Z:Value->Shared->Prop}
  (hc:X.calm=true) (hN:X.N.Nodup) (I:Inv X pins σ H s) (hi:PI X tg iter wi) (ok:BlkOk X.N X.env.scope scope own)
  (hg:∀(t:Shared) (G:Hp) (C:Addr) (cl:List (Str×Addr)) (fp:List Addr),PG (X.blk t G scope (compEnvC scope cl C X.env) fp) tg g) (ht:∀(t:Shared) (G:Hp) (C:Addr) (cl:List (Str×Addr)) (fp:List Addr),PTs (X.blk t G scope (compEnvC scope cl C X.env) fp) ifs tt)
  (he:∀(t:Shared) (G:Hp) (C:Addr) (cl:List (Str×Addr)) (fp:List Addr),Inv X pins σ G t->(∀b∈fp,FpOk X pins G b)->PE (X.blk t G scope (compEnvC scope cl C X.env) fp) elt te) (hs:∀v,foldedSetIterable iter X.env v=pure v)
  (h:tLc wi g tt te (own.map (·.2)) σ H Q)
  (out:∀D C t m G,Inv X pins σ G t->Q (.ref D) G->t.heap.Ns C m->FpOk X pins G C->compPost (model X.prog X.w) X.A X.xe use Z (.ref D) C (.ok .next) t) :
  wpAny (model X.prog X.w) X.A (comprehension (.ListComp elt [⟨tg,iter,ifs,0⟩] scope pos) scope X.env pos' (newList []) false (eval iter X.env) use) Z X.xe s:=by
 have caught:∀y∈scope.names,y.2 = .free ->∃c,X.env.cells.lookup y.1=some c:=fun y hy z=>(ok.free y hy z).elim (fun k=>I.ok.has _ (.inl k)) fun k=>I.ok.has _ (.inr k)
 refine wpAny_comprehension_free (use:=use) rfl hs (closure_ok caught) ok.kind (fun y hy z=>by rw [ok.uniq y hy,z])
  (thn (hi.run pins s σ H _ I h) fun xv s1 hx=>thn hx fun itv t2 g2 => ?_)
 obtain⟨it,fp,tn,J,H2,rfl,I2,T,n2,f2,q⟩:=g2
 refine wpAny_newObj_type (newEnv_comp ?_) (by show 0<=sizeLine;decide)
 generalize hD:t2.heap.objs.size=D
 have dn:H2 D=none:=I2.hok.fresh (Nat.le_of_eq hD)
 obtain⟨W,⟨m0,w0⟩,turn⟩:=q D dn
 generalize ht3:({ t2 with heap:=t2.heap.push { cls := .type "list",data := .seq ([]:List Value).toArray } }:Shared)=t3
 have I3:Inv X pins σ (upd H2 D (.lst [])) t3:=by
  rw [<- ht3]
  refine I2.laid (t':=t2.toks) (fun b o z=>Heap.get?_push_of_some _ z) (Nat.le_of_eq hD) ⟨Nat.zero_le _,[],0,.nil, ?_⟩
  rw [<- hD]
  exact Heap.get?_push_size _ rfl
 have e3:t3.heap=t2.heap.push { cls := .type "list",data := .seq ([]:List Value).toArray }:=by rw [<- ht3]
 have f3:∀b∈fp,FpOk X pins (upd H2 D (.lst [])) b/\b<t3.heap.objs.size:=fun b hb=>by
  obtain⟨o,z,_⟩:=T.obj _ _ n2 b hb
  have lt:=Heap.lt_size z
  refine⟨⟨?_,(f2 b hb).2⟩,by rw [e3,Heap.size_push];exact Nat.lt_succ_of_lt lt⟩
  rw [upd_ne (by rw [<- hD];exact Nat.ne_of_lt lt)]
  exact(f2 b hb).1
 have n3:tn 0 t3.heap:=T.keep _ _ _ n2 fun b _ o z=>by rw [e3];exact Heap.get?_push_of_some _ z
 have I4:=block_start I3 ok hN f3
 have pg:=hg t3 (upd H2 D (.lst [])) t3.heap.objs.size (cellsFrom (t3.heap.objs.size+1) scope.names (cloFrom X.env.cells scope.names [])) fp
 have pt:=ht t3 (upd H2 D (.lst [])) t3.heap.objs.size (cellsFrom (t3.heap.objs.size+1) scope.names (cloFrom X.env.cells scope.names [])) fp
 have pe:=he t3 (upd H2 D (.lst [])) t3.heap.objs.size (cellsFrom (t3.heap.objs.size+1) scope.names (cloFrom X.env.cells scope.names [])) fp I3 fun b hb=>(f3 b hb).1
 show codeAny _ _ (.compStart (.ListComp elt [⟨tg,iter,ifs,0⟩] scope pos) 0 (.ref it) (.ref D) (compEnvC scope (cellsFrom (t3.heap.objs.size+1) scope.names (cloFrom X.env.cells scope.names [])) t3.heap.objs.size X.env)) (compPost (model X.prog X.w) X.A X.xe use Z (.ref D) t3.heap.objs.size) { t3 with heap:=pushCells (t3.heap.push { cls := .type "dict",data := .dict #[] }) scope.names }
 have free3:∀b∈fp,(upd H2 D (.lst [])) b=none:=fun b hb=>(f3 b hb).1.1
 generalize hce:compEnvC scope (cellsFrom (t3.heap.objs.size+1) scope.names (cloFrom X.env.cells scope.names [])) t3.heap.objs.size X.env=ce at I4 pg pt pe ⊢
 have cL:ce.locals=t3.heap.objs.size:=by subst hce;rfl
 generalize hH3:upd H2 D (.lst [])=H3 at I3 I4 pg pt pe w0 free3 f3
 generalize ht4:({ t3 with heap:=pushCells (t3.heap.push { cls := .type "dict",data := .dict #[] }) scope.names }:Shared)=t4 at I4 ⊢
 have n4:tn 0 t4.heap:=T.keep _ _ _ n3 fun b _ o z=>by rw [<- ht4];exact pushCells_keeps _ _ _ _ (Heap.get?_push_of_some _ z)
 have stat:∀{σ':St} {G:Hp} {t:Shared},Inv (X.blk t3 H3 scope ce fp) [] σ' G t->(∀b∈fp,G b=none) ->∀b∈fp,FpOk (X.blk t3 H3 scope ce fp) [] G b:=fun {_ G _} J hn b hb =>
  ⟨hn b hb,(J.ok.exf b hb).1,J.ok.exfs b hb,.inl hb,fun y c z=>(J.ok.exf b hb).2 y c z,fun r hr=>absurd (show r∈([]:List (Addr×Obj)) ++ []from hr) (by simp)⟩
 refine codeAny_compStart_list ?_ (T.self X.A 0 _ _ _ n4 ?_) <;>
 ·refine compLoop_any (fun n t =>∃j G,Inv (X.blk t3 H3 scope ce fp) [] (wipe σ (own.map (·.2))) G t/\tn j t.heap/\(∀b∈fp,G b=none)/\W j n G) ?_ m0 ⟨0,H3,I4,n4,free3,w0⟩
  rintro n t5 ⟨j,H5,I5,n5,free5,w5⟩
  rcases turn j n H5 w5 with ⟨stop,qq⟩ | ⟨go,Nx,hNx,step⟩
  ·refine thnF (T.done (X.blk t3 H3 scope ce fp) rfl rfl rfl hc j [] t5 _ H5 (fun _ _=>False) I5 (stat I5 free5) n5 stop) fun r t6 ⟨hr,I6⟩ => ?_
   subst hr
   have I7:Inv X pins σ H5 t6:=I3.call' (ch:=fp) I6.os I6.base I6.hok I6.bare fun b hb=>⟨(f3 b hb).1.2.2.2.1,(f3 b hb).1.2.1,(f3 b hb).1.2.2.2.2.1,(f3 b hb).1.2.2.2.2.2⟩
   have nC:H5 t3.heap.objs.size=none:=by
    have z:H5 ce.locals=none:=I6.free
    rwa [cL]at z
   obtain⟨m,hn,_⟩:=I6.loc
   have hn:t6.heap.Ns ce.locals m:=hn
   rw [cL]at hn
   exact out D t3.heap.objs.size t6 m H5 I7 qq hn (I3.fpOk (Nat.le_refl _) nC)
  ·refine thnF (T.item (X.blk t3 H3 scope ce fp) rfl rfl rfl hc j [] t5 _ H5 (fun _ _=>False) I5 (stat I5 free5) n5 go) fun r t6 ⟨u,hr,g6⟩ => ?_
   subst hr
   refine thnF g6 fun _ t7 ⟨y,H7,I7,r7,y7,n7,free7⟩ => ?_
   have I7p:=I7.pinned (stat I7 free7) (T.obj _ _ n7)
   refine thnF (pg.run _ t7 _ H7 y u _ I7p r7 (step y H7 y7)) fun _ t8 ⟨σ8,H8,I8,hw8,q8⟩ => ?_
   refine thnF (pt.run _ t8 σ8 H8 _ I8 q8) fun b t9 ⟨H9,I9,q9⟩ => ?_
   have fin:∀{t:Shared} {G:Hp},Inv (X.blk t3 H3 scope ce fp) ([]++pinsAt fp t7.heap) σ8 G t->Nx G ->∃m,m<n /\∃j G,Inv (X.blk t3 H3 scope ce fp) [] (wipe σ (own.map (·.2))) G t/\tn j t.heap/\(∀b∈fp,G b=none)/\W j m G:=fun {t G} J nx=>by
    obtain⟨m',hm,w'⟩:=hNx G nx
    have held:∀b∈fp,∀o,t7.heap.get? b=some o->t.heap.get? b=some o/\G b=none:=fun b hb o z =>
     let y:=J.pin (b,o) (List.mem_append_right _ (List.mem_append_right _ (mem_pinsAt hb z)))
     ⟨y.1,y.2.1⟩
    have hl:(wipe σ (own.map (·.2))).length=σ8.length:=by rw [<- hw8,wipe_length]
    refine⟨m',hm,j+1,G,(J.unpinned (pins :=[])).weak hl (fun a v z => ?_),T.keep _ _ _ n7 fun b hb o z=>(held b hb o z).1,fun b hb => ?_,w'⟩
    ·rw [<- hw8]at z
     exact(wipe_some z).1
    ·obtain⟨o,z,_⟩:=T.obj _ _ n7 b hb
     exact(held b hb o z).2
   cases b with
   | false =>
    simp only [Bool.false_eq_true,if_false]at q9 ⊢
    exact fin I9 q9
   | true =>
    simp only [if_true]at q9 ⊢
    refine thnF (pe.run _ t9 σ8 H9 _ I9 q9) fun z t10 ⟨yv,H10,I10,r10,acc,hD10,hz10,nx⟩ => ?_
    exact app_ok (X:=X.blk t3 H3 scope ce fp) I10 hD10 hz10 r10 fun t11 I11=>fin I11 nx
theorem caps_blk{pins:List (Addr×Obj)}{σ:St}{G:Hp}{t:Shared}{scope:Scope}{ce:Env}{fp:List Addr}(I:Inv X pins σ G t)(hfp:∀b∈fp,FpOk X pins G b)(cp:NdefX.Caps X cl fr js)(hfn:∀y c,cl.lookup y=some c->X.fn y=true) :
  ∀pins2 σ2 H2 s2,Inv (X.blk t G scope ce fp) pins2 σ2 H2 s2->NdefX.CellsAt cl fr (js.map (NdefX.slotAt σ)) s2.heap H2:=fun pins2 σ2 H2 s2 J=>by
 have C:=NdefX.cells_of I cp
 refine NdefX.CellsAt.later (X:=X.blk t G scope ce fp) C (fun y c e z => ?_) (fun y c e z => ?_) J
 ·have hc:=cp.sub y c e
  rcases List.mem_cons.mp (I.stkSub c z)with w | w
  ·exact I.cne y c hc w
  ·obtain⟨_,o,ho,_⟩:=I.ok.funs.mem w
   exact absurd (Nat.lt_of_lt_of_le (Heap.lt_size ho) (I.ok.cab y c (hfn y c e) hc)) (Nat.lt_irrefl _)
 ·exact(hfp c z).2.2.2.2.1 y c (cp.sub y c e) rfl
end
def tLcW(wi:TI)(g:TG)(tt:TT)(te:List (Option V)->TE)(vs js:List Nat):TE:=fun σ H Q=>tLc wi g tt (te (js.map (NdefX.slotAt σ))) vs σ H Q
section
variable {X:Cx} {mk:Addr->NdefX.NF} {cl:List (Str×Addr)} {ps fr:List Str} {js:List Nat} {k i:Nat} {x:Str} {R:ASp} {su:TA} {tu:AL} {e:Expr} {es:List Expr} {p cpos:Pos}
theorem pe_lcW{elt tg iter:Expr}{ifs:List Expr}{scope:Scope}{own:List (Str×Nat)}{pos:Pos}{wi:TI}{g:TG}{tt:TT}{te:List (Option V)->TE}(hc:X.calm=true)(hN:X.N.Nodup)(hi:PI X tg iter wi)(ok:BlkOk X.N X.env.scope scope own)(cp:X.Ok->NdefX.Caps X cl fr js)(hfn:∀y c,cl.lookup y=some c->X.fn y=true)
  (hg:∀(s:Shared) (H:Hp) (C:Addr) (cl:List (Str×Addr)) (fp:List Addr),PG (X.blk s H scope (compEnvC scope cl C X.env) fp) tg g) (ht:∀(s:Shared) (H:Hp) (C:Addr) (cl:List (Str×Addr)) (fp:List Addr),PTs (X.blk s H scope (compEnvC scope cl C X.env) fp) ifs tt)
  (he:∀(ws:List (Option V)) (s:Shared) (H:Hp) (C:Addr) (cc:List (Str×Addr)) (fp:List Addr),(∀pins2 σ2 H2 s2,Inv (X.blk s H scope (compEnvC scope cc C X.env) fp) pins2 σ2 H2 s2->NdefX.CellsAt cl fr ws s2.heap H2)->PE (X.blk s H scope (compEnvC scope cc C X.env) fp) elt (te ws)) (hs:∀v,foldedSetIterable iter X.env v=pure v) :
  PE X (.ListComp elt [⟨tg,iter,ifs,0⟩] scope pos) (tLcW wi g tt te (own.map (·.2)) js):=by
 refine⟨fun pins s σ H Q I h => ?_⟩
 rw [eval_ListComp]
 refine lcI_core hc hN I hi ok hg ht (fun t G C cc fp J hfp=>he _ t G C cc fp (caps_blk J hfp (cp J.ok) hfn)) hs h fun D C s2 m H2 I2 q hn f=>⟨m,hn,fun h3 sb => ?_⟩
 obtain⟨f0,f1,f2,f3,f4,f5⟩:=f
 exact⟨.ref D,H2,I2.turned (t':=s2.toks) (fun b o hb z=>(sb.2 b hb).trans z) f0 f1 f3 f4 f5,rfl,q⟩
end
def SimEw(js:List Nat)(ws:List (Option V))(te:TE)(t:AD):Prop :=∀{σ:St} {env:List Sl} {F H:Hp} {fp:List Addr} (Q:VK) (P:PyData->List Sl->Prop),Ok F H σ env fp->js.map (NdefX.slotAt σ)=ws->t env P ->
 (∀v d env' F' H' fp',Tr F H fp F' H' fp'->Ok F' H' σ env' fp'->Rp F' v d->P d env'->Q v H')->te σ H Q
theorem sim_callW{R:ASp}{mk:Addr->NdefX.NF}{n i:Nat}{js:List Nat}{su:TA}{tu:AL}{E:XK}{ws:List (Option V)}(len:∀args W,R args W->args.length=n+js.length)(ha:SimA su tu):SimEw js ws (tCallW mk n i ws R E su) (aFnN R mk i js tu):=fun Q W ok hw h q=>by
 subst hw
 exact sim_fnN len ha Q W ok h q
theorem sim_lcW{wi:TI}{ti:AI}{g:TG}{ag:AG}{tt:TT}{at':AT}{te:List (Option V)->TE}{ae:AD}{vs ts js:List Nat}(hi:SimI wi ti)(hg:SimG ts g ag)(ht:SimT tt at')(he:∀ws,SimEw js ws (te ws) ae)(hts:∀i∈ts,i∈vs)(hjs:∀j∈js,j∉vs):SimO (tLcW wi g tt te vs js) (aLc ti ag at' ae vs):=by
 intro σ env F H fp Q P ok h q
 show tLc wi g tt (te (js.map (NdefX.slotAt σ))) vs σ H Q
 refine hi _ _ ok h fun J ds env1 F1 H1 fp1 t1 ok1 w h1 => ?_
 intro D hD
 have D1:F1 D=none:=ok1.ex.none hD
 have Df:D∉fp1:=fun m=>ok1.env.there D m hD
 refine⟨fun i m H2=>m=ds.length-i/\i<=ds.length /\∃σ2 env2 F2 fp2 acc xs,Tr F1 H1 fp1 F2 H2 fp2/\Ok F2 H2 σ2 env2 fp2/\σ2.length=σ.length/\(∀j,j∉vs->σ2[j]? =σ[j]?)/\H2 D=some (.lst xs)/\Rps F2 xs acc/\F2 D=none/\D∉fp2/\lcL ag at' ae vs (fun acc e=>P (.lst acc) (backE env1 vs e)) (ds.drop i) acc env2, ?_, ?_⟩
 ·obtain⟨tn,xn⟩:=tr_newO (o := .lst []) hD ok1.ex
  obtain⟨okn,tn'⟩:=ok1.pure tn xn
  exact⟨ds.length,by simp,Nat.zero_le _,σ,env1,F1,fp1,[],[],tn',okn,rfl,fun _ _=>rfl,upd_same,.nil,D1,Df,h1⟩
 ·rintro i m H2 ⟨rfl,hi,σ2,env2,F2,fp2,acc,xs,t2,ok2,l2,k2,hD2,r2,fD2,nD2,h2⟩
  by_cases hlt:i<ds.length
  ·refine .inr ⟨w.go F2 H2 i t2.ex ok2.ex hlt,fun H3 =>∃σ2 env2 F2 fp2 acc xs,Tr F1 H1 fp1 F2 H3 fp2/\Ok F2 H3 σ2 env2 fp2/\σ2.length=σ.length/\(∀j,j∉vs->σ2[j]? =σ[j]?)/\H3 D=some (.lst xs)/\Rps F2 xs acc/\F2 D=none/\D∉fp2/\lcL ag at' ae vs (fun acc e=>P (.lst acc) (backE env1 vs e)) (ds.drop (i+1)) acc env2,
    fun H3 hh=>⟨ds.length-(i+1),by omega,rfl,hlt,hh⟩,fun x H3 y => ?_⟩
   obtain⟨F3,d,hd,t3,x3,r3⟩:=w.yld F2 H2 i x H3 t2.ex ok2.ex hlt y
   obtain⟨ok3,t3'⟩:=ok2.pure t3 x3
   obtain⟨fp4,ok4,t4⟩:=ok3.wipe vs
   have ew:wipe σ2 vs=wipe σ vs:=wipe_eq_of l2 k2
   rw [ew]at ok4
   have e:ds.drop i=d::ds.drop (i+1):=by
    rw [List.drop_eq_getElem_cons hlt]
    rw [List.getElem?_eq_getElem hlt]at hd
    cases hd
    rfl
   rw [e]at h2
   refine hg _ _ ok4 r3 h2 fun σ5 env5 F5 H5 fp5 t5 ok5 k5 h5 => ?_
   have agree:∀j,j∉vs->σ5[j]? =σ[j]? :=fun j hj=>(k5.2 j fun z=>hj (hts j z)).trans (wipe_out hj)
   have len5:σ5.length=σ.length:=k5.1.trans (wipe_length σ vs)
   have caps:js.map (NdefX.slotAt σ5)=js.map (NdefX.slotAt σ):=List.map_congr_left fun j hj=>by
    unfold NdefX.slotAt
    rw [agree j (hjs j hj)]
   refine⟨(wipe_eq_of len5 agree),ht _ _ ok5 h5 fun b env6 F6 H6 fp6 t6 ok6 h6 => ?_⟩
   have tt:=((t3'.trans t4).trans t5).trans t6
   obtain⟨q1,q2,q3⟩:=tt.keeps (fq :=[D]) (fun a ha=>by simp at ha;subst ha;exact nD2) (fun a ha=>by simp at ha;subst ha;rw [hD2];exact fun z=>by cases z) (fun a ha=>by simp at ha;subst ha;exact fD2)
   have hD6:=q1 D (by simp) _ hD2
   have nD6:=q2 D (by simp)
   have fD6:=q3 D (by simp)
   cases b with
   | true =>
    rw [if_pos rfl]
    refine he _ _ _ ok6 caps (h6.1 rfl) fun v y env7 F7 H7 fp7 t7 ok7 r7 h7 => ?_
    obtain⟨p1,p2,p3⟩:=t7.keeps (fq :=[D]) (fun a ha=>by simp at ha;subst ha;exact nD6) (fun a ha=>by simp at ha;subst ha;rw [hD6];exact fun z=>by cases z) (fun a ha=>by simp at ha;subst ha;exact fD6)
    have hD7:=p1 D (by simp) _ hD6
    have nD7:=p2 D (by simp)
    have fD7:=p3 D (by simp)
    have rr:Rps F7 (xs ++ [v]) (acc ++ [y]):=((r2.up tt.ex).up t7.ex).app (.one r7)
    refine⟨xs,hD7,by rw [r2.len];exact h7.1,σ5,env7,F7,fp7,acc ++ [y],xs ++ [v], ?_, ?_,len5,agree,upd_same,rr,fD7,nD7,h7.2⟩
    ·have tall:=(t2.trans tt).trans t7
     refine⟨tall.ex,fun b u z n => ?_,tall.nw,tall.nf⟩
     have:b≠D:=fun e=>by rw [e,hD]at z;cases z
     rw [upd_ne this]
     exact tall.kp b u z n
    ·refine⟨fun b u z => ?_,ok7.env.mono (Ex.refl F7) fun b hb u z => ?_,ok7.fr⟩
     ·have:b≠D:=fun e=>by rw [e,fD7]at z;cases z
      rw [upd_ne this]
      exact ok7.ex b u z
     ·have:b≠D:=fun e=>nD7 (e ▸ hb)
      rw [upd_ne this]
      exact z
   | false =>
    rw [if_neg Bool.false_ne_true]
    exact⟨σ5,env6,F6,fp6,acc,xs,t2.trans tt,ok6,len5,agree,hD6,r2.up tt.ex,fD6,nD6,h6.2 rfl⟩
  ·have e:i=ds.length:=by omega
   subst e
   rw [List.drop_length]at h2
   refine .inl ⟨w.stop F2 H2 t2.ex ok2.ex, ?_⟩
   obtain⟨fp3,ok3,t3⟩:=Ok.back ok1 t2.ex vs ok2
   rw [backS_get σ vs σ2 l2 k2]at ok3
   refine q D (.lst acc) _ F2 H2 fp3 [D] (t1.trans (t2.trans t3)) ok3 ⟨rfl,xs,hD2,r2⟩ (fun b hb => ?_) h2
   have e:b=D:=by simpa using hb
   subst e
   refine⟨fD2,fun m => ?_,t1.back hD⟩
   rcases t3.nf b m with z | z
   ·exact nD2 z
   ·rw [hD2]at z;cases z
section
variable {X:Cx} {mk:Addr->NdefX.NF} {cl:List (Str×Addr)} {ps fr:List Str} {k:Nat} {x:Str} {R:ASp} {su:TA} {tu:AL} {e:Expr} {es:List Expr} {p cpos:Pos}
theorem ao_lcW(i:Nat){js:List Nat}{tg iter:Expr}{scope:Scope}{own:List (Str×Nat)}{pos:Pos}{wi:TI}{ti:AI}{g:TG}{ag:AG}{ts:List Nat}(hc:X.calm=true)(hN:X.N.Nodup)(Fn:∀f c,NOg X.prog X.w X.K X.mg X.base CX0 k f (mk c) ps fr R)(hcl:∀c,(mk c).cl=cl)(cp:X.Ok->NdefX.Caps X cl fr js)(hfn:∀y c,cl.lookup y=some c->X.fn y=true)(hr:RoomG k X.A)(len:∀args W,R args W->args.length=ps.length+js.length)
  (hi:API X tg iter wi ti) (ok:BlkOk X.N X.env.scope scope own)
  (hg:∀(s:Shared) (H:Hp) (C:Addr) (cl:List (Str×Addr)) (fp:List Addr),APG (X.blk s H scope (compEnvC scope cl C X.env) fp) ts tg g ag)
  (ha:∀(s:Shared) (H:Hp) (C:Addr) (cl:List (Str×Addr)) (fp:List Addr),APA (X.blk s H scope (compEnvC scope cl C X.env) fp) (e::es) su tu)
  (hNi:X.N[i]? =some x:=by rfl) (hv:∀(cl:List (Str×Addr)) (C:Addr),Vis (compEnvC scope cl C X.env).scope x:=by intro _ _;first | exact Or.inl rfl | exact Or.inr (Or.inl rfl) | exact Or.inr (Or.inr rfl))
  (hd:(x==("__debug__" : Str))=false:=by decide) (hcd:(x==("__classdict__" : Str))=false:=by decide)
  (he:∀(cl:List (Str×Addr)) (C:Addr),starEach (e::es) (compEnvC scope cl C X.env)=(false,eval e (compEnvC scope cl C X.env))::starEach es (compEnvC scope cl C X.env):=by intro _ _;rfl) (hpl:∀(cl:List (Str×Addr)) (C:Addr),(backTo cpos (starEach es (compEnvC scope cl C X.env))).any (·.1)=false:=by intro _ _;rfl)
  (hts:∀i∈ts,i∈own.map (·.2):=by decide) (hjs:∀j∈js,j∉own.map (·.2):=by decide) (hs:∀v,foldedSetIterable iter X.env v=pure v:=by intro _;rfl) :
  AEO X (.ListComp (.Call (.Name x p) (e::es) [] cpos) [⟨tg,iter,[],0⟩] scope pos) (tLcW wi g tYes (fun ws=>tCallW mk ps.length i ws R E0 su) (own.map (·.2)) js) (aLc ti ag aYes (aFnN R mk i js tu) (own.map (·.2))):=by
 refine⟨pe_lcW hc hN hi.pe ok cp hfn (fun s H C cl fp=>(hg s H C cl fp).pe) (fun s H C cl fp=>pts_nil) (fun ws s H C cc fp hC => ?_) hs,fun Q P okk h q=>sim_lcW hi.sm (hg {} (fun _=>none) 0 [] []).sm (fun Q P ok h q=>q _ _ _ _ _ Tr.refl ok h) (fun ws=>sim_callW len (ha {} (fun _=>none) 0 [] []).sm) hts hjs Q P okk h q⟩
 exact pe_callW (X:=X.blk s H scope (compEnvC scope cc C X.env) fp) Fn (fun pins σ H2 s2 J c=>by rw [hcl c];exact hC pins σ H2 s2 J) hr (ha s H C cc fp).pe hNi (hv cc C) hd hcd (he cc C) (hpl cc C)
end
end
end Cf
namespace Cf
open PySem PySem.Spec PyProof.Rows L2
open PySem.Sem (wp)
namespace ZL
section
variable {prog:Program} {w:World} {A:Around} {E:Value->Shared->Prop} {s:Shared}
theorem held_item{z TI TO T i1 i2 l1 l2:Addr}{f:Bool}{oT:Obj}{k1 k2:Nat}{xs ys:Array Value}{x y:Value}{Q:Value->Shared->Prop}(D:ZipApart z TI TO i1 i2 l1 l2)
  (hz:PySem.IsZipHeld s.heap z TI TO T f) (hT:s.heap.get? T=some oT) (hTI:IsPair s.heap TI (.ref i1) (.ref i2))
  (h1:s.heap.IsTupleIter i1 l1 k1) (h2:s.heap.IsTupleIter i2 l2 k2) (t1:s.heap.IsTuple l1 xs) (t2:s.heap.IsTuple l2 ys) (hx:xs[k1]? =some x) (hy:ys[k2]? =some y)
  (hQ:∀g,PySem.IsZipHeld g z TI TO T true->g.IsTupleIter i1 l1 (k1+1)->g.IsTupleIter i2 l2 (k2+1)->IsPair g s.heap.objs.size x y->g.objs.size=s.heap.objs.size+1 ->
   (∀c o,c≠z->c≠i1->c≠i2->s.heap.get? c=some o->g.get? c=some o)->Q (.ref s.heap.objs.size) { s with heap:=g }) :
  wpAny (model prog w) A (Builtin.«zip.__next__» ⟨[.ref z],[]⟩) (fun fin s2 =>∃v,fin = .done (.ret v)/\Q v s2) E s:=by
 show wpAny _ _ (field (.ref z) 2 >>=_) _ _ _
 refine wpAny_bind (wpAny_field hz rfl (x := .bool false) rfl ?_)
 show wpAny _ _ (field (.ref z) 3 >>=_) _ _ _
 refine wpAny_bind (wpAny_field hz rfl (x := .ref TI) rfl ?_)
 refine wpAny_bind (wpAny_seqItems hTI rfl ?_)
 show wpAny _ _ (Builtin.SmallTypes.ownedTupleIsFree (.ref z) >>=_) _ _ _
 refine wpAny_bind (PySem.wpAny_tupleHeld_zip hz hT fun g1 hz1 hs1 => ?_)
 simp only [Bool.false_eq_true,if_false]
 refine wpAny_bind ?_
 rw [<- Array.forIn_toList]
 simp only [List.forIn_cons,List.forIn_nil]
 refine wpAny_bind (wpAny_bind (wpAny_holding ?_))
 show wpAny _ _ (Builtin.SmallTypes.nextOf (.ref i1) >>=_) _ _ _
 refine wpAny_bind (RZ.nextOf_tuple_item (s:={ s with heap:=g1 }) (h1.extBut hs1.extBut D.i1z) (t1.extBut hs1.extBut D.l1z) hx fun g2 n1 hs2=>wpAny_pure (wpAny_pure ?_))
 refine wpAny_bind (wpAny_bind (wpAny_holding ?_))
 show wpAny _ _ (Builtin.SmallTypes.nextOf (.ref i2) >>=_) _ _ _
 refine wpAny_bind (RZ.nextOf_tuple_item (s:={ s with heap:=g2 }) ((h2.extBut hs1.extBut D.i2z).extBut hs2.extBut D.i12.symm) ((t2.extBut hs1.extBut D.l2z).extBut hs2.extBut D.l2i1) hy fun g3 n2 hs3=>wpAny_pure (wpAny_pure (wpAny_pure ?_)))
 show wpAny _ _ (newTuple [x,y] >>=_) _ _ _
 refine wpAny_bind (wpAny_newTuple ?_)
 have hsz:g3.objs.size=s.heap.objs.size:=by rw [hs3.1,hs2.1,hs1.1]
 have hz3:PySem.IsZipHeld g3 z TI TO T true:=hs3.extBut _ _ D.i2z.symm (hs2.extBut _ _ D.i1z.symm hz1)
 have hk:∀c o,c≠z->c≠i1->c≠i2->s.heap.get? c=some o->g3.get? c=some o:=fun c o c1 c2 c3 e=>hs3.extBut _ _ c3 (hs2.extBut _ _ c2 (hs1.extBut _ _ c1 e))
 have n13:g3.IsTupleIter i1 l1 (k1+1):=n1.extBut hs3.extBut D.i12
 refine wpAny_pure ⟨_,rfl, ?_⟩
 show Q (.ref g3.objs.size) _
 have hp:IsPair (g3.push { cls := .type "tuple",data := .seq #[x,y] }) g3.objs.size x y:=Heap.get?_push_size _ rfl
 have hz4:(g3.push { cls := .type "tuple",data := .seq #[x,y] }).objs.size=g3.objs.size+1:=Heap.size_push ..
 rw [hsz]at hp hz4 ⊢
 exact hQ _ (Heap.get?_push_of_some _ hz3) (n13.at fun o e=>Heap.get?_push_of_some _ e) (n2.at fun o e=>Heap.get?_push_of_some _ e) hp hz4 fun c o c1 c2 c3 e=>Heap.get?_push_of_some _ (hk c o c1 c2 c3 e)
theorem held_end{z TI TO T i1 i2 l1 l2:Addr}{f:Bool}{oT:Obj}{k1 k2:Nat}{xs ys:Array Value}{Q:Fin->Shared->Prop}(hh:A.handled=none)(D:ZipApart z TI TO i1 i2 l1 l2)
  (hz:PySem.IsZipHeld s.heap z TI TO T f) (hT:s.heap.get? T=some oT) (hTI:IsPair s.heap TI (.ref i1) (.ref i2))
  (h1:s.heap.IsTupleIter i1 l1 k1) (h2:s.heap.IsTupleIter i2 l2 k2) (t1:s.heap.IsTuple l1 xs) (t2:s.heap.IsTuple l2 ys) (hend:xs[k1]? =none)
  (hE:∀g e,(∀c o,c≠z->c≠i1->c≠i2->s.heap.get? c=some o->g.get? c=some o)->(∃o,g.get? e=some o/\o.cls = .type "StopIteration")->E (.ref e) { s with heap:=g }) :
  wpAny (model prog w) A (Builtin.«zip.__next__» ⟨[.ref z],[]⟩) Q E s:=by
 show wpAny _ _ (field (.ref z) 2 >>=_) _ _ _
 refine wpAny_bind (wpAny_field hz rfl (x := .bool false) rfl ?_)
 show wpAny _ _ (field (.ref z) 3 >>=_) _ _ _
 refine wpAny_bind (wpAny_field hz rfl (x := .ref TI) rfl ?_)
 refine wpAny_bind (wpAny_seqItems hTI rfl ?_)
 show wpAny _ _ (Builtin.SmallTypes.ownedTupleIsFree (.ref z) >>=_) _ _ _
 refine wpAny_bind (PySem.wpAny_tupleHeld_zip hz hT fun g1 hz1 hs1 => ?_)
 simp only [Bool.false_eq_true,if_false]
 refine wpAny_bind ?_
 rw [<- Array.forIn_toList]
 simp only [List.forIn_cons,List.forIn_nil]
 refine wpAny_bind (wpAny_bind (wpAny_holding ?_))
 show wpAny _ _ (Builtin.SmallTypes.nextOf (.ref i1) >>=_) _ _ _
 refine wpAny_bind (RZ.nextOf_tuple_end (s:={ s with heap:=g1 }) hh (h1.extBut hs1.extBut D.i1z) (t1.extBut hs1.extBut D.l1z) hend fun g2 e hs2 he => ?_)
 exact hE g2 e (fun c o c1 c2 _ x=>hs2 _ _ c2 (hs1.extBut _ _ c1 x)) he
theorem next_held{z TI TO T i1 i2 l1 l2:Addr}{f:Bool}{oT:Obj}{k1 k2:Nat}{xs ys:Array Value}{x y:Value}{Q:Option Value->Shared->Prop}(D:ZipApart z TI TO i1 i2 l1 l2)
  (hz:PySem.IsZipHeld s.heap z TI TO T f) (hT:s.heap.get? T=some oT) (hTI:IsPair s.heap TI (.ref i1) (.ref i2))
  (h1:s.heap.IsTupleIter i1 l1 k1) (h2:s.heap.IsTupleIter i2 l2 k2) (t1:s.heap.IsTuple l1 xs) (t2:s.heap.IsTuple l2 ys) (hx:xs[k1]? =some x) (hy:ys[k2]? =some y)
  (hQ:∀g,PySem.IsZipHeld g z TI TO T true->g.IsTupleIter i1 l1 (k1+1)->g.IsTupleIter i2 l2 (k2+1)->IsPair g s.heap.objs.size x y->g.objs.size=s.heap.objs.size+1 ->
   (∀c o,c≠z->c≠i1->c≠i2->s.heap.get? c=some o->g.get? c=some o)->Q (some (.ref s.heap.objs.size)) { s with heap:=g }):wpAny (model prog w) A (pyNext (.ref z)) Q E s:=by
 have hTy:s.TypeIs (.ref z) "zip" :=⟨_,hz,rfl⟩
 unfold pyNext
 exact wpAny_bind (wpAny_attempt (wpAny_callSpecial?_slot (name:=Str.ofString "__next__") hTy F.slot_zip_next
  (wpAny_call_entry F.slot_zip_next hTy F.entry_zip_next (held_item D hz hT hTI h1 h2 t1 t2 hx hy fun g a1 a3 a4 a5 a6 a7=>wpAny_pure (hQ g a1 a3 a4 a5 a6 a7)) (F.args_zip_next_1 _))))
theorem stop_held{z TI TO T i1 i2 l1 l2:Addr}{f:Bool}{oT:Obj}{k1 k2:Nat}{xs ys:Array Value}{Q:Option Value->Shared->Prop}(hh:A.handled=none)(D:ZipApart z TI TO i1 i2 l1 l2)
  (hz:PySem.IsZipHeld s.heap z TI TO T f) (hT:s.heap.get? T=some oT) (hTI:IsPair s.heap TI (.ref i1) (.ref i2))
  (h1:s.heap.IsTupleIter i1 l1 k1) (h2:s.heap.IsTupleIter i2 l2 k2) (t1:s.heap.IsTuple l1 xs) (t2:s.heap.IsTuple l2 ys) (hend:xs[k1]? =none)
  (hQ:∀g,(∀c o,c≠z->c≠i1->c≠i2->s.heap.get? c=some o->g.get? c=some o)->Q none { s with heap:=g }):wpAny (model prog w) A (pyNext (.ref z)) Q E s:=by
 have hTy:s.TypeIs (.ref z) "zip" :=⟨_,hz,rfl⟩
 unfold pyNext
 refine wpAny_bind (wpAny_attempt (wpAny_callSpecial?_slot (name:=Str.ofString "__next__") hTy F.slot_zip_next
  (wpAny_call_entry F.slot_zip_next hTy F.entry_zip_next (held_end hh D hz hT hTI h1 h2 t1 t2 hend fun g e hk he => ?_) (F.args_zip_next_1 _))))
 obtain⟨o,ho,hc⟩:=he
 exact wpAny_bind (wpAny_isInstance (T := "StopIteration") (b:=true) ⟨o,ho,hc⟩ isSubtype_stop (wpAny_pure (hQ _ hk)))
end
structure Src(prog:Program)(w:World)(A:Around)(I S:Addr)(wr:List Addr)(n:Nat)(Rel:Nat->Value->Value->Prop)(St:Nat->Heap->Prop):Prop where
 off:S∉wr
 frame:∀i g h,St i g->(∀b o,b≠S->g.get? b=some o->h.get? b=some o)->St i h
 item:∀i (s:Shared) (Q:Option Value->Shared->Prop) (E:Value->Shared->Prop),i<n->St i s.heap->S<s.heap.objs.size ->
  (∀x y g tk,Rel i x y->IsPair g s.heap.objs.size x y->St (i+1) g->(∀b o,b∉wr->s.heap.get? b=some o->g.get? b=some o)->Q (some (.ref s.heap.objs.size)) { s with heap:=g,toks:=tk })->wpAny (model prog w) A (pyNext (.ref I)) Q E s
 done:∀(s:Shared) (Q:Option Value->Shared->Prop) (E:Value->Shared->Prop),St n s.heap->(∀g tk,(∀b o,b∉wr->s.heap.get? b=some o->g.get? b=some o)->Q none { s with heap:=g,toks:=tk })->wpAny (model prog w) A (pyNext (.ref I)) Q E s
structure Told(Rel:Nat->Value->Value->Prop)(lo:Addr)(h:Heap)(as:List Addr):Prop where
 rise:as.Pairwise (· < ·)
 above:∀a∈as,lo<a
 pairs:∀(j:Nat) (a:Addr),as[j]? =some a ->∃x y,Rel j x y/\IsPair h a x y
section
variable {prog:Program} {w:World} {A:Around} {s:Shared} {R:Result->Shared->Prop} {I S:Addr} {wr:List Addr} {n:Nat} {Rel:Nat->Value->Value->Prop} {St:Nat->Heap->Prop}
theorem loop(W:Src prog w A.in1 I S wr n Rel St)(hn:n<=sizeLine)(hwr:∀b∈wr,b<=S)(res:Value){h0:Heap}
  (hR:∀g tk acc c as,(∀b o,b≠S->b∉wr->h0.get? b=some o->g.get? b=some o)->g.get? S=some { cls := .type "list",dict:=none,data := .seq acc c,slots := #[] }->as.length=n->Told Rel S g as ->
   acc.toList=as.map Value.ref->R (.ok (.ret res)) { s with heap:=g,toks:=tk }) :
  ∀(k i:Nat) (h:Heap) (tk c:Nat) (acc:Array Value) (as:List Addr),n-i=k->i<=n->St i h->(∀b o,b≠S->b∉wr->h0.get? b=some o->h.get? b=some o) ->
   h.get? S=some { cls := .type "list",dict:=none,data := .seq acc c,slots := #[] }->acc.toList=as.map Value.ref->as.length=i->Told Rel S h as ->
   codeAny (model prog w) A (.builtin "list.extend.loop" ⟨[.ref S,.ref I,res],[]⟩) R { s with heap:=h,toks:=tk }:=by
 have aw:∀{g:Heap} {as:List Addr},Told Rel S g as ->∀a∈as,a∉wr:=fun t a ha m=>absurd (hwr a m) (Nat.not_le_of_lt (t.above a ha))
 intro k
 induction k with
 | zero =>
  intro i h tk c acc as hk hi hst hkeep hS hacc hal hG
  obtain rfl:i=n:=by omega
  refine codeAny_builtin PySem.F.entry_extend_loop ?_
  rw [Around.under_plainId PySem.F.plain_extend_loop _]
  show wpAny _ A.in1 (pyNext (.ref I) >>=_) _ _ _
  refine wpAny_bind (W.done { s with heap:=h,toks:=tk } _ _ hst fun g tk2 he=>wpAny_pure (hR g tk2 acc c as (fun b o h1 h2 e=>he b o h2 (hkeep b o h1 h2 e)) (he S _ W.off hS) hal ⟨hG.rise,hG.above,fun j a hj => ?_⟩ hacc))
  obtain⟨x,y,e1,e2⟩:=hG.pairs j a hj
  exact⟨x,y,e1,he a _ (aw hG a (List.mem_of_getElem? hj)) e2⟩
 | succ k ih =>
  intro i h tk c acc as hk hi hst hkeep hS hacc hal hG
  have hlt:i<n:=by omega
  have hsz:acc.size=i:=by rw [<- Array.length_toList,hacc,List.length_map,hal]
  have hSl:S<h.objs.size:=Heap.lt_size hS
  refine codeAny_builtin PySem.F.entry_extend_loop ?_
  rw [Around.under_plainId PySem.F.plain_extend_loop _]
  show wpAny _ A.in1 (pyNext (.ref I) >>=_) _ _ _
  refine wpAny_bind (W.item i { s with heap:=h,toks:=tk } _ _ hlt hst hSl fun x y g tk2 hr hp st2 hkp => ?_)
  dsimp only at hp hkp ⊢
  have hS2:=hkp S _ W.off hS
  have up:∀b o,b≠S->g.get? b=some o->(g.update S (Obj.mapSeq (·.push (Value.ref h.objs.size)))).get? b=some o:=fun b o hb e=>(Heap.get?_update_other _ _ (Ne.symm hb)).trans e
  show wpAny _ A.in1 (updateSeq S (·.push (Value.ref h.objs.size)) >>=_) _ _ _
  refine wpAny_bind ?_
  refine wpAny_updateSeq hS2 rfl (wpAny_pure ⟨plainId_quiet PySem.F.plain_extend_loop _,ih (i+1) _ tk2 _ (acc.push (Value.ref h.objs.size)) (as ++ [h.objs.size]) (by omega) hlt (W.frame _ _ _ st2 up)
   (fun b o h1 h2 e=>up b o h1 (hkp b o h2 (hkeep b o h1 h2 e))) (Heap.get?_update_self _ hS2 rfl) (by rw [Array.toList_push,hacc,List.map_append];rfl) (by rw [List.length_append,hal];rfl) ⟨?_, ?_, ?_⟩⟩) (by rw [hsz];omega) (by show (acc.push (Value.ref h.objs.size)).size<=sizeLine+1;rw [Array.size_push,hsz];omega)
  ·refine List.pairwise_append.mpr ⟨hG.rise,List.pairwise_singleton _ _,fun a ha b hb => ?_⟩
   rw [List.mem_singleton.mp hb]
   obtain⟨j,hj⟩:=List.mem_iff_getElem?.mp ha
   obtain⟨_,_,_,e⟩:=hG.pairs j a hj
   exact Heap.lt_size e
  ·intro a ha
   rcases List.mem_append.mp ha with ha | ha
   ·exact hG.above a ha
   ·rw [List.mem_singleton.mp ha];exact hSl
  ·intro j b hj
   by_cases h1:j<as.length
   ·rw [List.getElem?_append_left h1]at hj
    obtain⟨x2,y2,e1,e2⟩:=hG.pairs j b hj
    have hb:=List.mem_of_getElem? hj
    exact⟨x2,y2,e1,up b _ (Nat.ne_of_gt (hG.above b hb)) (hkp b _ (aw hG b hb) e2)⟩
   ·rw [List.getElem?_append_right (by omega)]at hj
    have e0:j-as.length=0:=by
     cases hz:j-as.length with
     | zero=>rfl
     | succ m=>rw [hz]at hj;simp at hj
    rw [e0]at hj
    have hb:h.objs.size=b:=by simpa using hj
    subst hb
    have ej:j=i:=by omega
    subst ej
    exact⟨x,y,hr,up _ _ (Nat.ne_of_gt hSl) hp⟩
end
theorem zip_no_len:typeLookup (.type "zip") "__len__" =pure none:=by rw [typeLookup_type,builtinLookup_eq_fast];kernel_rfl
theorem zip_no_hint:typeLookup (.type "zip") "__length_hint__" =pure none:=by rw [typeLookup_type,builtinLookup_eq_fast];kernel_rfl
section
variable {prog:Program} {w:World} {A:Around} {E:Value->Shared->Prop} {s:Shared}
theorem zip_hint{r:Addr}(hT:s.TypeIs (.ref r) "zip"){Q:Bool->Shared->Prop}(h:Q true s):wpAny (model prog w) A (Builtin.List.listLengthHint (.ref r)) Q E s:=by
 unfold Builtin.List.listLengthHint
 refine wpAny_bind (wpAny_specialOf hT zip_no_len ?_)
 show wpAny _ _ (specialOf (Value.ref r) (Str.ofString "__length_hint__") >>=_) _ _ _
 exact wpAny_bind (wpAny_specialOf hT zip_no_hint (wpAny_pure h))
end
end ZL
end Cf
namespace Cf
open PySem PySem.Spec PyProof.Rows L2
open PySem.Sem (wp)
namespace ZL
def ZSt(z TI TO i1 i2 l1 l2 S:Addr)(xs ys:Array Value)(i:Nat)(h:Heap):Prop:=IsPair h TI (.ref i1) (.ref i2)/\h.IsTupleIter i1 l1 i/\h.IsTupleIter i2 l2 i/\h.IsTuple l1 xs/\h.IsTuple l2 ys /\
 ((IsZip h z TI TO .none /\∃a b,IsPair h TO a b) ∨∃T f oT,PySem.IsZipHeld h z TI TO T f/\h.get? T=some oT/\T≠z/\T≠i1/\T≠i2/\T≠S)
section
variable {prog:Program} {w:World} {A:Around} {E:Value->Shared->Prop} {s:Shared} {R:Result->Shared->Prop}
theorem src_zip{z TI TO i1 i2 l1 l2 S:Addr}(D:ZipApart z TI TO i1 i2 l1 l2)(hh:A.handled=none)(xs ys:Array Value)(hn:xs.size=ys.size)(d:z≠S/\TI≠S/\TO≠S/\i1≠S/\i2≠S/\l1≠S/\l2≠S) :
  Src prog w A z S [z,TO,i1,i2] xs.size (fun i x y=>xs[i]? =some x/\ys[i]? =some y) (ZSt z TI TO i1 i2 l1 l2 S xs ys):=by
 obtain⟨dz,dTI,dTO,d1,d2,dl1,dl2⟩:=d
 refine⟨fun m => ?_,fun i g h st hk => ?_,fun i s1 Q E hi st hS hQ => ?_,fun s1 Q E st hQ => ?_⟩
 ·simp only [List.mem_cons,List.not_mem_nil,or_false]at m
  rcases m with e | e | e | e
  ·exact dz e.symm
  ·exact dTO e.symm
  ·exact d1 e.symm
  ·exact d2 e.symm
 ·obtain⟨hTI,h1,h2,t1,t2,hz⟩:=st
  refine⟨hk _ _ dTI hTI,h1.at fun o e=>hk _ o d1 e,h2.at fun o e=>hk _ o d2 e,t1.at fun o e=>hk _ o dl1 e,t2.at fun o e=>hk _ o dl2 e, ?_⟩
  rcases hz with ⟨hz,a,b,hTO⟩ | ⟨T,f,oT,hz,hT,r1,r2,r3,r4⟩
  ·exact .inl ⟨hk _ _ dz hz,a,b,hk _ _ dTO hTO⟩
  ·exact .inr ⟨T,f,oT,hk _ _ dz hz,hk _ _ r4 hT,r1,r2,r3,r4⟩
 ·obtain⟨hTI,h1,h2,t1,t2,hz⟩:=st
  have ex:=Array.getElem?_eq_getElem hi
  have ey:=Array.getElem?_eq_getElem (xs:=ys) (i:=i) (by omega)
  have lt:∀{c o},s1.heap.get? c=some o->s1.heap.objs.size≠c:=fun e=>Nat.ne_of_gt (Heap.lt_size e)
  have n1:s1.heap.objs.size≠i1:=let ⟨_,e,_⟩:=h1;lt e
  have n2:s1.heap.objs.size≠i2:=let ⟨_,e,_⟩:=h2;lt e
  have out:∀{g:Heap},(∀c o,c≠z->c≠TO->c≠i1->c≠i2->s1.heap.get? c=some o->g.get? c=some o) ->∀b o,b ∉ [z,TO,i1,i2]->s1.heap.get? b=some o->g.get? b=some o:=fun hk c o hc e=>hk c o (fun x=>hc (by simp [x])) (fun x=>hc (by simp [x])) (fun x=>hc (by simp [x])) (fun x=>hc (by simp [x])) e
  rcases hz with ⟨hz,a,b,hTO⟩ | ⟨T,f,oT,hz,hT,r1,r2,r3,r4⟩
  ·refine RZ.pyNext_zipT_item D hz hTI hTO h1 h2 t1 t2 ex ey fun g a1 a2 a3 a4 a5 a6 hk => ?_
   exact hQ _ _ g s1.toks ⟨ex,ey⟩ a5 ⟨hk _ _ D.TIz D.TITO D.TIi1 D.TIi2 hTI,a3,a4,t1.at fun o e=>hk _ o D.l1z D.l1TO D.l1i1 D.l1i2 e,t2.at fun o e=>hk _ o D.l2z D.l2TO D.l2i1 D.l2i2 e,
    .inr ⟨s1.heap.objs.size,false,_,a1,a5,lt hz,n1,n2,Nat.ne_of_gt hS⟩⟩ (out hk)
  ·refine next_held D hz hT hTI h1 h2 t1 t2 ex ey fun g a1 a3 a4 a5 a6 hk => ?_
   exact hQ _ _ g s1.toks ⟨ex,ey⟩ a5 ⟨hk _ _ D.TIz D.TIi1 D.TIi2 hTI,a3,a4,t1.at fun o e=>hk _ o D.l1z D.l1i1 D.l1i2 e,t2.at fun o e=>hk _ o D.l2z D.l2i1 D.l2i2 e,
    .inr ⟨T,true,oT,a1,hk _ _ r1 r2 r3 hT,r1,r2,r3,r4⟩⟩ (out fun c o cz _ c1 c2 e=>hk c o cz c1 c2 e)
 ·obtain⟨hTI,h1,h2,t1,t2,hz⟩:=st
  have hend:xs[xs.size]? =none:=Array.getElem?_eq_none (Nat.le_refl _)
  have out:∀{g:Heap},(∀c o,c≠z->c≠TO->c≠i1->c≠i2->s1.heap.get? c=some o->g.get? c=some o) ->∀b o,b ∉ [z,TO,i1,i2]->s1.heap.get? b=some o->g.get? b=some o:=fun hk c o hc e=>hk c o (fun x=>hc (by simp [x])) (fun x=>hc (by simp [x])) (fun x=>hc (by simp [x])) (fun x=>hc (by simp [x])) e
  rcases hz with ⟨hz,a,b,hTO⟩ | ⟨T,f,oT,hz,hT,r1,r2,r3,r4⟩
  ·exact RZ.pyNext_zipT_end hh D hz hTI hTO h1 h2 t1 t2 (.inl hend) fun g hk=>hQ g s1.toks (out hk)
  ·exact stop_held hh D hz hT hTI h1 h2 t1 t2 hend fun g hk=>hQ g s1.toks (out fun c o cz _ c1 c2 e=>hk c o cz c1 c2 e)
theorem extend_zip{z TI TO i1 i2 l1 l2 S:Addr}(D:ZipApart z TI TO i1 i2 l1 l2)(hh:A.handled=none){xs ys:Array Value}(hn:xs.size=ys.size)(hs:xs.size<=sizeLine)(dl:l1≠S/\l2≠S)(lo:z<S/\TI<S/\TO<S/\i1<S/\i2<S)
  (st:ZSt z TI TO i1 i2 l1 l2 S xs ys 0 s.heap) (res:Value) (c0:Nat) (hS:s.heap.get? S=some { cls := .type "list",data := .seq #[] c0 })
  (hR:∀g tk acc c as,(∀b o,b≠S->b ∉ [z,TO,i1,i2]->s.heap.get? b=some o->g.get? b=some o)->g.get? S=some { cls := .type "list",dict:=none,data := .seq acc c,slots := #[] }->as.length=xs.size->Told (fun i x y=>xs[i]? =some x/\ys[i]? =some y) S g as ->
   acc.toList=as.map Value.ref->R (.ok (.ret res)) { s with heap:=g,toks:=tk }) (hz:IsZip s.heap z TI TO .none) :
  wpAny (model prog w) A.in1 (Builtin.List.listExtendWith (.ref S) (.ref z) res)
   (fun fin s2=>match fin with | .done f=>R (.ok f) s2 | .again c2=>c2.quiet=true/\codeAny (model prog w) A c2 R s2) (fun e s2=>R (.error e) s2) s:=by
 obtain⟨lz,lTI,lTO,l1',l2'⟩:=lo
 have W:=src_zip (prog:=prog) (w:=w) (A:=A.in1) (S:=S) D hh xs ys hn ⟨Nat.ne_of_lt lz,Nat.ne_of_lt lTI,Nat.ne_of_lt lTO,Nat.ne_of_lt l1',Nat.ne_of_lt l2',dl.1,dl.2⟩
 have wrb:∀b ∈ [z,TO,i1,i2],b<=S:=fun b hb=>by
  simp only [List.mem_cons,List.not_mem_nil,or_false]at hb
  rcases hb with rfl | rfl | rfl | rfl
  ·exact Nat.le_of_lt lz
  ·exact Nat.le_of_lt lTO
  ·exact Nat.le_of_lt l1'
  ·exact Nat.le_of_lt l2'
 have key:∀(h:Heap) (c1 tk:Nat),(∀b o,b≠S->s.heap.get? b=some o->h.get? b=some o)->h.get? S=some { cls := .type "list",data := .seq #[] c1 } ->
   codeAny (model prog w) A (.builtin "list.extend.loop" ⟨[.ref S,.ref z,res],[]⟩) R { s with heap:=h,toks:=tk }:=fun h c1 tk hk hS1 =>
  loop W hs wrb res (h0:=s.heap) (fun g tk2 acc c as k1 k2 k3 k4 k5=>hR g tk2 acc c as k1 k2 k3 k4 k5) xs.size 0 h tk c1 #[] [] (Nat.sub_zero _) (Nat.zero_le _) (W.frame _ _ _ st hk) (fun b o hb _ e=>hk b o hb e) hS1 rfl rfl
   ⟨List.Pairwise.nil,(fun _ ha=>nomatch ha),(fun j a hj=>by simp at hj)⟩
 have hSz:S≠z:=Nat.ne_of_gt lz
 unfold Builtin.List.listExtendWith
 refine wpAny_bind (wpAny_typeOf (T := "zip") ⟨_,hz,rfl⟩ ?_)
 have h1:Builtin.List.listSameRef (.ref S) (.ref z)=false:=by simp [Builtin.List.listSameRef,hSz]
 have h2:(Value.type "zip" ==Value.type "list")=false:=by decide
 have h3:(Value.type "zip" ==Value.type "tuple")=false:=by decide
 simp only [h1,h2,h3,Bool.or_false,Bool.false_eq_true,if_false]
 refine wpAny_bind (wpAny_pyIter_zip hz ?_)
 refine wpAny_bind (wpAny_holding (zip_hint ⟨_,hz,rfl⟩ ?_))
 refine wpAny_ite_split (fun _ => ?_) (fun hab=>absurd rfl hab)
 refine wpAny_bind (wpAny_rule ?_)
 refine wpAny_bind ?_
 show wpAny _ _ (updateSeq S (·.push .none) >>=fun _=>updateSeq S (·.pop)) _ _ _
 refine wpAny_bind (wpAny_updateSeq hS rfl ?_)
 have hS2:=Heap.get?_update_self (Obj.mapSeq (·.push Value.none)) hS rfl
 refine wpAny_updateSeq (hz:=by seq_fits) hS2 rfl ?_
 have hS3:=Heap.get?_update_self (Obj.mapSeq (·.pop)) hS2 rfl
 refine wpAny_pure ⟨plainId_quiet PySem.F.plain_extend_loop _,key _ _ _ (fun b o hb e => ?_) hS3⟩
 exact(Heap.get?_update_other _ _ (Ne.symm hb)).trans ((Heap.get?_update_other _ _ (Ne.symm hb)).trans e)
theorem init_zip{z TI TO i1 i2 l1 l2 S:Addr}(D:ZipApart z TI TO i1 i2 l1 l2)(hh:A.handled=none){xs ys:Array Value}(hn:xs.size=ys.size)(hs:xs.size<=sizeLine)(dl:l1≠S/\l2≠S)(lo:z<S/\TI<S/\TO<S/\i1<S/\i2<S)
  (st:ZSt z TI TO i1 i2 l1 l2 S xs ys 0 s.heap) (hS:s.heap.get? S=some { cls := .type "list",data := .seq #[] })
  (hR:∀g tk acc c as,(∀b o,b≠S->b ∉ [z,TO,i1,i2]->s.heap.get? b=some o->g.get? b=some o)->g.get? S=some { cls := .type "list",dict:=none,data := .seq acc c,slots := #[] }->as.length=xs.size->Told (fun i x y=>xs[i]? =some x/\ys[i]? =some y) S g as ->
   acc.toList=as.map Value.ref->R (.ok (.ret .none)) { s with heap:=g,toks:=tk }) (hz:IsZip s.heap z TI TO .none) :
  wpAny (model prog w) A.in1 (Builtin.«list.__init__» ⟨[.ref S,.ref z],[]⟩)
   (fun fin s2=>match fin with | .done f=>R (.ok f) s2 | .again c2=>c2.quiet=true/\codeAny (model prog w) A c2 R s2) (fun e s2=>R (.error e) s2) s:=by
 show wpAny _ _ (do let old <- Builtin.List.listItems (.ref S);Builtin.List.listUpdate (.ref S) (fun _ => #[]);letGo old.toList.reverse;Builtin.List.listExtendWith (.ref S) (.ref z) .none) _ _ s
 refine wpAny_bind ?_
 unfold Builtin.List.listItems
 refine wpAny_bind (wpAny_seqItems hS rfl (wpAny_pure ?_))
 show wpAny _ _ (updateSeq S (fun _ => #[]) >>=fun _=>letGo (#[]:Array Value).toList.reverse >>=fun _=>Builtin.List.listExtendWith (.ref S) (.ref z) .none) _ _ s
 refine wpAny_bind (wpAny_updateSeq hS rfl ?_)
 have hS2:=Heap.get?_update_self (Obj.mapSeq (fun _=>(#[]:Array Value))) hS rfl
 have oth:∀b o,b≠S->s.heap.get? b=some o->(s.heap.update S (Obj.mapSeq (fun _=>(#[]:Array Value)))).get? b=some o:=fun b o hb e=>(Heap.get?_update_other _ _ (Ne.symm hb)).trans e
 refine wpAny_bind (wpAny_letGo ?_)
 have dd:=lo
 obtain⟨lz,lTI,lTO,l1',l2'⟩:=dd
 have st2:=(src_zip (prog:=prog) (w:=w) (A:=A.in1) (S:=S) D hh xs ys hn ⟨Nat.ne_of_lt lz,Nat.ne_of_lt lTI,Nat.ne_of_lt lTO,Nat.ne_of_lt l1',Nat.ne_of_lt l2',dl.1,dl.2⟩).frame _ _ _ st oth
 exact extend_zip (s:={ s with heap:=s.heap.update S (Obj.mapSeq (fun _=>(#[]:Array Value))) }) D hh hn hs dl lo st2 .none _ hS2 (fun g tk acc c as k1 k2 k3 k4 k5=>hR g tk acc c as (fun b o h1 h2 e=>k1 b o h1 h2 (oth b o h1 e)) k2 k3 k4 k5) (oth _ _ (Nat.ne_of_lt lz) hz)
theorem call_list_zip{z TI TO i1 i2 l1 l2:Addr}(D:ZipApart z TI TO i1 i2 l1 l2)(hh:A.handled=none){xs ys:Array Value}(hn:xs.size=ys.size)(hs:xs.size<=sizeLine){Q:Value->Shared->Prop}
  (hz:IsZip s.heap z TI TO .none) (hTI:IsPair s.heap TI (.ref i1) (.ref i2)) (hTO:∃a b,IsPair s.heap TO a b) (h1:s.heap.IsTupleIter i1 l1 0) (h2:s.heap.IsTupleIter i2 l2 0) (t1:s.heap.IsTuple l1 xs) (t2:s.heap.IsTuple l2 ys)
  (hQ:∀g tk acc c as,(∀b o,b ∉ [z,TO,i1,i2]->s.heap.get? b=some o->g.get? b=some o)->g.get? s.heap.objs.size=some { cls := .type "list",dict:=none,data := .seq acc c,slots := #[] }->as.length=xs.size->Told (fun i x y=>xs[i]? =some x/\ys[i]? =some y) s.heap.objs.size g as ->
   acc.toList=as.map Value.ref->Q (.ref s.heap.objs.size) { s with heap:=g,toks:=tk }) :
  wpAny (model prog w) A (call (.type "list") [.ref z]) Q E s:=by
 refine callType_codes (Q₁:=fun obj s1=>obj = .ref s.heap.objs.size/\s1={ s with heap:=s.heap.push { cls := .type "list",data := .seq #[] } }) PySem.F.called_list (PySem.F.typeCall_list_1 _) PySem.F.entry_list_init
  (code_list_new _ ⟨rfl,rfl⟩) fun obj s1 hs1 => ?_
 obtain⟨rfl,rfl⟩:=hs1
 have hS:(s.heap.push { cls := .type "list",data := .seq #[] }).get? s.heap.objs.size=some { cls := .type "list",data := .seq #[] }:=Heap.get?_push_size _ rfl
 have up:∀b o,s.heap.get? b=some o->(s.heap.push { cls := .type "list",data := .seq #[] }).get? b=some o:=fun b o e=>Heap.get?_push_of_some _ e
 obtain⟨a,b,hTO⟩:=hTO
 have lt1:i1<s.heap.objs.size:=let ⟨_,e,_⟩:=h1;Heap.lt_size e
 have lt2:i2<s.heap.objs.size:=let ⟨_,e,_⟩:=h2;Heap.lt_size e
 have ltl1:l1<s.heap.objs.size:=let ⟨_,e,_⟩:=t1;Heap.lt_size e
 have ltl2:l2<s.heap.objs.size:=let ⟨_,e,_⟩:=t2;Heap.lt_size e
 refine⟨⟨_,hS,rfl⟩,PySem.F.args_list_init_2 _ _,init_zip (A:=A.in1) D hh hn hs ⟨Nat.ne_of_lt ltl1,Nat.ne_of_lt ltl2⟩ ⟨Heap.lt_size hz,Heap.lt_size hTI,Heap.lt_size hTO,lt1,lt2⟩
  ⟨up _ _ hTI,h1.at fun o e=>up _ o e,h2.at fun o e=>up _ o e,t1.at fun o e=>up _ o e,t2.at fun o e=>up _ o e,.inl ⟨up _ _ hz,a,b,up _ _ hTO⟩⟩ hS (fun g tk acc c as k1 k2 k3 k4 k5 => ?_) (up _ _ hz)⟩
 exact⟨rfl,hQ g tk acc c as (fun b o hb e=>k1 b o (Nat.ne_of_lt (Heap.lt_size e)) hb (up b o e)) k2 k3 k4 k5⟩
end
end ZL
end Cf
namespace Cf
open PySem PySem.Spec PyProof.Rows L2
section
def tLstZip(K:PySem.W.Frag)(ta:TA):TE:=fun σ H Q=>ta σ H fun vs H1 =>∃a b xs ys,vs = [.ref a,.ref b]/\SqT K H1 a xs/\SqT K H1 b ys/\xs.length=ys.length /\
 ∀(q:Addr) (as:List Addr) (H2:Hp),H1 q=none->as.length=xs.length->(∀t∈as,t≠q/\H1 t=none)->H2 q=some (.lst (as.map V.ref)) ->
  (∀(j:Nat) (t:Addr) (x y:V),as[j]? =some t->xs[j]? =some x->ys[j]? =some y->H2 t=some (.tup [x,y]))->(∀b,b≠q->b∉as->H2 b=H1 b)->Q (.ref q) H2
theorem zvals_len{xs:List V}{us:List Value}(h:Vals xs us):us.length=xs.length:=h.length.symm
section
variable {X:Cx} {e e2:Expr} {ta:TA} {p p2 pos pos2:Pos}
theorem pe_lstZip(hc:X.calm=true)(hg:Gl X "list")(hm:X.mg "list" =none)(hgz:Gl X "zip")(hmz:X.mg "zip" =none)(ha:PA X [e,e2] ta)
  (hs:starEach [e,e2] X.env=(false,eval e X.env)::starEach [e2] X.env:=by rfl) (hpl:(backTo pos2 (starEach [e2] X.env)).any (·.1)=false:=by rfl)
  (na:starEach [Expr.Call (.Name "zip" p2) [e,e2] [] pos2] X.env=(false,eval (.Call (.Name "zip" p2) [e,e2] [] pos2) X.env)::starEach [] X.env:=by rfl) :
  PE X (.Call (.Name "list" p) [.Call (.Name "zip" p2) [e,e2] [] pos2] [] pos) (tLstZip X.K ta):=by
 refine⟨fun pins s σ H Q I h => ?_⟩
 refine Call_ (ld_blt I hg hm boot_list (PyProof.Rows.callWith_type1 (args_cons (thn (Q:=fun v t =>∃(s1:Shared) (H1:Hp) (a b:Addr) (xs ys:List V) (us ws:List Value),Inv X pins σ H1 s1/\Vals xs us/\Vals ys ws/\xs.length<=sizeLine/\v = .ref (s1.heap.objs.size+4)/\(∃h',t={ s1 with heap:=h' } /\
   IsZip h' (s1.heap.objs.size+4) (s1.heap.objs.size+2) (s1.heap.objs.size+3) .none/\IsPair h' (s1.heap.objs.size+2) (.ref s1.heap.objs.size) (.ref (s1.heap.objs.size+1))/\IsPair h' (s1.heap.objs.size+3) .none .none /\
   h'.IsTupleIter s1.heap.objs.size a 0/\h'.IsTupleIter (s1.heap.objs.size+1) b 0/\h'.IsTuple a us.toArray/\h'.IsTuple b ws.toArray/\h'.objs.size=s1.heap.objs.size+5/\(∀c o,s1.heap.get? c=some o->h'.get? c=some o))/\a<s1.heap.objs.size/\b<s1.heap.objs.size/\xs.length=ys.length /\
   ∀(q:Addr) (as:List Addr) (H2:Hp),H1 q=none->as.length=xs.length->(∀t∈as,t≠q/\H1 t=none)->H2 q=some (.lst (as.map V.ref)) ->
    (∀(j:Nat) (t:Addr) (x y:V),as[j]? =some t->xs[j]? =some x->ys[j]? =some y->H2 t=some (.tup [x,y]))->(∀b,b≠q->b∉as->H2 b=H1 b)->Q (.ref q) H2) ?_
  fun v t hz=>args_nil ?_) na) na))
 ·refine Call_ (ld_blt I hgz hmz PyProof.Rows.boot_zip (PyProof.Rows.callWith_type1 (thn (ha.run pos2 pins s σ H _ I h) fun us s1 ⟨vs,H1,I1,r1,q1⟩ => ?_) hs hpl))
  obtain⟨a,b,xs,ys,rfl,qx,qy,hl,q⟩:=q1
  cases r1 with
  | cons r rr =>
   cases rr with
   | cons r2 rr =>
    cases rr
    cases r
    cases r2
    obtain⟨us,rv,p1,z1⟩:=I1.tuple qx
    obtain⟨ws,rw,p2,_⟩:=I1.tuple qy
    have la:a<s1.heap.objs.size:=let ⟨_,ho,_⟩:=p1;Heap.lt_size ho
    have lb:b<s1.heap.objs.size:=let ⟨_,ho,_⟩:=p2;Heap.lt_size ho
    refine RZ.call_zipT (show s1.heap.IsTuple a us.toArray from p1) (show s1.heap.IsTuple b ws.toArray from p2) fun h' hz hTI hTO h1 h2 hsz hk => ?_
    exact⟨s1,H1,a,b,xs,ys,us,ws,I1,rv,rw,z1,rfl,⟨h',rfl,hz,hTI,hTO,h1,h2,Heap.IsTuple.at (show s1.heap.IsTuple a us.toArray from p1) fun o e=>hk _ o e,Heap.IsTuple.at (show s1.heap.IsTuple b ws.toArray from p2) fun o e=>hk _ o e,hsz,hk⟩,la,lb,hl,q⟩
 ·obtain⟨s1,H1,a,b,xs,ys,us,ws,I1,rv,rw,z1,rfl,⟨h',rfl,hz,hTI,hTO,h1,h2,t1,t2,hsz,hk⟩,la,lb,hl,q⟩:=hz
  have ul:us.length=xs.length:=zvals_len rv
  have wl:ws.length=ys.length:=zvals_len rw
  refine ZL.call_list_zip (s:={ s1 with heap:=h' }) (PySem.W.ktu_apart s1.heap.objs.size a b la lb) (I1.ok.hd hc) (xs:=us.toArray) (ys:=ws.toArray) (by simp;omega) (by simp;omega) hz hTI ⟨_,_,hTO⟩ h1 h2 t1 t2 fun g tk acc c as k1 k2 k3 k4 k5 => ?_
  dsimp only at k1 k2 k4
  have hk2:∀b o,s1.heap.get? b=some o->g.get? b=some o:=fun b o e=>by
   have lt:=Heap.lt_size e
   refine k1 b o (fun m => ?_) (hk b o e)
   have m':b=s1.heap.objs.size+4∨b=s1.heap.objs.size+3∨b=s1.heap.objs.size∨b=s1.heap.objs.size+1:=by simpa using m
   have lt:(b:Nat)<s1.heap.objs.size:=lt
   rcases m' with z | z | z | z
   ·rw [z]at lt;exact Nat.not_lt_of_le (Nat.le_add_right _ 4) lt
   ·rw [z]at lt;exact Nat.not_lt_of_le (Nat.le_add_right _ 3) lt
   ·rw [z]at lt;exact Nat.lt_irrefl _ lt
   ·rw [z]at lt;exact Nat.not_lt_of_le (Nat.le_add_right _ 1) lt
  have al:as.length=xs.length:=by rw [k3];simpa using ul
  generalize hq:h'.objs.size=L at k2 k4 ⊢
  have Lge:s1.heap.objs.size<=L:=by rw [<- hq,hsz];exact Nat.le_add_right _ _
  have nL:H1 L=none:=I1.hok.fresh Lge
  have nas:∀t∈as,t≠L/\H1 t=none:=fun t ht=>⟨Nat.ne_of_gt (k4.above t ht),I1.hok.fresh (Nat.le_trans Lge (Nat.le_of_lt (k4.above t ht)))⟩
  have nd:as.Nodup:=k4.rise.imp fun {a b} z=>Nat.ne_of_lt z
  have old:∀b o,s1.heap.get? b=some o->b≠L/\b∉as:=fun b o e=>by
   have lt:=Heap.lt_size e
   refine⟨Nat.ne_of_lt (Nat.lt_of_lt_of_le lt Lge),fun m => ?_⟩
   exact absurd (Nat.lt_of_lt_of_le lt Lge) (Nat.not_lt_of_le (Nat.le_of_lt (k4.above b m)))
  let H2:Hp:=fun b=>if b=L then some (.lst (as.map V.ref))else if b∈as then some (.tup [xs.getD (as.idxOf b) .non,ys.getD (as.idxOf b) .non])else H1 b
  have e1:H2 L=some (.lst (as.map V.ref)):=if_pos rfl
  have e2:∀t∈as,H2 t=some (.tup [xs.getD (as.idxOf t) .non,ys.getD (as.idxOf t) .non]):=fun t ht=>(if_neg (nas t ht).1).trans (if_pos ht)
  have e3:∀b,b≠L->b∉as->H2 b=H1 b:=fun b h1 h2=>(if_neg h1).trans (if_neg h2)
  have sm:∀b u,H1 b=some u->H2 b=some u:=fun b u z=>by
   rw [e3 b (fun y=>by rw [y,nL]at z;cases z) fun y=>by rw [(nas b y).2]at z;cases z]
   exact z
  have J:Inv X pins σ H2 { s1 with heap:=g,toks:=tk }:=by
   refine I1.step (g':=s1.gens) (d':=s1.drawn) (ch :=[]) (fun b hb=>absurd hb (by simp)) (fun b o _ _ _ z _=>hk2 b o z) (fun b o _ _ _ z _=>⟨o.slots,hk2 b o z⟩) (fun b o _ z n => ?_) (fun b o _ z=>⟨o,hk2 b o z⟩) (fun b xs z=>sm b _ z) (fun b o u z=>sm b _ z) (fun b qs z=>⟨#[],by rw [sm b _ z];simp⟩) (fun m hn => ?_) (fun b u z => ?_) I1.bare
   ·rw [e3 b (old b o z).1 (old b o z).2];exact n
   ·obtain⟨ob,es,ep,ho,r⟩:=hn
    exact⟨ob,es,ep,hk2 _ ob ho,r⟩
   ·by_cases hb:b=L
    ·subst hb
     rw [e1]at z
     cases z
     refine⟨by rw [List.length_map];omega,as.map Value.ref,c, ?_, ?_⟩
     ·clear k3 k4 nas nd old e2 e3 sm q e1 al k5
      induction as with
      | nil=>exact .nil
      | cons a r ih=>exact .cons rfl ih
     ·rw [k2,<- k5]
    ·by_cases hb2:b∈as
     ·rw [e2 b hb2]at z
      cases z
      have ix:=List.idxOf_lt_length_of_mem hb2
      have gx:as[as.idxOf b]? =some b:=by rw [List.getElem?_eq_getElem ix,List.getElem_idxOf]
      obtain⟨x,y,⟨hx,hy⟩,hp⟩:=k4.pairs _ _ gx
      have ixs:as.idxOf b<xs.length:=by omega
      have iys:as.idxOf b<ys.length:=by omega
      refine⟨by simp [sizeLine_eq],[x,y],.cons ?_ (.cons ?_ .nil), ?_⟩
      ·obtain⟨u,hu,r⟩:=rv.get (List.getElem?_eq_getElem ixs)
       rw [List.getD_eq_getElem?_getD,List.getElem?_eq_getElem ixs]
       have:us.toArray[as.idxOf b]? =some u:=by simpa using hu
       rw [this]at hx
       cases hx
       exact r
      ·obtain⟨u,hu,r⟩:=rw.get (List.getElem?_eq_getElem iys)
       rw [List.getD_eq_getElem?_getD,List.getElem?_eq_getElem iys]
       have:ws.toArray[as.idxOf b]? =some u:=by simpa using hu
       rw [this]at hy
       cases hy
       exact r
      ·exact⟨_,hp,rfl,_,rfl⟩
     ·rw [e3 b hb hb2]at z
      exact(I1.hok b u z).stay (fun d v _ y=>hk2 d v y) (fun d y=>sm d _ y) fun d xs y=>sm d _ y
  refine⟨.ref L,H2,J,rfl,q L as H2 nL al nas e1 (fun j t x y hj hx hy => ?_) e3⟩
  have ht:=List.mem_of_getElem? hj
  rw [e2 t ht]
  have ij:as.idxOf t=j:=by
   have lj:=(List.getElem?_eq_some_iff.mp hj).1
   have gj:as[j]=t:=(List.getElem?_eq_some_iff.mp hj).2
   have ix:=List.idxOf_lt_length_of_mem ht
   have:=(List.getElem_inj (h₀:=ix) (h₁:=lj) nd).mp (by rw [List.getElem_idxOf,gj])
   exact this
  rw [ij,List.getD_eq_getElem?_getD,List.getD_eq_getElem?_getD,hx,hy]
  rfl
end
end
section
def tupK(d:PyData)(k:List PyData->Prop):Prop:=match d with
 | .tuple ds=>k ds
 | .dict ks=>rowE ks fun ns=>k (ns.map .int)
 | _=>False
def zipPD(xs ys:List PyData):List PyData:=List.zipWith (fun x y=>PyData.tuple [x,y]) xs ys
def zipK(ds:List PyData)(k:List PyData->Prop):Prop:=match ds with
 | [a,b]=>tupK a fun xs=>tupK b fun ys=>xs.length=ys.length/\k (zipPD xs ys)
 | _=>False
def aLstZip(t:AL):AO:=fun env P=>t env fun ds e=>zipK ds fun cs=>P (.lst cs) e
theorem tupK_ok{F H:Hp}{K:PySem.W.Frag}{v:V}{d:PyData}{k:List PyData->Prop}(ex:Ex F H)(r:Rp F v d)(h:tupK d k):∃(a:Addr) (xs:List V) (ds:List PyData),v = .ref a/\SqT K H a xs/\Rps F xs ds/\k ds:=by
 cases r with
 | tup h1 h2=>exact⟨_,_,_,rfl,SqT.of (ex _ _ h1),h2,h⟩
 | dk g1 g2 =>
  obtain⟨ns,a,o,e1,e2,e3,_,e5⟩:=Rp.asRow h (.dk g1 g2)
  exact⟨a,_,_,e2,.inl (.inr ⟨o,ex _ _ e3⟩),Rps.ofInts ns,e5⟩
 | row g1 g2 =>
  rename_i a o ns
  have h2:rowE [(.none,.list (ns.map .int))] (fun ms=>k (ms.map .int)):=h
  rw [rowE_row]at h2
  exact⟨a,_,_,rfl,.inl (.inr ⟨o,ex _ _ g1⟩),Rps.ofInts ns,h2⟩
 | _=>exact h.elim
theorem zip_rps{F:Hp}:∀{as:List Addr} {xs ys:List V} {ds es:List PyData},as.length=xs.length->xs.length=ys.length->Rps F xs ds->Rps F ys es ->
  (∀(j:Nat) (t:Addr) (x y:V),as[j]? =some t->xs[j]? =some x->ys[j]? =some y->F t=some (.tup [x,y]))->Rps F (as.map V.ref) (zipPD ds es)
 | [],[],[],_,_,_,_,h1,h2,_=>by
  cases h1
  cases h2
  exact .nil
 | a::as,x::xs,y::ys,_,_,l1,l2,h1,h2,hp=>by
  cases h1 with
  | cons r1 q1 =>
   cases h2 with
   | cons r2 q2 =>
    refine .cons (.tup (hp 0 a x y rfl rfl rfl) (.cons r1 (.cons r2 .nil))) ?_
    exact zip_rps (by simpa using l1) (by simpa using l2) q1 q2 fun j t x y e1 e2 e3=>hp (j+1) t x y e1 e2 e3
theorem sim_lstZip{K:PySem.W.Frag}{ta:TA}{t:AL}(ha:SimA ta t):SimO (tLstZip K ta) (aLstZip t):=fun Q P ok h q =>
 ha _ _ ok h fun vs ds env' F' H' fp' t' ok' r h'=>by
  unfold zipK at h'
  split at h'
  ·rename_i d1 d2
   cases r with
   | cons r1 rr =>
    cases rr with
    | cons r2 rr =>
     cases rr
     obtain⟨a,xs,c1,rfl,s1,p1,k1⟩:=tupK_ok (K:=K) ok'.ex r1 h'
     obtain⟨b,ys,c2,rfl,s2,p2,k2,k3⟩:=tupK_ok (K:=K) ok'.ex r2 k1
     have l1:=p1.len
     have l2:=p2.len
     refine⟨a,b,xs,ys,rfl,s1,s2,by omega,fun q0 as H2 n0 al nas e1 e2 e3 => ?_⟩
     let F2:Hp:=fun b=>if b∈as then H2 b else F' b
     have f1:∀b∈as,F2 b=H2 b:=fun b hb=>if_pos hb
     have f2:∀b,b∉as->F2 b=F' b:=fun b hb=>if_neg hb
     have nF:∀b∈as,F' b=none:=fun b hb=>ok'.ex.none (nas b hb).2
     have F0:F' q0=none:=ok'.ex.none n0
     have q0as:q0∉as:=fun m=>(nas q0 m).1 rfl
     have ex2:Ex F' F2:=fun b u z=>by
      rw [f2 b fun m=>by rw [nF b m]at z;cases z]
      exact z
     have exH:Ex F2 H2:=fun b u z=>by
      by_cases hb:b∈as
      ·rw [f1 b hb]at z;exact z
      ·rw [f2 b hb]at z
       rw [e3 b (fun y=>by rw [y,F0]at z;cases z) hb]
       exact ok'.ex b u z
     have kp:∀b u,H' b=some u->H2 b=some u:=fun b u z=>by
      rw [e3 b (fun y=>by rw [y,n0]at z;cases z) fun m=>by rw [(nas b m).2]at z;cases z]
      exact z
     have tr:Tr F' H' fp' F2 H2 fp':=⟨ex2,fun b u z _=>kp b u z,fun b z=>by
      by_cases hb:b∈as
      ·exact .inr (.inl (nas b hb).2)
      ·rw [f2 b hb]at z;exact .inl z,fun b hb => .inl hb⟩
     have ok2:Ok F2 H2 ‹St› env' fp':=⟨exH,ok'.env.mono ex2 fun b _ u z=>kp b u z,fun b hb=>by
      rw [f2 b fun m=>ok'.env.there b hb (nas b m).2]
      exact ok'.fr b hb⟩
     refine q q0 (.lst (zipPD c1 c2)) env' F2 H2 fp' [q0] (t'.trans tr) ok2 ⟨rfl,as.map V.ref,e1,zip_rps al (by omega) (p1.up ex2) (p2.up ex2) fun j t x y g1 g2 g3 => ?_⟩ (fun b hb => ?_) k3
     ·rw [f1 t (List.mem_of_getElem? g1)]
      exact e2 j t x y g1 g2 g3
     ·rw [List.mem_singleton.mp hb,f2 q0 q0as]
      exact⟨F0,fun m=>ok'.env.there q0 m n0,t'.back n0⟩
  ·exact h'.elim
section
variable {X:Cx} {e e2:Expr} {ta:TA} {t:AL} {p p2 pos pos2:Pos}
theorem ao_lstZip(hc:X.calm=true)(hg:Gl X "list")(hm:X.mg "list" =none)(hgz:Gl X "zip")(hmz:X.mg "zip" =none)(ha:APA X [e,e2] ta t)
  (hs:starEach [e,e2] X.env=(false,eval e X.env)::starEach [e2] X.env:=by rfl) (hpl:(backTo pos2 (starEach [e2] X.env)).any (·.1)=false:=by rfl)
  (na:starEach [Expr.Call (.Name "zip" p2) [e,e2] [] pos2] X.env=(false,eval (.Call (.Name "zip" p2) [e,e2] [] pos2) X.env)::starEach [] X.env:=by rfl) :
  AEO X (.Call (.Name "list" p) [.Call (.Name "zip" p2) [e,e2] [] pos2] [] pos) (tLstZip X.K ta) (aLstZip t):=⟨pe_lstZip hc hg hm hgz hmz ha.pe hs hpl na,sim_lstZip ha.sm⟩
end
section
variable {t:AL} {tr:AAr} {env:List Sl} {PO:MO->List Sl->Prop} {P:PyData->List Sl->Prop} {A:AEnds}
theorem x_lstZip:aLstZip t env PO=t env fun ds e=>zipK ds fun cs=>PO (.lst cs) e:=rfl
theorem x_zipK(a b:PyData)(k:List PyData->Prop):zipK [a,b] k=tupK a fun xs=>tupK b fun ys=>xs.length=ys.length/\k (zipPD xs ys):=rfl
theorem x_tupK(ds:List PyData)(k:List PyData->Prop):tupK (.tuple ds) k=k ds:=rfl
theorem x_tupR(ns:List Int)(k:List PyData->Prop):tupK (.dict [(.none,.list (ns.map .int))]) k=k (ns.map .int):=rowE_row ns _
theorem x_nd(j i:Nat)(P0:Addr)(nm:Nat->Nat->Str)(mk:Addr->NdefX.NF):aNd j i P0 nm mk A env=(env[j]? =some (.tab P0 nm)/\i<env.length/\i≠j/\A.nx (env.set i (.fn mk))):=rfl
def onCap(o:Option (List PyData))(k:List PyData->Prop):Prop:=match o with
 | some cs=>k cs
 | none=>False
theorem x_onCap(cs:List PyData)(k:List PyData->Prop):onCap (some cs) k=k cs:=rfl
def capC(d:Option Sl)(r:Option (List PyData)):Option (List PyData):=match d with
 | some (.dat d)=>r.map (d :: ·)
 | _=>none
theorem x_capN(e:List Sl):capD e []=some []:=rfl
theorem x_capC(e:List Sl)(j:Nat)(js:List Nat):capD e (j::js)=capC e[j]? (capD e js):=by
 show (match e[j]? with | some (.dat d)=>(capD e js).map (d :: ·) | _=>none)=_
 cases e[j]? with
 | none=>rfl
 | some s=>cases s <;> rfl
theorem x_cap1(d:PyData)(cs:List PyData):capC (some (.dat d)) (some cs)=some (d::cs):=rfl
theorem x_fnN(R:ASp)(mk:Addr->NdefX.NF)(i:Nat)(js:List Nat):aFnN R mk i js t env P=(env[i]? =some (.fn mk)/\t env fun ds e=>e[i]? =some (.fn mk)/\onCap (capD e js) fun cs=>R ((ds++cs).map .dat) fun r _=>onSl (fun d=>P d e) r):=by
 unfold aFnN onCap
 congr 1
theorem x_fnT(R:ASp)(P0:Addr)(nm:Nat->Nat->Str)(j:Nat):aFnT R P0 nm j tr env P=tr env fun as e=>e[j]? =some (.tab P0 nm)/\opt (grab as (e.set j .non)) fun p=>p.2[j]? =some .non/\R p.1 fun r ys=>(give as ys p.2)[j]? =some .non/\onSl (fun d=>P d ((give as ys p.2).set j (.tab P0 nm))) r:=by
 unfold aFnT
 congr 1
 funext as e
 congr 1
 cases grab as (e.set j .non)with
 | none=>rfl
 | some p=>rfl
end
end
section
def aiRow(te:AD):AI:=fun env P=>te env fun d e=>tupK d fun ds=>P ds e
theorem walkd_sq{K:PySem.W.Frag}{F:Hp}{a:Addr}{xs:List V}{ds:List PyData}(h:∀F2 H2:Hp,Ex F F2->Ex F2 H2->SqT K H2 a xs)(r:Rps F xs ds):WalkD (Itt K a) F ds :=
 ⟨fun F2 H2 i e1 e2 hi=>by
  obtain⟨v,hv,_⟩:=r.get (List.getElem?_eq_getElem hi)
  exact⟨xs,v,h _ _ e1 e2,hv⟩,fun F2 H2 e1 e2=>⟨xs,h _ _ e1 e2,by rw [r.len];exact Nat.le_refl _⟩,fun F2 H2 i x H3 e1 e2 hi y=>by
  obtain⟨rfl,y⟩:=y
  obtain⟨d,hd,rv⟩:=r.getV (y xs (h _ _ e1 e2))
  exact⟨F2,d,hd,tr0,e2,rv.up e1⟩⟩
section
variable {X:Cx} {tg e:Expr} {se:TE} {te:AD}
theorem ai_row(he:AE X e se te):API X tg e (iTup X.K se) (aiRow te):=⟨pi_tup he.pe,fun R P ok h q=>he.sm _ _ ok h fun v d env' F' H' fp' t ok' r h'=>by
 cases r with
 | tup h1 k1=>exact⟨_,rfl,⟨_,SqT.of (ok'.ex _ _ h1)⟩,q _ _ _ _ _ _ t ok' (walkd_tup h1 k1) h'⟩
 | dk g1 g2 =>
  obtain⟨ns,a,o,e1,e2,e3,_,e5⟩:=Rp.asRow h' (.dk g1 g2)
  cases e2
  exact⟨_,rfl,⟨_,.inl (.inr ⟨o,ok'.ex _ _ e3⟩)⟩,q _ _ _ _ _ _ t ok' (walkd_sq (fun F2 H2 x y => .inl (.inr ⟨o,y _ _ (x _ _ e3)⟩)) (Rps.ofInts ns)) e5⟩
 | row g1 g2 =>
  rename_i a o ns
  have h2:rowE [(.none,.list (ns.map .int))] (fun ms=>P (ms.map .int) env'):=h'
  rw [rowE_row]at h2
  exact⟨_,rfl,⟨_,.inl (.inr ⟨o,ok'.ex _ _ g1⟩)⟩,q _ _ _ _ _ _ t ok' (walkd_sq (fun F2 H2 x y => .inl (.inr ⟨o,y _ _ (x _ _ g1)⟩)) (Rps.ofInts ns)) h2⟩
 | _=>exact h'.elim⟩
end
section
variable {ta:AD} {env:List Sl} {PL:List PyData->List Sl->Prop}
theorem x_aiRow:aiRow ta env PL=ta env fun d e=>tupK d fun ds=>PL ds e:=rfl
end
end
section
abbrev rwI(r:List Nat):List Int:=r.map fun y:Nat=>(y:Int)
def tnD(t:Tn):PyData := .tuple [.str (tx [t.c]),rowPD (rwI t.r),pd t.f]
def dncP(many:Nat)(ts:List Tn)(fac:List Int)(m:Int):PyData := .tuple [.int (many:Nat),.list (ts.map tnD),pd fac,.int m]
theorem idx_rwI(x:Nat):∀r:List Nat,(rwI r).idxOf (x:Int)=r.idxOf x
 | []=>rfl
 | y::r=>by
  rw [show rwI (y::r)=(y:Int)::rwI r from rfl,List.idxOf_cons,List.idxOf_cons,idx_rwI x r]
  by_cases h:y=x
  ·rw [h]
   simp
  ·have h1:((y:Int)==(x:Int))=false:=by simpa using fun z:(y:Int)=(x:Int)=>h (Int.ofNat.inj z)
   have h2:(y==x)=false:=by simpa using h
   rw [h1,h2]
theorem at_rwI{r:List Nat}{x:Nat}(h:x<r.length):L2.atI (rwI r) (x:Int)=some ((r.getD x 0:Nat):Int) :=
 atI_map (f:=fun y:Nat=>(y:Int)) (by rw [List.getD_eq_getElem?_getD,List.getElem?_eq_getElem h];rfl)
theorem range_sorted{m:Nat}{ys ks:List Int}(h1:ys.Perm ks)(h2:ys.Pairwise (· <= ·))(h3:((List.range m).map fun i=>((i:Nat):Int)).Perm ks):ys=(List.range m).map fun i=>((i:Nat):Int):=by
 refine List.Perm.eq_of_pairwise (le:=fun a b:Int=>a<=b) (fun a b _ _ h k=>Int.le_antisymm h k) h2 ?_ (h1.trans h3.symm)
 rw [List.pairwise_map]
 exact List.pairwise_lt_range.imp fun h=>by omega
theorem rg0(n:Nat):rgD 0 (Int.toNat (n:Int))=(List.range n).map fun i=>PyData.int (i:Nat):=by
 unfold rgD
 rw [Int.toNat_natCast]
 exact List.map_congr_left fun i _=>by rw [Int.zero_add]
theorem getD_le{b:Nat}:∀{f:List Int},(∀x∈f,x.natAbs<=b) ->∀i:Nat,(f.getD i 0).natAbs<=b:=fun {f} h i=>by
 rw [List.getD_eq_getElem?_getD]
 cases e:f[i]? with
 | none=>exact Nat.zero_le _
 | some y=>exact h y (List.mem_of_getElem? e)
theorem step_le{b:Nat}{ts:List Tn}(h:∀t∈ts,∀x∈t.f,x.natAbs<=b)(s x:Nat):(stepT ts s x).2.natAbs<=b:=by
 unfold stepT
 split
 ·exact Nat.zero_le _
 ·rename_i t e
  have k:=getD_le (h t (List.mem_of_find?_eq_some e))
  unfold oneT
  split
  ·exact k x
  ·show (-(t.f.getD (t.r.idxOf x) 0)).natAbs<=b
   rw [Int.natAbs_neg]
   exact k _
theorem dnc_le{b:Nat}{ts:List Tn}(h:∀t∈ts,∀x∈t.f,x.natAbs<=b):∀(l:List Nat) (x:Nat) (p:Int),(dncL ts l x p).2.natAbs<=p.natAbs+b*l.length
 | [],x,p=>Nat.le_add_right _ _
 | s::l,x,p=>by
  have k:=dnc_le h l (stepT ts s x).1 (p+(stepT ts s x).2)
  have k2:=step_le h s x
  have k3:=Int.natAbs_add_le p (stepT ts s x).2
  show (dncL ts l (stepT ts s x).1 (p+(stepT ts s x).2)).2.natAbs<=_
  rw [List.length_cons,Nat.mul_add,Nat.mul_one]
  omega
end
section
def triD(p:List Int):PyData := .tuple (p.map .int)
def bkF(t:Tn)(y:Nat):List Int :=[(y:Int),((t.r.idxOf y:Nat):Int),-t.f.getD (t.r.idxOf y) 0]
theorem lt_ints{a b:Int}{p q:List Int}:(a::p<b::q)↔a<b∨(a=b/\p<q):=List.cons_lt_cons_iff
theorem le_bkF(t:Tn)(a b:Nat):PySem.W.dataLe false id (triD (bkF t a)) (triD (bkF t b))=decide ((a:Int)<=b):=by
 show (!PySem.W.dataLt (.tuple ((bkF t b).map .int)) (.tuple ((bkF t a).map .int)))=_
 have e:PySem.W.dataLt (.tuple ((bkF t b).map .int)) (.tuple ((bkF t a).map .int))=decide (bkF t b<bkF t a):=PySem.W.dataLt_ints _ _
 rw [e]
 unfold bkF
 by_cases h:(b:Int)<a
 ·rw [decide_eq_true (lt_ints.mpr (.inl h)),decide_eq_false (by omega)]
  rfl
 ·rw [decide_eq_false (fun z => ?_),decide_eq_true (by omega)]
  ·rfl
  ·rcases lt_ints.mp z with z | ⟨z,z2⟩
   ·exact h z
   ·have z:b=a:=by omega
    subst z
    exact List.lt_irrefl _ z2
theorem srt_back{many:Nat}{t:Tn}(h:TnOk many t):SrtOk (t.r.map fun y=>triD (bkF t y))/\sortD (t.r.map fun y=>triD (bkF t y))=(List.range many).map fun y=>triD (bkF t y):=by
 refine⟨⟨fun d hd d' hd' => ?_,.inl fun d hd => ?_,fun d hd => ?_, ?_⟩, ?_⟩
 ·obtain⟨a,ha,rfl⟩:=List.mem_map.mp hd
  obtain⟨b,hb,rfl⟩:=List.mem_map.mp hd'
  exact alike_ints2 (bkF t a) (bkF t b) rfl
 ·obtain⟨a,ha,rfl⟩:=List.mem_map.mp hd
  exact⟨_,_,rfl⟩
 ·obtain⟨a,ha,rfl⟩:=List.mem_map.mp hd
  have h1:PyData.depthAll ((bkF t a).map PyData.int)<=0:=depthAll_le fun d hd=>by
   obtain⟨i,_,rfl⟩:=List.mem_map.mp hd
   exact Nat.le_refl _
  show (PyData.tuple ((bkF t a).map PyData.int)).depth<=32
  simp only [PyData.depth]
  omega
 ·refine all_of (f:=noDict) (g:=noDicts) rfl (fun _ _=>rfl) fun d hd => ?_
  obtain⟨a,ha,rfl⟩:=List.mem_map.mp hd
  show noDicts ((bkF t a).map PyData.int)=true
  exact all_of (f:=noDict) (g:=noDicts) rfl (fun _ _=>rfl) fun d hd=>by
   obtain⟨i,_,rfl⟩:=List.mem_map.mp hd
   rfl
 ·unfold sortD
  have:=List.map_mergeSort (r:=fun a b:Nat=>decide ((a:Int)<=b)) (s:=PySem.W.dataLe false id) (f:=fun y=>triD (bkF t y)) (l:=t.r) fun a _ b _=>(le_bkF t a b).symm
  rw [<- this,show (t.r.mergeSort fun a b:Nat=>decide ((a:Int)<=b))=srtN t.r from rfl,(srtN_range (N:=many)).mpr h.perm.symm]
theorem zip_turn{many:Nat}{t:Tn}(h:TnOk many t):t.r.zip t.f=(List.range many).map fun x=>forthT t x:=by
 refine List.ext_getElem (by rw [List.length_zip,h.rl,h.fl,Nat.min_self,List.length_map,List.length_range]) fun i h1 h2 => ?_
 rw [List.length_map,List.length_range]at h2
 have hr:i<t.r.length:=by rw [h.rl];exact h2
 have hf:i<t.f.length:=by rw [h.fl];exact h2
 rw [List.getElem_zip,List.getElem_map,List.getElem_range]
 unfold forthT
 rw [List.getD_eq_getElem?_getD,List.getD_eq_getElem?_getD,List.getElem?_eq_getElem hr,List.getElem?_eq_getElem hf]
 rfl
theorem back_turn{many:Nat}{t:Tn}(h:TnOk many t):(List.range many).map (fun x =>[((forthT t x).1:Int),(x:Int),-(forthT t x).2])=t.r.map (bkF t):=by
 refine List.ext_getElem (by rw [List.length_map,List.length_map,List.length_range,h.rl]) fun i h1 h2 => ?_
 rw [List.length_map,List.length_range]at h1
 have hr:i<t.r.length:=by rw [h.rl];exact h1
 rw [List.getElem_map,List.getElem_map,List.getElem_range]
 have e:(forthT t i).1=t.r[i]:=by
  unfold forthT
  rw [List.getD_eq_getElem?_getD,List.getElem?_eq_getElem hr]
  rfl
 have e2:t.r.idxOf t.r[i]=i:=by
  have:=(h.at h1).2
  rw [show t.r.getD i 0=t.r[i]from e]at this
  exact this
 rw [e]
 unfold bkF
 rw [e2]
 rfl
end
section
mutual
inductive Un:PyData->PyData->Prop
 | same {d:PyData}:noDict d=true->Un d d
 | tup {ds es:List PyData}:Uns ds es->Un (.tuple ds) (.tuple es)
 | lst {ds es:List PyData}:Uns ds es->Un (.list ds) (.list es)
 | row {ns:List Int}:Un (rowPD ns) (.tuple (ns.map .int))
inductive Uns:List PyData->List PyData->Prop
 | nil:Uns [] []
 | cons {d e:PyData} {ds es:List PyData}:Un d e->Uns ds es->Uns (d::ds) (e::es)
end
theorem Uns.map{α:Type}{f g:α->PyData}:∀{xs:List α},(∀x∈xs,Un (f x) (g x))->Uns (xs.map f) (xs.map g)
 | [],_ => .nil
 | x::xs,h => .cons (h x (.head _)) (Uns.map fun y hy=>h y (.tail _ hy))
theorem ints_dp{K:PySem.W.Frag}{H:Hp}:∀ns:List Int,DpAll K H (ns.map V.int) (ns.map PyData.int)
 | [] => .nil
 | n::ns => .cons (.int n) (ints_dp ns)
mutual
theorem Un.dp{K:PySem.W.Frag}{H:Hp}:∀{d e:PyData},Un d e ->∀{v:V},Rp H v d->Dp K H v e
 | _,_,.same h,v,r=>Rp.dp _ r h
 | _,_,.tup h,v,r=>by
  cases r with
  | tup h1 h2=>exact .tup (SqT.of h1) (Uns.dps h h2)
 | _,_,.lst h,v,r=>by
  cases r with
  | lst h1 h2=>exact .lst (SqL.of h1) (Uns.dps h h2)
 | _,_,.row (ns:=ns),v,r=>by
  generalize e:rowPD ns=d at r
  cases r with
  | row h1 h2 =>
   injection e with e
   injection e with e
   injection e with _ e
   injection e with e
   rw [ints_inj e]
   exact .tup (.inl (.inr ⟨_,h1⟩)) (ints_dp _)
  | dk h1 h2 =>
   injection e with e
   have:=rpk_noRow h2
   rw [<- e]at this
   cases this
  | _=>cases e
theorem Uns.dps{K:PySem.W.Frag}{H:Hp}:∀{ds es:List PyData},Uns ds es ->∀{vs:List V},Rps H vs ds->DpAll K H vs es
 | _,_,.nil,_,r=>by cases r;exact .nil
 | _,_,.cons h1 h2,_,r=>by
  cases r with
  | cons r1 r2=>exact .cons (Un.dp h1 r1) (Uns.dps h2 r2)
end
def fReprU:List PyData->(PyData->Prop)->Prop
 | [d],k=>isSeq d=true /\∃e,Un d e/\(∃n L,Sn n L e/\n<=32/\L<=2^24)/\k (.str e.shown)
 | _,_=>False
theorem sim_reprU{K:PySem.W.Frag}:SimC (rRepr2 K) fReprU:=by
 intro F H xs ds P Q ex r h q
 match ds,h with
 | [d],h =>
  obtain⟨v,rfl,rv⟩:=rps1 r
  obtain⟨h1,e,hu,h2,h3⟩:=h
  have fin:=q (.str e.shown) (.str e.shown) F H Tr.refl ex (.str _) h3
  have dp:=hu.dp (K:=K) (rv.up ex)
  cases rv with
  | lst g1 g2=>exact⟨_,_,rfl,dp,h2,fin⟩
  | tup g1 g2=>exact⟨_,_,rfl,dp,h2,fin⟩
  | _=>cases h1
theorem f_reprU{d:PyData}{k:PyData->Prop}:fReprU [d] k=(isSeq d=true /\∃e,Un d e/\(∃n L,Sn n L e/\n<=32/\L<=2^24)/\k (.str e.shown)):=rfl
def tnU(t:Tn):PyData := .tuple [.str (tx [t.c]),.tuple ((rwI t.r).map .int),pd t.f]
def dncU(many:Nat)(ts:List Tn)(fac:List Int)(m:Int):PyData := .tuple [.int (many:Nat),.list (ts.map tnU),pd fac,.int m]
theorem pd_noD(p:List Int):noDict (pd p)=true:=by
 show noDicts (p.map PyData.int)=true
 exact all_of (f:=noDict) (g:=noDicts) rfl (fun _ _=>rfl) fun d hd=>by
  obtain⟨i,_,rfl⟩:=List.mem_map.mp hd
  rfl
theorem un_dnc(many:Nat)(ts:List Tn)(fac:List Int)(m:Int):Un (dncP many ts fac m) (dncU many ts fac m) :=
 .tup (.cons (.same rfl) (.cons (.lst (Uns.map fun t _ => .tup (.cons (.same rfl) (.cons .row (.cons (.same (pd_noD _)) .nil))))) (.cons (.same (pd_noD _)) (.cons (.same rfl) .nil))))
end
end Cf
namespace Cf
open PySem PySem.Spec PyProof.Rows L2
open PySem.Sem (wp)
namespace ZM
section
variable {prog:Program} {w:World} {A:Around} {E:Value->Shared->Prop} {s:Shared}
structure At(h:Heap)(z TI TO i1 i2 l1 l2:Addr)(k1 k2:Nat)(xs ys:Array Value)(a b:Value):Prop where
 z:IsZip h z TI TO .none
 TI:IsPair h TI (.ref i1) (.ref i2)
 TO:IsPair h TO a b
 i1:h.IsTupleIter i1 l1 k1
 i2:h.IsListIter i2 l2 k2
 l1:h.IsTuple l1 xs
 l2:h.IsList l2 ys
theorem next_item{z TI TO i1 i2 l1 l2:Addr}{k1 k2:Nat}{xs ys:Array Value}{x y a b:Value}{Q:Value->Shared->Prop}(D:ZipApart z TI TO i1 i2 l1 l2)(Z:At s.heap z TI TO i1 i2 l1 l2 k1 k2 xs ys a b)(hx:xs[k1]? =some x)(hy:ys[k2]? =some y)
  (hQ:∀g,IsZip g z TI TO (rawInt s.heap.objs.size)->IsPair g TO x y->g.IsTupleIter i1 l1 (k1+1)->g.IsListIter i2 l2 (k2+1)->IsPair g s.heap.objs.size x y->g.objs.size=s.heap.objs.size+1 ->
   (∀c o,c≠z->c≠TO->c≠i1->c≠i2->s.heap.get? c=some o->g.get? c=some o)->Q (.ref s.heap.objs.size) { s with heap:=g }) :
  wpAny (model prog w) A (Builtin.«zip.__next__» ⟨[.ref z],[]⟩) (fun fin s2 =>∃v,fin = .done (.ret v)/\Q v s2) E s:=by
 show wpAny _ _ (field (.ref z) 2 >>=_) _ _ _
 refine wpAny_bind (wpAny_field Z.z rfl (x := .bool false) rfl ?_)
 show wpAny _ _ (field (.ref z) 3 >>=_) _ _ _
 refine wpAny_bind (wpAny_field Z.z rfl (x := .ref TI) rfl ?_)
 refine wpAny_bind (wpAny_seqItems Z.TI rfl ?_)
 show wpAny _ _ (Builtin.SmallTypes.ownedTupleIsFree (.ref z) >>=_) _ _ _
 refine wpAny_bind ?_
 unfold Builtin.SmallTypes.ownedTupleIsFree
 refine wpAny_bind (wpAny_field Z.z rfl (x := .none) rfl (wpAny_pure ?_))
 simp only [if_true]
 refine wpAny_bind (wpAny_rule ?_)
 refine wpAny_bind (wpAny_field Z.z rfl (x := .ref TO) rfl ?_)
 refine wpAny_bind (wpAny_setField_rec Z.z (by simp) fun g1 z1 s1 => ?_)
 replace z1:IsZip g1 z TI TO .ellipsis:=z1
 refine wpAny_bind ?_
 simp only [List.zipIdx_cons,List.zipIdx_nil,List.forIn_cons,List.forIn_nil]
 refine wpAny_bind (wpAny_bind (wpAny_onRaise ?_))
 show wpAny _ _ (Builtin.SmallTypes.nextOf (.ref i1) >>=_) _ _ _
 refine wpAny_bind (RZ.nextOf_tuple_item (s:={ s with heap:=g1 }) (Z.i1.extBut s1.extBut D.i1z) (Z.l1.extBut s1.extBut D.l1z) hx fun g2 n1 s2=>wpAny_pure ?_)
 have t2:IsPair g2 TO a b:=s2.extBut _ _ D.TOi1 (s1.extBut _ _ D.TOz Z.TO)
 refine wpAny_bind (wpAny_seqItems t2 rfl ?_)
 refine wpAny_bind (wpAny_updateSeq_pair t2 fun g3 t3 s3 => ?_)
 replace t3:IsPair g3 TO x b:=t3
 refine wpAny_bind (wpAny_letGo (wpAny_pure ?_))
 refine wpAny_bind (wpAny_bind (wpAny_onRaise ?_))
 show wpAny _ _ (Builtin.SmallTypes.nextOf (.ref i2) >>=_) _ _ _
 refine wpAny_bind (wpAny_nextOf_list_item (s:={ s with heap:=g3 }) (((Z.i2.extBut s1.extBut D.i2z).extBut s2.extBut D.i12.symm).extBut s3.extBut D.TOi2.symm) (((Z.l2.extBut s1.extBut D.l2z).extBut s2.extBut D.l2i1).extBut s3.extBut D.l2TO) hy fun g4 n2 s4=>wpAny_pure ?_)
 have t4:IsPair g4 TO x b:=s4.extBut _ _ D.TOi2 t3
 refine wpAny_bind (wpAny_seqItems t4 rfl ?_)
 refine wpAny_bind (wpAny_updateSeq_pair t4 fun g5 t5 s5 => ?_)
 replace t5:IsPair g5 TO x y:=t5
 refine wpAny_bind (wpAny_letGo (wpAny_pure (wpAny_pure ?_)))
 refine wpAny_bind (wpAny_seqItems t5 rfl ?_)
 refine wpAny_bind (wpAny_newTuple ?_)
 have hsz:g5.objs.size=s.heap.objs.size:=by rw [s5.1,s4.1,s3.1,s2.1,s1.1]
 have z5:IsZip g5 z TI TO .ellipsis:=s5.extBut _ _ D.TOz.symm (s4.extBut _ _ D.i2z.symm (s3.extBut _ _ D.TOz.symm (s2.extBut _ _ D.i1z.symm z1)))
 have k5:∀c o,c≠z->c≠TO->c≠i1->c≠i2->s.heap.get? c=some o->g5.get? c=some o:=fun c o c1 c2 c3 c4 e=>s5.extBut _ _ c2 (s4.extBut _ _ c4 (s3.extBut _ _ c2 (s2.extBut _ _ c3 (s1.extBut _ _ c1 e))))
 have n15:g5.IsTupleIter i1 l1 (k1+1):=((n1.extBut s3.extBut D.TOi1.symm).extBut s4.extBut D.i12).extBut s5.extBut D.TOi1.symm
 have n25:g5.IsListIter i2 l2 (k2+1):=n2.extBut s5.extBut D.TOi2.symm
 have zlt:z<g5.objs.size:=Heap.lt_size z5
 show wpAny _ _ (Builtin.SmallTypes.ownedTupleHandOut (.ref z) (.ref g5.objs.size) >>=_) _ _ _
 refine wpAny_bind ?_
 unfold Builtin.SmallTypes.ownedTupleHandOut
 have z6:IsZip (g5.push { cls := .type "tuple",data := .seq #[x,y] }) z TI TO .ellipsis:=Heap.get?_push_of_some _ z5
 refine wpAny_bind (wpAny_setField_rec z6 (by simp) fun g7 z7 s7 => ?_)
 replace z7:IsZip g7 z TI TO (rawInt g5.objs.size):=z7
 refine wpAny_setField_rec z7 (by simp) fun g8 z8 s8 => ?_
 replace z8:IsZip g8 z TI TO (rawInt g5.objs.size):=z8
 have up:∀c o,c≠z->g5.get? c=some o->g8.get? c=some o:=fun c o c1 e=>s8.extBut _ _ c1 (s7.extBut _ _ c1 (Heap.get?_push_of_some _ e))
 have t8:IsPair g8 g5.objs.size x y:=s8.extBut _ _ (Nat.ne_of_gt zlt) (s7.extBut _ _ (Nat.ne_of_gt zlt) (Heap.get?_push_size _ rfl))
 have n8:g8.objs.size=g5.objs.size+1:=by rw [s8.1,s7.1,Heap.size_push]
 rw [hsz]at z8 t8 n8
 refine wpAny_pure ⟨_,rfl, ?_⟩
 show Q (.ref g5.objs.size) _
 rw [hsz]
 exact hQ g8 z8 (up _ _ D.TOz t5) (n15.at fun o e=>up _ o D.i1z e) (n25.at fun o e=>up _ o D.i2z e) t8 n8 fun c o c1 c2 c3 c4 e=>up c o c1 (k5 c o c1 c2 c3 c4 e)
theorem next_end{z TI TO i1 i2 l1 l2:Addr}{k1 k2:Nat}{xs ys:Array Value}{a b:Value}{Q:Fin->Shared->Prop}(hh:A.handled=none)(D:ZipApart z TI TO i1 i2 l1 l2)(Z:At s.heap z TI TO i1 i2 l1 l2 k1 k2 xs ys a b)(hend:xs[k1]? =none∨ys[k2]? =none)
  (hE:∀g e,(∀c o,c≠z->c≠TO->c≠i1->c≠i2->s.heap.get? c=some o->g.get? c=some o)->(∃o,g.get? e=some o/\o.cls = .type "StopIteration")->E (.ref e) { s with heap:=g }) :
  wpAny (model prog w) A (Builtin.«zip.__next__» ⟨[.ref z],[]⟩) Q E s:=by
 show wpAny _ _ (field (.ref z) 2 >>=_) _ _ _
 refine wpAny_bind (wpAny_field Z.z rfl (x := .bool false) rfl ?_)
 show wpAny _ _ (field (.ref z) 3 >>=_) _ _ _
 refine wpAny_bind (wpAny_field Z.z rfl (x := .ref TI) rfl ?_)
 refine wpAny_bind (wpAny_seqItems Z.TI rfl ?_)
 show wpAny _ _ (Builtin.SmallTypes.ownedTupleIsFree (.ref z) >>=_) _ _ _
 refine wpAny_bind ?_
 unfold Builtin.SmallTypes.ownedTupleIsFree
 refine wpAny_bind (wpAny_field Z.z rfl (x := .none) rfl (wpAny_pure ?_))
 simp only [if_true]
 refine wpAny_bind (wpAny_rule ?_)
 refine wpAny_bind (wpAny_field Z.z rfl (x := .ref TO) rfl ?_)
 refine wpAny_bind (wpAny_setField_rec Z.z (by simp) fun g1 z1 s1 => ?_)
 replace z1:IsZip g1 z TI TO .ellipsis:=z1
 refine wpAny_bind ?_
 simp only [List.zipIdx_cons,List.zipIdx_nil,List.forIn_cons,List.forIn_nil]
 refine wpAny_bind (wpAny_bind (wpAny_onRaise ?_))
 show wpAny _ _ (Builtin.SmallTypes.nextOf (.ref i1) >>=_) _ _ _
 cases hx:xs[k1]? with
 | none =>
  refine wpAny_bind (RZ.nextOf_tuple_end (s:={ s with heap:=g1 }) hh (Z.i1.extBut s1.extBut D.i1z) (Z.l1.extBut s1.extBut D.l1z) hx fun g2 e s2 ⟨oe,hoe,hce⟩ => ?_)
  have z2:IsZip g2 z TI TO .ellipsis:=s2 _ _ D.i1z.symm z1
  have hez:e≠z:=fun q=>by subst q;rw [z2]at hoe;cases hoe;simp at hce
  refine wpAny_setField_rec z2 (by simp) fun g3 _ s3=>hE g3 e (fun c o c1 _ c3 _ q=>s3.extBut _ _ c1 (s2 _ _ c3 (s1.extBut _ _ c1 q))) ⟨oe,s3.extBut _ _ hez hoe,hce⟩
 | some x =>
  have hy:ys[k2]? =none:=by rcases hend with q | q;rw [hx]at q;cases q;exact q
  refine wpAny_bind (RZ.nextOf_tuple_item (s:={ s with heap:=g1 }) (Z.i1.extBut s1.extBut D.i1z) (Z.l1.extBut s1.extBut D.l1z) hx fun g2 n1 s2=>wpAny_pure ?_)
  have t2:IsPair g2 TO a b:=s2.extBut _ _ D.TOi1 (s1.extBut _ _ D.TOz Z.TO)
  refine wpAny_bind (wpAny_seqItems t2 rfl ?_)
  refine wpAny_bind (wpAny_updateSeq_pair t2 fun g3 t3 s3 => ?_)
  refine wpAny_bind (wpAny_letGo (wpAny_pure ?_))
  refine wpAny_bind (wpAny_bind (wpAny_onRaise ?_))
  show wpAny _ _ (Builtin.SmallTypes.nextOf (.ref i2) >>=_) _ _ _
  refine wpAny_bind (wpAny_nextOf_list_end (s:={ s with heap:=g3 }) hh (((Z.i2.extBut s1.extBut D.i2z).extBut s2.extBut D.i12.symm).extBut s3.extBut D.TOi2.symm) (((Z.l2.extBut s1.extBut D.l2z).extBut s2.extBut D.l2i1).extBut s3.extBut D.l2TO) hy fun g4 e s4 ⟨oe,hoe,hce⟩ => ?_)
  have z4:IsZip g4 z TI TO .ellipsis:=s4 _ _ D.i2z.symm (s3.extBut _ _ D.TOz.symm (s2.extBut _ _ D.i1z.symm z1))
  have hez:e≠z:=fun q=>by subst q;rw [z4]at hoe;cases hoe;simp at hce
  refine wpAny_setField_rec z4 (by simp) fun g5 _ s5=>hE g5 e (fun c o c1 c2 c3 c4 q=>s5.extBut _ _ c1 (s4 _ _ c4 (s3.extBut _ _ c2 (s2.extBut _ _ c3 (s1.extBut _ _ c1 q))))) ⟨oe,s5.extBut _ _ hez hoe,hce⟩
theorem pn_item{z TI TO i1 i2 l1 l2:Addr}{k1 k2:Nat}{xs ys:Array Value}{x y a b:Value}{Q:Option Value->Shared->Prop}(D:ZipApart z TI TO i1 i2 l1 l2)(Z:At s.heap z TI TO i1 i2 l1 l2 k1 k2 xs ys a b)(hx:xs[k1]? =some x)(hy:ys[k2]? =some y)
  (hQ:∀g,IsZip g z TI TO (rawInt s.heap.objs.size)->IsPair g TO x y->g.IsTupleIter i1 l1 (k1+1)->g.IsListIter i2 l2 (k2+1)->IsPair g s.heap.objs.size x y->g.objs.size=s.heap.objs.size+1 ->
   (∀c o,c≠z->c≠TO->c≠i1->c≠i2->s.heap.get? c=some o->g.get? c=some o)->Q (some (.ref s.heap.objs.size)) { s with heap:=g }):wpAny (model prog w) A (pyNext (.ref z)) Q E s:=by
 have hT:s.TypeIs (.ref z) "zip" :=⟨_,Z.z,rfl⟩
 unfold pyNext
 exact wpAny_bind (wpAny_attempt (wpAny_callSpecial?_slot (name:=Str.ofString "__next__") hT F.slot_zip_next (wpAny_call_entry F.slot_zip_next hT F.entry_zip_next (next_item D Z hx hy fun g a1 a2 a3 a4 a5 a6 a7=>wpAny_pure (hQ g a1 a2 a3 a4 a5 a6 a7)) (F.args_zip_next_1 _))))
theorem pn_end{z TI TO i1 i2 l1 l2:Addr}{k1 k2:Nat}{xs ys:Array Value}{a b:Value}{Q:Option Value->Shared->Prop}(hh:A.handled=none)(D:ZipApart z TI TO i1 i2 l1 l2)(Z:At s.heap z TI TO i1 i2 l1 l2 k1 k2 xs ys a b)(hend:xs[k1]? =none∨ys[k2]? =none)
  (hQ:∀g,(∀c o,c≠z->c≠TO->c≠i1->c≠i2->s.heap.get? c=some o->g.get? c=some o)->Q none { s with heap:=g }):wpAny (model prog w) A (pyNext (.ref z)) Q E s:=by
 have hT:s.TypeIs (.ref z) "zip" :=⟨_,Z.z,rfl⟩
 unfold pyNext
 refine wpAny_bind (wpAny_attempt (wpAny_callSpecial?_slot (name:=Str.ofString "__next__") hT F.slot_zip_next (wpAny_call_entry F.slot_zip_next hT F.entry_zip_next (next_end hh D Z hend fun g e hk ⟨o,ho,hc⟩ => ?_) (F.args_zip_next_1 _))))
 exact wpAny_bind (wpAny_isInstance (T := "StopIteration") (b:=true) ⟨o,ho,hc⟩ isSubtype_stop (wpAny_pure (hQ _ hk)))
end
abbrev H1(h:Heap)(l1:Addr):Heap:=h.push { cls := .type "tuple_iterator",data := .fields #[.ref l1,.int 0 0] }
abbrev H2(h:Heap)(l1 l2:Addr):Heap:=(H1 h l1).push { cls := .type "list_iterator",data := .fields #[.ref l2,.int 0 0] }
abbrev H3(h:Heap)(l1 l2:Addr):Heap:=(H2 h l1 l2).push { cls := .type "tuple",data := .seq #[.ref h.objs.size,.ref (H1 h l1).objs.size] }
abbrev H4(h:Heap)(l1 l2:Addr):Heap:=(H3 h l1 l2).push { cls := .type "tuple",data := .seq #[.none,.none] }
abbrev H5(h:Heap)(l1 l2:Addr):Heap:=(H4 h l1 l2).push { cls := .type "zip",data := .fields #[.none,.bool false,.bool false,.ref (H2 h l1 l2).objs.size,.ref (H3 h l1 l2).objs.size] }
theorem meets_new(l1 l2:Addr)(xs ys:Array Value):Meets (Builtin.«zip.__new__» ⟨[.type "zip",.ref l1,.ref l2],[]⟩) (fun _ R s=>s.heap.IsTuple l1 xs/\s.heap.IsList l2 ys/\R (.ok (.ret (.ref (H4 s.heap l1 l2).objs.size))) { s with heap:=H5 s.heap l1 l2 }) :=
 .of_wp fun prog w A R s h=>by
  obtain⟨hp,g,d,tk,os⟩:=s
  obtain⟨a1,a2,h⟩:=h
  have hsub:=sub_zip
  have b1:Heap.IsTuple (Shared.heap ⟨hp,g,d,tk,os⟩) l1 xs:=a1
  have b2:Heap.IsList (Shared.heap ⟨hp.push { cls := .type "tuple_iterator",data := .fields #[.ref l1,.int 0 0] },g,d,tk,os⟩) l2 ys:=Heap.IsList.push a2 _
  wp_walk using wpAny_pyIter_tuple b1,wpAny_pyIter_list b2
  exact⟨_,rfl,h⟩
section
variable {prog:Program} {w:World} {A:Around} {E:Value->Shared->Prop} {s:Shared}
theorem call_mix{l1 l2:Addr}{xs ys:Array Value}{Q:Value->Shared->Prop}(a1:s.heap.IsTuple l1 xs)(a2:s.heap.IsList l2 ys)
  (h:∀g,At g (s.heap.objs.size+4) (s.heap.objs.size+2) (s.heap.objs.size+3) s.heap.objs.size (s.heap.objs.size+1) l1 l2 0 0 xs ys .none .none->g.objs.size=s.heap.objs.size+5->(∀c o,s.heap.get? c=some o->g.get? c=some o)->Q (.ref (s.heap.objs.size+4)) { s with heap:=g }) :
  wpAny (model prog w) A (call (.type "zip") [.ref l1,.ref l2]) Q E s:=by
 refine callType_new F.called_zip (by decide) (F.typeCall_zip_2 _ _) (F.newCall_zip_2 _ _) (fun obj=>F.args_object_init_3 obj _ _) F.entry_zip_new (meets_new l1 l2 xs ys) ⟨a1,a2, ?_⟩
 have z1:(H1 s.heap l1).objs.size=s.heap.objs.size+1:=Heap.size_push ..
 have z2:(H2 s.heap l1 l2).objs.size=s.heap.objs.size+2:=by rw [Heap.size_push,z1]
 have z3:(H3 s.heap l1 l2).objs.size=s.heap.objs.size+3:=by rw [Heap.size_push,z2]
 have z4:(H4 s.heap l1 l2).objs.size=s.heap.objs.size+4:=by rw [Heap.size_push,z3]
 have z5:(H5 s.heap l1 l2).objs.size=s.heap.objs.size+5:=by rw [Heap.size_push,z4]
 have g5:(H5 s.heap l1 l2).get? (H4 s.heap l1 l2).objs.size=some _:=Heap.get?_push_size _ rfl
 have g4:(H5 s.heap l1 l2).get? (H3 s.heap l1 l2).objs.size=some _:=Heap.get?_push_of_some _ (Heap.get?_push_size _ rfl)
 have g3:(H5 s.heap l1 l2).get? (H2 s.heap l1 l2).objs.size=some _:=Heap.get?_push_of_some _ (Heap.get?_push_of_some _ (Heap.get?_push_size _ rfl))
 have g2:(H5 s.heap l1 l2).get? (H1 s.heap l1).objs.size=some _:=Heap.get?_push_of_some _ (Heap.get?_push_of_some _ (Heap.get?_push_of_some _ (Heap.get?_push_size _ rfl)))
 have g1:(H5 s.heap l1 l2).get? s.heap.objs.size=some _:=Heap.get?_push_of_some _ (Heap.get?_push_of_some _ (Heap.get?_push_of_some _ (Heap.get?_push_of_some _ (Heap.get?_push_size _ rfl))))
 have up:∀c o,s.heap.get? c=some o->(H5 s.heap l1 l2).get? c=some o:=fun c o x=>Heap.get?_push_of_some _ (Heap.get?_push_of_some _ (Heap.get?_push_of_some _ (Heap.get?_push_of_some _ (Heap.get?_push_of_some _ x))))
 show _/\_
 rw [z2,z3,z4]at g5
 rw [z1,z2]at g3
 rw [z3]at g4
 rw [z1]at g2
 rw [z4]
 exact⟨⟨_,g5,rfl⟩,h _ ⟨g5,g3,g4,⟨_,g1,rfl,rfl⟩,⟨_,g2,rfl,rfl⟩,a1.at fun o e=>up _ o e,a2.at fun o e=>up _ o e⟩ z5 up⟩
end
def Itm(K:PySem.W.Frag)(a b:Addr):It :=
 ⟨fun i H =>∃(xs ys:List V) (x y:V),SqT K H a xs/\SqL K H b ys/\xs[i]? =some x/\ys[i]? =some y,
  fun i H v G =>∃T x y,v = .ref T/\H T=none/\G=upd H T (.tup [x,y])/\(∀xs,SqT K H a xs->xs[i]? =some x) /\∀ys,SqL K H b ys->ys[i]? =some y,
  fun i H =>∃xs ys:List V,SqT K H a xs/\SqL K H b ys/\(xs.length<=i∨ys.length<=i)⟩
end ZM
end Cf
namespace Cf
open PySem PySem.Spec PyProof.Rows L2
namespace ZM
def StM(z TI TO i1 i2 a b:Addr)(i:Nat)(h:Heap):Prop:=IsZip h z TI TO .none/\IsPair h TI (.ref i1) (.ref i2)/\(∃x y,IsPair h TO x y)/\h.IsTupleIter i1 a i/\h.IsListIter i2 b i
theorem five{z TI TO i1 i2 c:Addr}{p:Addr->Prop}(hc:c ∈ [z,TI,TO,i1,i2])(a:p z)(b:p TI)(d:p TO)(e:p i1)(f:p i2):p c:=by
 have e2:c=z∨c=TI∨c=TO∨c=i1∨c=i2:=by simpa using hc
 rcases e2 with q | q | q | q | q <;> rw [q] <;> assumption
theorem turn{P:Program}{w:World}{K:PySem.W.Frag}{elts:List Expr}{kk:Nat}{tpos:Pos}{a b z TI TO i1 i2:Addr}(D:ZipApart z TI TO i1 i2 a b):Turn P w K (.Tuple elts kk tpos) (Itm K a b) [z,TI,TO,i1,i2] z (StM z TI TO i1 i2 a b) where
 mem:=by simp
 obj:=fun i h st c hc=>by
  obtain⟨hz,hTI,⟨x,y,hTO⟩,⟨o1,e1,_,d1⟩,⟨o2,e2,_,d2⟩⟩:=st
  exact five (p:=fun c =>∃o,h.get? c=some o /\∀v,o.data ≠ .cell v) hc ⟨_,hz,fun v q=>nomatch q⟩ ⟨_,hTI,fun v q=>nomatch q⟩ ⟨_,hTO,fun v q=>nomatch q⟩ ⟨o1,e1,fun v q=>by rw [d1]at q;cases q⟩ ⟨o2,e2,fun v q=>by rw [d2]at q;cases q⟩
 keep:=fun i h g st k=>by
  obtain⟨hz,hTI,⟨x,y,hTO⟩,n1,n2⟩:=st
  exact⟨k z (by simp) _ hz,k TI (by simp) _ hTI,⟨x,y,k TO (by simp) _ hTO⟩,n1.at fun o q=>k i1 (by simp) o q,n2.at fun o q=>k i2 (by simp) o q⟩
 item:=by
  intro X hP hw hK hc i pins s σ H E I hf st hg
  subst hP hw hK
  obtain⟨hz,hTI,⟨x0,y0,hTO⟩,n1,n2⟩:=st
  obtain⟨xs,ys,x,y,hqx,hqy,hx,hy⟩:=hg
  obtain⟨us,rv,p,_⟩:=I.tuple hqx
  obtain⟨ws,rv2,p2,_⟩:=I.list hqy
  obtain⟨u,hu,ru⟩:=rv.get hx
  obtain⟨u2,hu2,ru2⟩:=rv2.get hy
  have hzl:z<s.heap.objs.size:=Heap.lt_size hz
  refine pn_item D ⟨hz,hTI,hTO,n1,n2,p,p2.isList⟩ (x:=u) (y:=u2) (by simpa using hu) (by simpa using hu2) fun g z1 TO1 m1 m2 hT hsz hk => ?_
  refine⟨_,rfl,wpAny_letOwnedTupleGo_zip (s:={ s with heap:=g }) z1 fun g2 z2 sb => ?_⟩
  have hT2:g2.get? s.heap.objs.size=some { cls := .type "tuple",data := .seq #[u,u2] }:=(sb.2 _ (Nat.ne_of_gt hzl)).trans hT
  have new:ObjOk X.prog X.w (upd H s.heap.objs.size (.tup [x,y])) g2 s.heap.objs.size (.tup [x,y]):=⟨by show 2<=sizeLine;decide,[u,u2],.cons ru (.cons ru2 .nil),⟨_,hT2,rfl,_,rfl⟩⟩
  have nb:∀{c:Addr},c ∉ [z,TI,TO,i1,i2]->c≠z/\c≠TO/\c≠i1/\c≠i2:=fun {c} hb=>⟨fun q=>hb (by simp [q]),fun q=>hb (by simp [q]),fun q=>hb (by simp [q]),fun q=>hb (by simp [q])⟩
  have I1:Inv X pins σ (upd H s.heap.objs.size (.tup [x,y])) { s with heap:=g2 }:=I.turnedNew (t':=s.toks) (ch :=[z,TI,TO,i1,i2]) (fun c o hb q=>(sb.2 c (nb hb).1).trans (hk c o (nb hb).1 (nb hb).2.1 (nb hb).2.2.1 (nb hb).2.2.2 q)) hf (Nat.le_refl _) new
  refine⟨.ref s.heap.objs.size,_,I1,rfl,⟨_,x,y,rfl,I.hok.fresh (Nat.le_refl _),rfl,fun l hl=>by rw [I.tuple_inj hl hqx];exact hx,fun l hl=>by rw [I.list_inj hl hqy];exact hy⟩,⟨z2,(sb.2 _ D.TIz).trans (hk _ _ D.TIz D.TITO D.TIi1 D.TIi2 hTI),⟨u,u2,(sb.2 _ D.TOz).trans TO1⟩,m1.at fun o q=>(sb.2 _ D.i1z).trans q,m2.at fun o q=>(sb.2 _ D.i2z).trans q⟩,fun c hcm => ?_⟩
  obtain⟨o1,e1,_⟩:=n1
  obtain⟨o2,e2,_⟩:=n2
  have hlt:c<s.heap.objs.size:=five (p:=fun c=>c<s.heap.objs.size) hcm hzl (Heap.lt_size hTI) (Heap.lt_size hTO) (Heap.lt_size e1) (Heap.lt_size e2)
  rw [upd_ne (Nat.ne_of_lt hlt)]
  exact(hf c hcm).1
 done:=by
  intro X hP hw hK hc i pins s σ H E I hf st hg
  subst hP hw hK
  obtain⟨hz,hTI,⟨x0,y0,hTO⟩,n1,n2⟩:=st
  obtain⟨xs,ys,hqx,hqy,hend⟩:=hg
  obtain⟨us,rv,p,_⟩:=I.tuple hqx
  obtain⟨ws,rv2,p2,_⟩:=I.list hqy
  have k1:=rv.length
  have k2:=rv2.length
  have he:us.toArray[i]? =none∨ws.toArray[i]? =none:=by
   rcases hend with q | q
   ·exact .inl (by simp;omega)
   ·exact .inr (by simp;omega)
  exact pn_end (I.ok.hd hc) D ⟨hz,hTI,hTO,n1,n2,p,p2.isList⟩ he fun g hk=>⟨rfl,I.turnedL (t':=s.toks) (ch :=[z,TI,TO,i1,i2]) (fun c o hb q=>hk c o (fun y=>hb (by simp [y])) (fun y=>hb (by simp [y])) (fun y=>hb (by simp [y])) (fun y=>hb (by simp [y])) q) hf⟩
 self:=fun A i s Q E st h=>wpAny_pyIter_zip st.1 h
end ZM
def iZipM(K:PySem.W.Frag)(ta:TA):TI:=fun σ H R=>ta σ H fun vs H1 =>∃a b xs ys,vs = [.ref a,.ref b]/\SqT K H1 a xs/\SqL K H1 b ys/\R (ZM.Itm K a b) H1
theorem pi_zipM{X:Cx}{e e2:Expr}{ta:TA}{p pos tpos:Pos}{elts:List Expr}{kk:Nat}(hg:Gl X "zip")(hm:X.mg "zip" =none)(ha:PA X [e,e2] ta)
  (hs:starEach [e,e2] X.env=(false,eval e X.env)::starEach [e2] X.env:=by rfl) (hpl:(backTo pos (starEach [e2] X.env)).any (·.1)=false:=by rfl):PI X (.Tuple elts kk tpos) (.Call (.Name "zip" p) [e,e2] [] pos) (iZipM X.K ta):=by
 refine⟨fun pins s σ H R I h => ?_⟩
 refine Call_ (ld_blt I hg hm PyProof.Rows.boot_zip (PyProof.Rows.callWith_type1 (thn (ha.run pos pins s σ H _ I h) fun us s1 ⟨vs,H1,I1,r1,q1⟩ => ?_) hs hpl))
 obtain⟨a,b,xs,ys,ex,hqx,hqy,q⟩:=q1
 subst ex
 cases r1 with
 | cons r rr =>
  cases rr with
  | cons r2 rr =>
   cases rr
   cases r
   cases r2
   obtain⟨ws,rv,p1,_⟩:=I1.tuple hqx
   obtain⟨ws2,rv2,p2,_⟩:=I1.list hqy
   obtain⟨o1,ho1,_⟩:=id p1
   refine ZM.call_mix (show s1.heap.IsTuple a ws.toArray from p1) p2.isList fun g Z hsz hk=>wpAny_pyIter_zip Z.z ?_
   have I2:Inv X pins σ H1 { s1 with heap:=g }:=I1.kept (t':=s1.toks) hk
   have fresh5:∀c,c ∈ [s1.heap.objs.size+4,s1.heap.objs.size+2,s1.heap.objs.size+3,s1.heap.objs.size,s1.heap.objs.size+1]->FpOk X pins H1 c:=fun c hcm =>
    have hle:s1.heap.objs.size<=c:=ZM.five (p:=fun c=>s1.heap.objs.size<=c) hcm (Nat.le_add_right _ _) (Nat.le_add_right _ _) (Nat.le_add_right _ _) (Nat.le_refl _) (Nat.le_add_right _ _)
    I1.fpOk hle (I1.hok.fresh hle)
   have st:ZM.StM (s1.heap.objs.size+4) (s1.heap.objs.size+2) (s1.heap.objs.size+3) s1.heap.objs.size (s1.heap.objs.size+1) a b 0 g:=⟨Z.z,Z.TI,⟨_,_,Z.TO⟩,Z.i1,Z.i2⟩
   exact⟨s1.heap.objs.size+4,[s1.heap.objs.size+4,s1.heap.objs.size+2,s1.heap.objs.size+3,s1.heap.objs.size,s1.heap.objs.size+1],_,_,H1,rfl,I2,ZM.turn (PySem.W.ktu_apart s1.heap.objs.size a b (Heap.lt_size ho1) p2.lt),st,fresh5,q⟩
theorem walkd_zipM{K:PySem.W.Frag}{F:Hp}{a b:Addr}{xs ys:List V}{ds es:List PyData}(h:F a=some (.tup xs))(r:Rps F xs ds)(h2:F b=some (.lst ys))(r2:Rps F ys es):WalkD (ZM.Itm K a b) F (zipD ds es):=by
 have hl:(zipD ds es).length=min ds.length es.length:=by unfold zipD;rw [List.length_map,List.length_zip]
 refine⟨fun F2 H2 i e1 e2 hi => ?_,fun F2 H2 e1 e2=>⟨xs,ys,SqT.of (e2 _ _ (e1 _ _ h)),SqL.of (e2 _ _ (e1 _ _ h2)),by rw [r.len,r2.len,hl];omega⟩,fun F2 H2 i x H3 e1 e2 hi y => ?_⟩
 ·rw [hl]at hi
  obtain⟨v,hv,_⟩:=r.get (List.getElem?_eq_getElem (show i<ds.length by omega))
  obtain⟨w,hw,_⟩:=r2.get (List.getElem?_eq_getElem (show i<es.length by omega))
  exact⟨xs,ys,v,w,SqT.of (e2 _ _ (e1 _ _ h)),SqL.of (e2 _ _ (e1 _ _ h2)),hv,hw⟩
 ·obtain⟨T,y,z,rfl,hT,rfl,hy,hz⟩:=y
  obtain⟨d,hd,rv⟩:=r.getV (hy xs (SqT.of (e2 _ _ (e1 _ _ h))))
  obtain⟨d2,hd2,rv2⟩:=r2.getV (hz ys (SqL.of (e2 _ _ (e1 _ _ h2))))
  obtain⟨t,x⟩:=tr_new (o := .tup [y,z]) hT e2
  exact⟨_,_,zipD_get hd hd2,t,x,.tup upd_same (.cons ((rv.up e1).up t.ex) (.one ((rv2.up e1).up t.ex)))⟩
def onZM(P:List PyData->Prop):List PyData->Prop
 | [.tuple ds,.list es]=>P (zipD ds es)
 | _=>False
def aiZipM(tu:AL):AI:=fun env P=>tu env fun ds e=>onZM (fun xs=>P xs e) ds
theorem ai_zipM{X:Cx}{e e2:Expr}{su:TA}{tu:AL}{p pos tpos:Pos}{elts:List Expr}{kk:Nat}(hg:Gl X "zip")(hm:X.mg "zip" =none)(ha:APA X [e,e2] su tu)
  (hs:starEach [e,e2] X.env=(false,eval e X.env)::starEach [e2] X.env:=by rfl) (hpl:(backTo pos (starEach [e2] X.env)).any (·.1)=false:=by rfl):API X (.Tuple elts kk tpos) (.Call (.Name "zip" p) [e,e2] [] pos) (iZipM X.K su) (aiZipM tu):=⟨pi_zipM hg hm ha.pe hs hpl,fun R P ok h q=>ha.sm _ _ ok h fun vs ds env1 F1 H1 fp1 t ok1 r h1=>by
 match ds,r,h1 with
 | [.tuple ds,.list es],r,h1 =>
  obtain⟨v,w,rfl,r1,r2⟩:=rps2 r
  cases r1 with
  | tup g1 k1 =>
   cases r2 with
   | lst g2 k2=>exact⟨_,_,_,_,rfl,SqT.of (ok1.ex _ _ g1),SqL.of (ok1.ex _ _ g2),q _ _ _ _ _ _ t ok1 (walkd_zipM g1 k1 g2 k2) h1⟩⟩
theorem x_zipM(tu:AL)(env:List Sl)(P:List PyData->List Sl->Prop):aiZipM tu env P=tu env fun ds e=>onZM (fun xs=>P xs e) ds:=rfl
theorem x_onZM(ds es:List PyData)(P:List PyData->Prop):onZM P [.tuple ds,.list es]=P (zipD ds es):=rfl
end Cf
namespace Cf
theorem RoomG.m{j k:Nat}{A:_}(r:RoomG k A)(h:j<=k:=by walk_at "u"):RoomG j A:=r.mono h
end Cf
namespace Law
open PySem PySem.Spec PyProof.Rows L2 Cf
abbrev Sl:=Cf.Sl
local macro_rules | `(tactic| walk_at "cf") => `(tactic| simp -implicitDefEqProofs only [mask, x_iEnB, x_onEBL, f_ixP, f_lenP, x_onAnyP, x_pk, x_PkN, x_PkC, x_Pk1, x_Pk2, x_Pk3, x_onK, x_withK, x_ownKAt, x_d0, x_getK, x_setK, x_parN, x_parE0, x_parED, x_parEO, x_addO, x_nl1, f_mulAI, f_listAL, f_tupAL, cx_K, opt_s, ixN_0, List.replicate_succ, List.replicate_zero, ixN_32, atI_0, atI_1, atI_2, atI_3, atI_m1, f_addI, f_addS, f_addL, f_addT, f_int, f_int0, f_neg, f_eq, f_ne, f_ixL, f_ixT, f_ixS, f_slL, f_slT, f_lenL, f_lenT, f_lenS, f_abs, f_intOfB, f_max2, x_var, x_varD, x_varL, x_c, x_op, x_isN, x_un, x_onB, x_test, x_and, x_or, x_not, x_andV, x_orV, x_notV, x_if, x_alNil, x_alCons, x_tup, x_lst, x_noP, x_onI, x_onL, x_onS, x_part, x_sl, x_call, x_callO, x_onD, x_frz, x_dataL, x_next, x_seq, x_ifS, x_set, x_setO, x_onP, x_par, x_onDI, x_aug, x_ret, x_retO, x_onO, x_ownAt, x_withL, x_ixO, x_lenO, x_app, x_ins, x_setI, x_agName, x_agNil, x_agCons, x_agTup, x_asg, x_onAnyL, x_onAnyT, x_onAnyS, x_aiAny, x_onR1, x_rng1, x_onZAL, x_onZAT, x_zipA, x_for, x_lc, x_yes, x_wipeN, x_wipeC, x_keepD, x_keepO3, x_backN, x_backC, x_arNil, x_arDat, x_arBor, x_arOwn, x_arScr, x_grN, x_grD, x_grO, x_grB, x_grB1, x_grS, x_grS1, x_gvB, x_gvD, x_gvO, x_gvS, x_gvN, x_onSl, x_onSlL, x_onOw, x_fn, x_m0, x_join, x_isi, x_onSc, x_scrAt, x_slS, x_move, x_revS, x_mask, x_mask0, List.getElem?_cons_zero, List.getElem?_cons_succ, List.set_cons_zero, List.set_cons_succ, List.length_cons, List.length_nil, List.cons_append, List.nil_append, List.append_nil, Option.map_some, Option.getD_some, List.map_cons, List.map_nil, Nat.reduceAdd, Nat.reduceSub, Nat.reduceLT, Nat.zero_add, decide_eq_true_eq, decide_eq_false_iff_not, List.mem_cons, List.not_mem_nil, or_false, if_true, if_false, true_and, and_true, reduceCtorEq, Nat.reduceEqDiff, ↓reduceIte, List.length_set, List.mem_singleton, Nat.zero_ne_one, Nat.one_ne_zero, Nat.zero_lt_succ, Bool.not_true, Bool.not_false, Bool.false_eq_true, false_implies, true_implies, forall_const, implies_true, or_true, true_or, false_or, eq_self_iff_true])
local macro_rules | `(tactic| walk_at "cg") => `(tactic| simp -implicitDefEqProofs only [mask, x_onDD, x_dget, f_sortD, decide_true, decide_false, eq_self, x_sz, x_eqI, x_eqS, x_evI, x_evS, x_nt, x_nf, List.length_map, Nat.reduceLeDiff, not_true_eq_false, not_false_eq_true, x_iEnB, x_onEBL, f_ixP, f_lenP, x_onAnyP, x_pk, x_PkN, x_PkC, x_Pk1, x_Pk2, x_Pk3, x_onK, x_withK, x_ownKAt, x_d0, x_getK, x_setK, x_parN, x_parE0, x_parED, x_parEO, x_addO, x_nl1, f_mulAI, f_listAL, f_tupAL, cx_K, opt_s, ixN_0, List.replicate_succ, List.replicate_zero, ixN_32, atI_0, atI_1, atI_2, atI_3, atI_m1, f_addI, f_addS, f_addL, f_addT, f_int, f_int0, f_neg, f_eq, f_ne, f_ixL, f_ixT, f_ixS, f_slL, f_slT, f_lenL, f_lenT, f_lenS, f_abs, f_intOfB, f_max2, x_var, x_varD, x_varL, x_c, x_op, x_isN, x_un, x_onB, x_test, x_and, x_or, x_not, x_andV, x_orV, x_notV, x_if, x_alNil, x_alCons, x_tup, x_lst, x_noP, x_onI, x_onL, x_onS, x_part, x_sl, x_call, x_callO, x_onD, x_frz, x_dataL, x_next, x_seq, x_ifS, x_set, x_setO, x_onP, x_par, x_onDI, x_aug, x_ret, x_retO, x_onO, x_ownAt, x_withL, x_ixO, x_lenO, x_app, x_ins, x_setI, x_agName, x_agNil, x_agCons, x_agTup, x_asg, x_onAnyL, x_onAnyT, x_onAnyS, x_aiAny, x_onR1, x_rng1, x_onZAL, x_onZAT, x_zipA, x_for, x_lc, x_yes, x_wipeN, x_wipeC, x_keepD, x_keepO3, x_backN, x_backC, x_arNil, x_arDat, x_arBor, x_arOwn, x_arScr, x_grN, x_grD, x_grO, x_grB, x_grB1, x_grS, x_grS1, x_gvB, x_gvD, x_gvO, x_gvS, x_gvN, x_onSl, x_onSlL, x_onOw, x_fn, x_m0, x_join, x_isi, x_onSc, x_scrAt, x_slS, x_move, x_revS, x_mask, x_mask0, List.getElem?_cons_zero, List.getElem?_cons_succ, List.set_cons_zero, List.set_cons_succ, List.length_cons, List.length_nil, List.cons_append, List.nil_append, List.append_nil, Option.map_some, Option.getD_some, List.map_cons, List.map_nil, Nat.reduceAdd, Nat.reduceSub, Nat.reduceLT, Nat.zero_add, decide_eq_true_eq, decide_eq_false_iff_not, List.mem_cons, List.not_mem_nil, or_false, if_true, if_false, true_and, and_true, reduceCtorEq, Nat.reduceEqDiff, ↓reduceIte, List.length_set, List.mem_singleton, Nat.zero_ne_one, Nat.one_ne_zero, Nat.zero_lt_succ, Bool.not_true, Bool.not_false, Bool.false_eq_true, false_implies, true_implies, forall_const, implies_true, or_true, true_or, false_or, eq_self_iff_true])
local macro_rules | `(tactic| walk_at "ch") => `(tactic| simp -implicitDefEqProofs only [mask, getP_K, Option.map_none, Option.isSome_some, Option.isSome_none, x_moD1, x_kStr, x_onDD, x_dget, f_sortD, decide_true, decide_false, eq_self, x_sz, x_eqI, x_eqS, x_evI, x_evS, x_nt, x_nf, List.length_map, Nat.reduceLeDiff, not_true_eq_false, not_false_eq_true, x_iEnB, x_onEBL, f_ixP, f_lenP, x_onAnyP, x_pk, x_PkN, x_PkC, x_Pk1, x_Pk2, x_Pk3, x_onK, x_withK, x_ownKAt, x_d0, x_getK, x_setK, x_parN, x_parE0, x_parED, x_parEO, x_addO, x_nl1, f_mulAI, f_listAL, f_tupAL, cx_K, opt_s, ixN_0, List.replicate_succ, List.replicate_zero, ixN_32, atI_0, atI_1, atI_2, atI_3, atI_m1, f_addI, f_addS, f_addL, f_addT, f_int, f_int0, f_neg, f_eq, f_ne, f_ixL, f_ixT, f_ixS, f_slL, f_slT, f_lenL, f_lenT, f_lenS, f_abs, f_intOfB, f_max2, x_var, x_varD, x_varL, x_c, x_op, x_isN, x_un, x_onB, x_test, x_and, x_or, x_not, x_andV, x_orV, x_notV, x_if, x_alNil, x_alCons, x_tup, x_lst, x_noP, x_onI, x_onL, x_onS, x_part, x_sl, x_call, x_callO, x_onD, x_frz, x_dataL, x_next, x_seq, x_ifS, x_set, x_setO, x_onP, x_par, x_onDI, x_aug, x_ret, x_retO, x_onO, x_ownAt, x_withL, x_ixO, x_lenO, x_app, x_ins, x_setI, x_agName, x_agNil, x_agCons, x_agTup, x_asg, x_onAnyL, x_onAnyT, x_onAnyS, x_aiAny, x_onR1, x_rng1, x_onZAL, x_onZAT, x_zipA, x_for, x_lc, x_yes, x_wipeN, x_wipeC, x_keepD, x_keepO3, x_backN, x_backC, x_arNil, x_arDat, x_arBor, x_arOwn, x_arScr, x_grN, x_grD, x_grO, x_grB, x_grB1, x_grS, x_grS1, x_gvB, x_gvD, x_gvO, x_gvS, x_gvN, x_onSl, x_onSlL, x_onOw, x_fn, x_m0, x_join, x_isi, x_onSc, x_scrAt, x_slS, x_move, x_revS, x_mask, x_mask0, List.getElem?_cons_zero, List.getElem?_cons_succ, List.set_cons_zero, List.set_cons_succ, List.length_cons, List.length_nil, List.cons_append, List.nil_append, List.append_nil, Option.map_some, Option.getD_some, List.map_cons, List.map_nil, Nat.reduceAdd, Nat.reduceSub, Nat.reduceLT, Nat.zero_add, decide_eq_true_eq, decide_eq_false_iff_not, List.mem_cons, List.not_mem_nil, or_false, if_true, if_false, true_and, and_true, reduceCtorEq, Nat.reduceEqDiff, ↓reduceIte, List.length_set, List.mem_singleton, Nat.zero_ne_one, Nat.one_ne_zero, Nat.zero_lt_succ, Bool.not_true, Bool.not_false, Bool.false_eq_true, false_implies, true_implies, forall_const, implies_true, or_true, true_or, false_or, eq_self_iff_true])
local macro_rules | `(tactic| walk_at "ck") => `(tactic| simp -implicitDefEqProofs only [mask, x_zipM, x_onZM, f_reprU, x_aiRow, x_lstZip, x_zipK, x_tupK, x_tupR, x_nd, x_onCap, x_capN, x_capC, x_cap1, x_fnN, x_fnT, x_idxT, x_onRow, f_idxT, f_tupRow, f_srtR, f_lenR, f_ixR, f_addR, x_dictPK, x_fdPK, x_sortTc, x_hueOf, x_sortSet, x_fSS, x_tksS, f_sortSg, x_lstRg, x_pkX, x_pkX1, getP_K, Option.map_none, Option.isSome_some, Option.isSome_none, x_moD1, x_kStr, x_onDD, x_dget, f_sortD, decide_true, decide_false, eq_self, x_sz, x_eqI, x_eqS, x_evI, x_evS, x_nt, x_nf, List.length_map, Nat.reduceLeDiff, not_true_eq_false, not_false_eq_true, x_iEnB, x_onEBL, f_ixP, f_lenP, x_onAnyP, x_pk, x_PkN, x_PkC, x_Pk1, x_Pk2, x_Pk3, x_onK, x_withK, x_ownKAt, x_d0, x_getK, x_setK, x_parN, x_parE0, x_parED, x_parEO, x_addO, x_nl1, f_mulAI, f_listAL, f_tupAL, cx_K, opt_s, ixN_0, List.replicate_succ, List.replicate_zero, ixN_32, atI_0, atI_1, atI_2, atI_3, atI_m1, f_addI, f_addS, f_addL, f_addT, f_int, f_int0, f_neg, f_eq, f_ne, f_ixL, f_ixT, f_ixS, f_slL, f_slT, f_lenL, f_lenT, f_lenS, f_abs, f_intOfB, f_max2, x_var, x_varD, x_varL, x_c, x_op, x_isN, x_un, x_onB, x_test, x_and, x_or, x_not, x_andV, x_orV, x_notV, x_if, x_alNil, x_alCons, x_tup, x_lst, x_noP, x_onI, x_onL, x_onS, x_part, x_sl, x_call, x_callO, x_onD, x_frz, x_dataL, x_next, x_seq, x_ifS, x_set, x_setO, x_onP, x_par, x_onDI, x_aug, x_ret, x_retO, x_onO, x_ownAt, x_withL, x_ixO, x_lenO, x_app, x_ins, x_setI, x_agName, x_agNil, x_agCons, x_agTup, x_asg, x_onAnyL, x_onAnyT, x_onAnyS, x_aiAny, x_onR1, x_rng1, x_onZAL, x_onZAT, x_zipA, x_for, x_lc, x_yes, x_wipeN, x_wipeC, x_keepD, x_keepO3, x_backN, x_backC, x_arNil, x_arDat, x_arBor, x_arOwn, x_arScr, x_grN, x_grD, x_grO, x_grB, x_grB1, x_grS, x_grS1, x_gvB, x_gvD, x_gvO, x_gvS, x_gvN, x_onSl, x_onSlL, x_onOw, x_fn, x_m0, x_join, x_isi, x_onSc, x_scrAt, x_slS, x_move, x_revS, x_mask, x_mask0, List.getElem?_cons_zero, List.getElem?_cons_succ, List.set_cons_zero, List.set_cons_succ, List.length_cons, List.length_nil, List.cons_append, List.nil_append, List.append_nil, Option.map_some, Option.getD_some, List.map_cons, List.map_nil, Nat.reduceAdd, Nat.reduceSub, Nat.reduceLT, Nat.zero_add, decide_eq_true_eq, decide_eq_false_iff_not, List.mem_cons, List.not_mem_nil, or_false, if_true, if_false, true_and, and_true, reduceCtorEq, Nat.reduceEqDiff, ↓reduceIte, List.length_set, List.mem_singleton, Nat.zero_ne_one, Nat.one_ne_zero, Nat.zero_lt_succ, Bool.not_true, Bool.not_false, Bool.false_eq_true, false_implies, true_implies, forall_const, implies_true, or_true, true_or, false_or, eq_self_iff_true])
abbrev nmT:Nat->Nat->Str:=fun _ _ => "shows_dance.<locals>.leads_home"
structure Txt(mg:Str->Option Value):Prop where
 n_abs:mg "abs" =none
 n_all:mg "all" =none
 n_bool:mg "bool" =none
 n_dict:mg "dict" =none
 n_enumerate:mg "enumerate" =none
 n_int:mg "int" =none
 n_isinstance:mg "isinstance" =none
 n_len:mg "len" =none
 n_list:mg "list" =none
 n_max:mg "max" =none
 n_range:mg "range" =none
 n_repr:mg "repr" =none
 n_set:mg "set" =none
 n_sorted:mg "sorted" =none
 n_str:mg "str" =none
 n_sum:mg "sum" =none
 n_tuple:mg "tuple" =none
 n_zip:mg "zip" =none
 c_DANCE_PARTS:∃t,mg "DANCE_PARTS" =some (.int 4 t)
 c_TURN_PARTS:∃t,mg "TURN_PARTS" =some (.int 3 t)
section
variable {P:Program} {w:World} {K:PySem.W.Frag} {mg:Str->Option Value} {base:Heap} {f:Addr} {fd:FuncData} {dvs:List V} {kws:List (Str×V)}
def R_colour_of:ASp:=fun args P =>∃(c:Nat),args = [.dat (.str (tx [c]))]/\Lt c/\P (.dat (.str (tx [if 97<=c then c else Cf.inv c]))) [.non]
theorem sc_colour_of:FnScope ["step"] ["step"] (defScope s_colour_of):=⟨rfl,rfl,rfl,by decide +kernel,rfl,by decide +kernel,by decide +kernel⟩
theorem ok_colour_of(F:FunD K "colour_of" "colour_of" (defArgs s_colour_of) (defBody s_colour_of) (defScope s_colour_of) dvs kws f fd)(T:Txt mg):FnG P w K mg base CX0 1 f fd ["step"] (spA R_colour_of):=by
 refine okD F sc_colour_of [] (fun args P h => ?_) (by decide) (fun cdv A outer s H E hr=>⟨_,_,(ass_one (as_ret (ae_lower (av 0)))),fun args P h => ?_⟩)
 ·obtain⟨c,rfl,_⟩:=h
  rfl
 ·obtain⟨c,rfl,hc,q⟩:=h
  walk_at "ch"
  have e:Txt.lower (tx [c])=tx [if 97<=c then c else Cf.inv c]:=by
   rw [lower_tx (fun d hd=>by rw [List.mem_singleton.mp hd];exact lt128 hc),List.map_cons,lo1_lt hc]
   rfl
  rw [e]
  exact⟨by rw [tx_len,List.length_singleton];decide,q⟩
def isNum(d:PyData):Bool:=isIntD d && !isBoolD d
def R_is_number:ASp:=fun args P =>∃d,args = [.dat d]/\P (.dat (.bool (isNum d))) [.non]
theorem sc_is_number:FnScope ["thing"] ["thing"] (defScope s_is_number):=⟨rfl,rfl,rfl,by decide +kernel,rfl,by decide +kernel,by decide +kernel⟩
theorem ok_is_number(F:FunD K "is_number" "is_number" (defArgs s_is_number) (defBody s_is_number) (defScope s_is_number) dvs kws f fd)(T:Txt mg):FnG P w K mg base CX0 1 f fd ["thing"] (spA R_is_number):=by
 refine okD F sc_is_number [] (fun args P h => ?_) (by decide) (fun cdv A outer s H E hr=>⟨_,_,(ass_one (as_ret (ae_and (ae_isi kit_int (by rfl) T.n_isinstance (av 0) (by rfl) T.n_int (by decide +kernel)) (ae_one (ae_not (ae_isi kit_bool (by rfl) T.n_isinstance (av 0) (by rfl) T.n_bool (by decide +kernel))))))),fun args P h => ?_⟩)
 ·obtain⟨d,rfl,_⟩:=h
  rfl
 ·obtain⟨d,rfl,q⟩:=h
  unfold isNum at q
  walk_at "cf"
  exact⟨fun z=>by rw [z,Bool.true_and]at q;exact q,fun z=>by rw [z,Bool.false_and]at q;exact q⟩
def R_is_purse:ASp:=fun args P =>∃(d:PyData) (ns:List Int) (n:Int),args = [.dat d,.dat (.int n)]/\(d=pd ns∨d=rowPD ns)/\ns.length<=2^20/\P (.dat (.bool (decide ((ns.length:Int)=n)))) [.non,.non]
theorem sc_is_purse:FnScope ["thing","sorts","part"] ["thing","sorts"] (defScope s_is_purse):=⟨rfl,rfl,rfl,by decide +kernel,rfl,by decide +kernel,by decide +kernel⟩
theorem ok_is_purse(F:FunD K "is_purse" "is_purse" (defArgs s_is_purse) (defBody s_is_purse) (defScope s_is_purse) dvs kws f fd)(T:Txt mg)(c_is_number:Cal P w K mg base 1 "is_number" ["thing"] R_is_number):FnG P w K mg base CX0 2 f fd ["thing","sorts"] (spA R_is_purse):=by
 refine okD F sc_is_purse [] (fun args P h => ?_) (by decide) (fun cdv A outer s H E hr=>⟨_,_,(ass_one (as_ret (ae_and (ae_isi kit_tuple (by rfl) T.n_isinstance (av 0) (by rfl) T.n_tuple (by decide +kernel)) (ae_and (ae_eq (Cf.RoomG.u64 hr) (ae_len (by rfl) T.n_len (al_cons (av 0) al_nil)) (av 1)) (ae_one (ae_callB (cr_all rfl) sim_all (by rfl) T.n_all (by decide +kernel) (al_cons (AEO.frz (ao_lc rfl sc_is_purse.nd (ai_row (av 0)) (blkOk_cx (own :=[("part",2)]) (by decide +kernel)) (fun _ _ _ _ _=>(ag_name (i:=2) sc_is_purse.nd rfl (by walk_at "v"))) (fun _ _ _ _ _=>ats_nil) (fun _ _ _ _ _=>(ae_call c_is_number hr.m (by rfl) (ar_dat (av 2) ar_nil))))) al_nil))))))),fun args P h => ?_⟩)
 ·obtain⟨_,_,_,rfl,_⟩:=h
  rfl
 ·obtain⟨d,ns,n,rfl,hd,hl,q⟩:=h
  have hall:(ns.map fun _=>true).all id=true:=all_rep (by intro b hb;obtain⟨_,_,rfl⟩:=List.mem_map.mp hb;rfl)
  rcases hd with rfl | rfl
  ·rw [show pd ns = .tuple (ns.map .int)from rfl]
   walk_at "ck"
   refine⟨fun _=>⟨fun e => ?_,fun e => ?_⟩,fun z=>by cases z⟩
   ·rw [decide_eq_true e]at q
    refine lcL_m1 (fun i:Int => .int i) (fun _ => .bool true) ns (szl (by omega)) (fun i hi Kt Kf hg => ?_) fun x => ?_
    ·walk_at "ck"
     refine⟨_,rfl, ?_⟩
     walk_at "ck"
     exact hg _
    rw [show ns.map (fun _=>PyData.bool true)=(ns.map fun _=>true).map .bool by rw [List.map_map];rfl]
    walk_at "ck"
    refine⟨_,rfl, ?_⟩
    rw [hall]
    exact q
   ·rw [decide_eq_false e]at q
    exact q
  ·walk_at "ck"
   refine⟨fun _=>⟨fun e => ?_,fun e => ?_⟩,fun z=>by cases z⟩
   ·rw [decide_eq_true e]at q
    refine lcL_m1 (fun i:Int => .int i) (fun _ => .bool true) ns (szl (by omega)) (fun i hi Kt Kf hg => ?_) fun x => ?_
    ·walk_at "ck"
     refine⟨_,rfl, ?_⟩
     walk_at "ck"
     exact hg _
    rw [show ns.map (fun _=>PyData.bool true)=(ns.map fun _=>true).map .bool by rw [List.map_map];rfl]
    walk_at "ck"
    refine⟨_,rfl, ?_⟩
    rw [hall]
    exact q
   ·rw [decide_eq_false e]at q
    exact q
def R_count_of:ASp:=fun args P =>∃p q,args = [.dat (pd p),.dat (pd q)]/\p.length<=2^20/\(∀x∈p,∀y∈q,Cf.MulOk x y)/\P (.dat (.int (dotL p q))) [.non,.non]
theorem sc_count_of:FnScope ["purse","factors","part","factor"] ["purse","factors"] (defScope s_count_of):=⟨rfl,rfl,rfl,by decide +kernel,rfl,by decide +kernel,by decide +kernel⟩
theorem ok_count_of(F:FunD K "count_of" "count_of" (defArgs s_count_of) (defBody s_count_of) (defScope s_count_of) dvs kws f fd)(T:Txt mg):FnG P w K mg base CX0 1 f fd ["purse","factors"] (spA R_count_of):=by
 refine okD F sc_count_of [] (fun args P h => ?_) (by decide) (fun cdv A outer s H E hr=>⟨_,_,(ass_one (as_ret (ae_callB (cr_sum rfl) sim_sum (by rfl) T.n_sum (by decide +kernel) (al_cons (AEO.frz (ao_lc rfl sc_count_of.nd (ai_zipA (by rfl) T.n_zip (al_cons (av 0) (al_cons (av 1) al_nil))) (blkOk_cx (own :=[("part",2),("factor",3)]) (by decide +kernel)) (fun _ _ _ _ _=>(ag_tupk (K':=K) rfl (n:=2) rfl (ags_cons (ag_name (i:=2) sc_count_of.nd rfl (by walk_at "v")) (ags_cons (ag_name (i:=3) sc_count_of.nd rfl (by walk_at "v")) ags_nil)))) (fun _ _ _ _ _=>ats_nil) (fun _ _ _ _ _=>(ae_mulA (av 2) (av 3))))) al_nil)))),fun args P h => ?_⟩)
 ·obtain⟨p,q,rfl,_⟩:=h
  rfl
 ·obtain⟨p,q,rfl,hp,hm,k⟩:=h
  unfold pd
  walk_at "cf"
  refine lcL_ind (fun xs acc env =>∃p1 p2 q1 q2 dn x y,p=p1++p2/\q=q1++q2/\xs=zipD (p2.map .int) (q2.map .int)/\acc=dn.map PyData.int/\dn.length=p1.length/\dn.sum+dotL p2 q2=dotL p q/\env = [.dat (.tuple (p.map .int)),.dat (.tuple (q.map .int)),x,y]) ?_ ?_ _ _ _ ⟨[],p,[],q,[],.non,.non,rfl,rfl,rfl,rfl,rfl,by simp,rfl⟩
  ·rintro acc env ⟨p1,p2,q1,q2,dn,x,y,e1,e2,e,rfl,hl,hs,rfl⟩
   walk_at "cf"
   have:dotL p2 q2=0:=by
    cases p2 with
    | nil=>rfl
    | cons _ _ =>
     cases q2 with
     | nil=>rfl
     | cons _ _=>cases e
   refine⟨dn,rfl, ?_⟩
   rw [this,Int.add_zero]at hs
   rw [hs]
   exact k
  ·rintro d xs acc env ih ⟨p1,p2,q1,q2,dn,x,y,e1,e2,e,rfl,hl,hs,rfl⟩
   cases p2 with
   | nil=>cases e
   | cons a p2 =>
    cases q2 with
    | nil=>cases e
    | cons b q2 =>
     cases e
     have hlen:=congrArg List.length e1
     rw [List.length_append,List.length_cons]at hlen
     walk_at "cf"
     refine⟨hm a (by rw [e1];simp) b (by rw [e2];simp),by rw [List.length_map];exact sizeLine_big (by omega),ih _ _ ⟨p1 ++ [a],p2,q1 ++ [b],q2,dn ++ [a*b],_,_,by rw [e1];simp,by rw [e2];simp,rfl,by simp,by simp [hl], ?_,rfl⟩⟩
     rw [<- hs,List.sum_append]
     show _+(a*b+0)+dotL p2 q2=_+(a*b+dotL p2 q2)
     omega
def R_is_multiple:ASp:=fun args P =>∃c m:Int,args = [.dat (.int c),.dat (.int m)]/\P (.dat (.bool (isMul c m))) [.non,.non]
theorem sc_is_multiple:FnScope ["count","number"] ["count","number"] (defScope s_is_multiple):=⟨rfl,rfl,rfl,by decide +kernel,rfl,by decide +kernel,by decide +kernel⟩
theorem ok_is_multiple(F:FunD K "is_multiple" "is_multiple" (defArgs s_is_multiple) (defBody s_is_multiple) (defScope s_is_multiple) dvs kws f fd)(T:Txt mg):FnG P w K mg base CX0 1 f fd ["count","number"] (spA R_is_multiple):=by
 refine okD F sc_is_multiple [] (fun args P h => ?_) (by decide) (fun cdv A outer s H E hr=>⟨_,_,(ass_one (as_ret (ae_if (at_eq (Cf.RoomG.u64 hr) (av 1) ae_int) (ae_eq (Cf.RoomG.u64 hr) (av 0) ae_int) (ae_eq (Cf.RoomG.u64 hr) (ae_mod (av 0) (av 1)) ae_int)))),fun args P h => ?_⟩)
 ·obtain⟨c,m,rfl,_⟩:=h
  rfl
 ·obtain⟨c,m,rfl,q⟩:=h
  unfold isMul at q
  walk_at "cf"
  refine⟨.int _ _,fun h => ?_,fun h => ?_⟩
  ·rw [eqv_int]at h
   replace h:m=0:=eq_of_beq h
   rw [if_pos h]at q
   refine⟨.int _ _, ?_⟩
   rw [eqv_int]
   exact q
  ·rw [eqv_int]at h
   replace h:m≠0:=by simpa using h
   rw [if_neg h]at q
   refine⟨h,.int _ _, ?_⟩
   rw [eqv_int]
   exact q
def R_dip:ASp:=fun args P =>∃(cs:List Int) (k:Nat),args = [.dat (.list (cs.map .int)),.dat (.int k)]/\k<2^30 /\∀o,BoxOk 0 o->P (.own (.lst o)) [.non,.non]
theorem sc_law_dip:FnScope ["_law_script","_law_k","_law_cell"] ["_law_script","_law_k"] (defScope s_law_dip):=⟨rfl,rfl,rfl,by decide +kernel,rfl,by decide +kernel,by decide +kernel⟩
theorem ok_law_dip(F:FunD K "_law_dip" "_law_dip" (defArgs s_law_dip) (defBody s_law_dip) (defScope s_law_dip) dvs kws f fd)(T:Txt mg):FnG P w K mg base CX0 1 f fd ["_law_script","_law_k"] (spA R_dip):=by
 refine okD F sc_law_dip [] (fun args P h => ?_) (by decide) (fun cdv A outer s H E hr=>⟨_,_,(ass_cons (as_set (i:=2) sc_law_dip.nd rfl (by walk_at "v") (ae_if (at_lt (av 1) (ae_len (by rfl) T.n_len (al_cons (av 0) al_nil))) (ae_ix (av 0) (av 1)) ae_int)) (ass_one (as_retO (ao_lst (al_cons (ae_mulA (ae_callB call_abs sim_abs (by rfl) T.n_abs (by decide +kernel) (al_cons (av 2) al_nil)) (ae_callTy call_int1 sim_intOf (by rfl) T.n_int (by decide +kernel) (al_cons (ae_ge (ae_callB call_abs sim_abs (by rfl) T.n_abs (by decide +kernel) (al_cons (av 2) al_nil)) (ae_pow ae_int ae_int)) al_nil))) (al_cons (ae_add (ae_add (ae_mod (av 2) ae_int) (ae_mulA ae_int (av 1))) ae_int) (al_cons ae_int al_nil))))))),fun args P h => ?_⟩)
 ·obtain⟨cs,k,rfl,_⟩:=h
  rfl
 ·obtain⟨cs,k,rfl,hk,q⟩:=h
  walk_at "cf"
  refine⟨fun hl => ?_,fun hl => ?_⟩
  ·have hl':k<(List.map PyData.int cs).length:=by omega
   refine opt_mk (atI_nat hl') ?_
   rw [List.getElem_map]
   exact dip_law hk q
  ·exact dip_law (x:=0) hk q
theorem sc_law_take:FnScope ["_law_box","_law_many","_law_found","_law_once","_law_pair"] ["_law_box","_law_many"] (defScope s_law_take):=⟨rfl,rfl,rfl,by decide +kernel,rfl,by decide +kernel,by decide +kernel⟩
theorem ok_law_take(F:FunD K "_law_take" "_law_take" (defArgs s_law_take) (defBody s_law_take) (defScope s_law_take) dvs kws f fd)(T:Txt mg):FnG P w K mg base CX0 1 f fd ["_law_box","_law_many"] (spA R_take):=by
 refine okD F sc_law_take [0] (fun args P h => ?_) (by decide) (fun cdv A outer s H E hr=>⟨_,_,(ass_cons (as_if (at_gt (ae_ixO 0 ae_int) ae_int) (ass_cons (as_set (i:=2) sc_law_take.nd rfl (by walk_at "v") (ae_mod (ae_ixO 0 ae_int) (av 1))) (ass_cons (as_setI 0 (ae_div (ae_ixO 0 ae_int) (av 1)) ae_int) (ass_one (as_ret (av 2))))) ass_nil) (ass_cons (as_setI 0 (ae_add (ae_ixO 0 ae_int) ae_int) ae_int) (ass_cons (as_set (i:=3) sc_law_take.nd rfl (by walk_at "v") (ae_mod (ae_pow (ae_add (ae_ixO 0 ae_int) (ae_mulA ae_int (ae_ixO 0 ae_int))) ae_int) ae_int)) (ass_cons (as_set (i:=4) sc_law_take.nd rfl (by walk_at "v") (ae_mod (ae_mulA (ae_add (ae_add (av 3) (ae_ixO 0 ae_int)) (ae_div (ae_ixO 0 ae_int) ae_int)) (ae_add (ae_add (ae_mod (av 3) ae_int) ae_int) (ae_ixO 0 ae_int))) ae_int)) (ass_one (as_ret (ae_mod (ae_div (ae_mod (ae_add (ae_mulA (av 4) ae_int) (av 3)) ae_int) ae_int) (av 1)))))))),fun args P h => ?_⟩)
 ·obtain⟨o,many,n,rfl,_⟩:=h
  rfl
 ·obtain⟨o,many,n,rfl,⟨d,s,c,rfl,h0,h1,h2,h3,h4⟩,hn,hm,hm2,k⟩:=h
  walk_at "cf"
  exact take_law h0 h1 h2 h3 h4 hn hm hm2 k
def R_folded(K:PySem.W.Frag):ASp:=fun args P =>∃(ns:List Int) (m:Nat),args = [.scr K ns,.dat (.int m)]/\0<m/\m<63 /\∀cs:List Int,cs.length<=m->P (.own (.lst (cs.map .int))) [.non,.non]
theorem sc_law_folded:FnScope ["_law_script","_law_many","_law_cells","_law_k","_law_cell"] ["_law_script","_law_many"] (defScope s_law_folded):=⟨rfl,rfl,rfl,by decide +kernel,rfl,by decide +kernel,by decide +kernel⟩
theorem ok_law_folded(F:FunD K "_law_folded" "_law_folded" (defArgs s_law_folded) (defBody s_law_folded) (defScope s_law_folded) dvs kws f fd)(T:Txt mg):FnG P w K mg base CX0 1 f fd ["_law_script","_law_many"] (spA (R_folded K)):=by
 refine okD F sc_law_folded [] (fun args P h => ?_) (by decide) (fun cdv A outer s H E hr=>⟨_,_,(ass_cons (as_setO (i:=2) sc_law_folded.nd rfl (by walk_at "v") (ao_callTy (call_list_A rfl) sim_listA (by rfl) T.n_list (by decide +kernel) (al_cons (AEO.frz (ao_slS 0 ap_none (ap_some (av 1)))) al_nil))) (ass_cons (as_for PassesOwn.never rfl (ai_enumB (by rfl) T.n_enumerate (al_cons (AEO.frz (ao_slS 0 (ap_some (av 1)) (ap_some ae_int))) al_nil)) (ag_tup (n:=2) rfl (ags_cons (ag_name (i:=3) sc_law_folded.nd rfl (by walk_at "v")) (ags_cons (ag_name (i:=4) sc_law_folded.nd rfl (by walk_at "v")) ags_nil))) (ass_one (as_setI 2 (ae_add (ae_ixO 2 (ae_mod (av 3) (av 1))) (ae_mulA (av 4) (ae_add (av 3) ae_int))) (ae_mod (av 3) (av 1))))) (ass_one (as_retO (ao_move 2))))),fun args P h => ?_⟩)
 ·obtain⟨ns,m,rfl,_⟩:=h
  rfl
 ·obtain⟨ns,m,rfl,hm,hm2,q⟩:=h
  walk_at "cf"
  refine forL_ind (fun es env =>∃(k:Nat) (cs:List Int) (rest:List Int) (x y:Sl),es=enumFrom k rest/\k+rest.length<=2^30/\(rest ≠ []->cs.length=m)/\cs.length<=m/\env = [.scr K ns,.dat (.int m),.own (.lst (cs.map .int)),x,y]) ?_ ?_ _ _ ⟨0,cutL ns none (some m),cutL ns (some m) (some 63),.non,.non,enumD_ints _,folded_len hm2,folded_full hm2,folded_le,rfl⟩
  ·rintro env ⟨k,cs,rest,x,y,_,_,_,hl,rfl⟩
   walk_at "cf"
   exact q _ hl
  ·rintro e es env ih ⟨k,cs,rest,x,y,e1,hb,hf,hl,rfl⟩
   cases rest with
   | nil=>cases e1
   | cons r rest =>
    cases e1
    rw [List.length_cons]at hb
    have hc:=hf (by simp)
    walk_at "cf"
    have hk:(k:Int).fmod m=((k % m:Nat):Int):=by rw [Int.fmod_eq_emod_of_nonneg _ (by omega)];exact(Int.natCast_emod k m).symm
    have hlt:k % m<m:=Nat.mod_lt _ hm
    refine⟨by omega, ?_⟩
    rw [hk]
    refine opt_mk (atI_nat (by rw [List.length_map];omega)) ?_
    rw [List.getElem_map]
    walk_at "cf"
    refine⟨.r (by omega) (by omega),by omega,opt_mk (ixN_nat (by rw [List.length_map];omega)) ?_⟩
    rw [<- List.map_set]
    exact ih _ ⟨k+1,_,rest,_,_,rfl,by omega,fun _=>by rw [List.length_set];exact hc,by rw [List.length_set];exact hl,rfl⟩
def R_one_of:ASp:=fun args P =>∃o d n,args = [.own (.lst o),.dat d]/\BoxOk n o/\n<2^40/\((∃xs:List PyData,(d = .list xs∨d = .tuple xs)/\0<xs.length/\xs.length<2^40 /\∀x o',x∈xs->BoxOk (n+1) o'->P (.dat x) [.own (.lst o'),.non]) ∨
 ∃z:Str,d = .str z/\0<z.length/\z.length<=2^20 /\∀c o',c∈z.cps.toList->BoxOk (n+1) o'->P (.dat (.str ⟨#[c]⟩)) [.own (.lst o'),.non])
theorem sc_law_one_of:FnScope ["_law_box","_law_pool"] ["_law_box","_law_pool"] (defScope s_law_one_of):=⟨rfl,rfl,rfl,by decide +kernel,rfl,by decide +kernel,by decide +kernel⟩
theorem ok_law_one_of(F:FunD K "_law_one_of" "_law_one_of" (defArgs s_law_one_of) (defBody s_law_one_of) (defScope s_law_one_of) dvs kws f fd)(T:Txt mg)(c_law_take:Cal P w K mg base 1 "_law_take" ["_law_box","_law_many"] R_take):FnG P w K mg base CX0 2 f fd ["_law_box","_law_pool"] (spA R_one_of):=by
 refine okD F sc_law_one_of [0] (fun args P h => ?_) (by decide) (fun cdv A outer s H E hr=>⟨_,_,(ass_one (as_ret (ae_ix (av 1) (ae_call c_law_take hr.m (by rfl) (ar_bor 0 (ar_dat (ae_len (by rfl) T.n_len (al_cons (av 1) al_nil)) ar_nil)))))),fun args P h => ?_⟩)
 ·obtain⟨o,d,n,rfl,_⟩:=h
  rfl
 ·obtain⟨o,d,n,rfl,b,hn,h⟩:=h
  rcases h with ⟨xs,rfl | rfl,h0,h1,q⟩ | ⟨z,rfl,h0,h1,q⟩
  ·walk_at "cf"
   refine⟨_,_,n,rfl,b,hn,by omega,by omega,fun v o' hv hv2 b' => ?_⟩
   walk_at "cf"
   obtain⟨j,rfl⟩:=Int.eq_ofNat_of_zero_le hv
   exact opt_mk (atI_nat (by omega)) (q _ _ (List.getElem_mem _) b')
  ·walk_at "cf"
   refine⟨_,_,n,rfl,b,hn,by omega,by omega,fun v o' hv hv2 b' => ?_⟩
   walk_at "cf"
   obtain⟨j,rfl⟩:=Int.eq_ofNat_of_zero_le hv
   exact opt_mk (atI_nat (by omega)) (q _ _ (List.getElem_mem _) b')
  ·walk_at "cf"
   refine⟨sz_of (by omega),_,_,n,rfl,b,hn,by omega,by omega,fun v o' hv hv2 b' => ?_⟩
   walk_at "cf"
   obtain⟨j,rfl⟩:=Int.eq_ofNat_of_zero_le hv
   have hz:z.length=z.cps.toList.length:=Array.length_toList.symm
   exact⟨sz_of (by omega),opt_mk (atI_nat (by omega)) (q _ _ (List.getElem_mem _) b')⟩
def R_strewn:ASp:=fun args P =>∃o d n xs,args = [.own (.lst o),.dat d]/\BoxOk n o/\(d = .list xs∨d = .tuple xs ∨∃z,d = .str z/\xs=Cf.signs z)/\n+xs.length<2^40/\xs.length<2^20 /\∀ys o',ys.Perm xs->BoxOk (n+xs.length) o'->P (.dat (.list ys)) [.own (.lst o'),.non]
theorem sc_law_strewn:FnScope ["_law_box","_law_pool","_law_found","_law_one"] ["_law_box","_law_pool"] (defScope s_law_strewn):=⟨rfl,rfl,rfl,by decide +kernel,rfl,by decide +kernel,by decide +kernel⟩
theorem ok_law_strewn(F:FunD K "_law_strewn" "_law_strewn" (defArgs s_law_strewn) (defBody s_law_strewn) (defScope s_law_strewn) dvs kws f fd)(T:Txt mg)(c_law_take:Cal P w K mg base 1 "_law_take" ["_law_box","_law_many"] R_take):FnG P w K mg base CX0 2 f fd ["_law_box","_law_pool"] (spA R_strewn):=by
 refine okD F sc_law_strewn [0] (fun args P h => ?_) (by decide) (fun cdv A outer s H E hr=>⟨_,_,(ass_cons (as_setO (i:=2) sc_law_strewn.nd rfl (by walk_at "v") (ao_lst al_nil)) (ass_cons (as_for PassesOwn.never rfl (ai_any (av 1)) (ag_name (i:=3) sc_law_strewn.nd rfl (by walk_at "v")) (ass_one (as_ins 2 (ae_call c_law_take hr.m (by rfl) (ar_bor 0 (ar_dat (ae_add (ae_lenO 2 (by rfl) T.n_len) ae_int) ar_nil))) (av 3)))) (ass_one (as_ret (av 2))))),fun args P h => ?_⟩)
 ·obtain⟨o,d,n,xs,rfl,_⟩:=h
  rfl
 ·obtain⟨o,d,n,xs,rfl,b,hd,h1,h2,q⟩:=h
  have hd':onAny (fun ys=>ys=xs) d:=by rcases hd with rfl | rfl | ⟨z,rfl,rfl⟩ <;> rfl
  walk_at "cf"
  refine⟨sz_of (by decide), ?_⟩
  refine onAny_imp hd' fun ys e => ?_
  rw [e]
  refine forL_ind (fun es env =>∃m ys o' x,m+es.length=n+xs.length/\BoxOk m o'/\(ys++es).Perm xs/\env = [.own (.lst o'),.dat d,.own (.lst ys),x]) ?_ ?_ _ _ ⟨n,[],o,.non,rfl,b,List.Perm.refl _,rfl⟩
  ·rintro env ⟨m,ys,o',x,hm,b,hp,rfl⟩
   walk_at "cf"
   rw [List.append_nil]at hp
   exact q _ _ hp (b.mono (by simp at hm;omega))
  ·rintro e es env ih ⟨m,ys,o',x,hm,b,hp,rfl⟩
   have hl:=hp.length_eq
   rw [List.length_append,List.length_cons]at hl
   rw [List.length_cons]at hm
   walk_at "cf"
   refine⟨_,_,m,rfl,b,by omega,by omega,by omega,fun v o2 hv hv2 b2 => ?_⟩
   walk_at "cf"
   refine⟨⟨sizeLine_big (by omega),hv,by omega⟩,ih _ ⟨m+1,_,_,_,by omega,b2,perm_ins.trans hp,rfl⟩⟩
def R_same(n:Nat):ASp:=fun args P =>∃d,args = [.dat d,.dat d]/\Pl n d/\P (.dat (.bool true)) [.non,.non]
theorem sc_law_same:FnScope ["_law_found","_law_due","_law_one","_law_two"] ["_law_found","_law_due"] (defScope s_law_same):=⟨rfl,rfl,rfl,by decide +kernel,rfl,by decide +kernel,by decide +kernel⟩
theorem ok_law_same(F:FunD K "_law_same" "_law_same" (defArgs s_law_same) (defBody s_law_same) (defScope s_law_same) dvs kws f fd)(T:Txt mg){n:Nat}(c_law_same:Cal P w K mg base n "_law_same" ["_law_found","_law_due"] (R_same n)):FnG P w K mg base CX0 (n+1) f fd ["_law_found","_law_due"] (spA (R_same (n+1))):=by
 refine okD F sc_law_same [] (fun args P h => ?_) (by decide) (fun cdv A outer s H E hr=>⟨_,_,(ass_cons (as_if (at_val (ae_isi2 kit_list kit_tuple (by rfl) T.n_isinstance (av 1) (by rfl) T.n_list (by decide +kernel) (by rfl) T.n_tuple (by decide +kernel))) (ass_cons (as_if (APW.pt (aw_or (at_ne (Cf.RoomG.u64 hr) (ae_isi kit_list (by rfl) T.n_isinstance (av 0) (by rfl) T.n_list (by decide +kernel)) (ae_isi kit_list (by rfl) T.n_isinstance (av 1) (by rfl) T.n_list (by decide +kernel))) (aw_or1 (at_ne (Cf.RoomG.u64 hr) (ae_isi kit_tuple (by rfl) T.n_isinstance (av 0) (by rfl) T.n_tuple (by decide +kernel)) (ae_isi kit_tuple (by rfl) T.n_isinstance (av 1) (by rfl) T.n_tuple (by decide +kernel)))))) (ass_one (as_ret ae_bl)) ass_nil) (ass_one (as_ret (ae_and (ae_eq (Cf.RoomG.u64 hr) (ae_len (by rfl) T.n_len (al_cons (av 0) al_nil)) (ae_len (by rfl) T.n_len (al_cons (av 1) al_nil))) (ae_one (ae_callB (cr_all rfl) sim_all (by rfl) T.n_all (by decide +kernel) (al_cons (AEO.frz (ao_lc rfl sc_law_same.nd (ai_zipA (by rfl) T.n_zip (al_cons (av 0) (al_cons (av 1) al_nil))) (blkOk_cx (own :=[("_law_one",2),("_law_two",3)]) (by decide +kernel)) (fun _ _ _ _ _=>(ag_tupk (K':=K) rfl (n:=2) rfl (ags_cons (ag_name (i:=2) sc_law_same.nd rfl (by walk_at "v")) (ags_cons (ag_name (i:=3) sc_law_same.nd rfl (by walk_at "v")) ags_nil)))) (fun _ _ _ _ _=>ats_nil) (fun _ _ _ _ _=>(ae_call c_law_same hr.m (by rfl) (ar_dat (av 2) (ar_dat (av 3) ar_nil)))))) al_nil))))))) ass_nil) (ass_cons (as_if (APW.pt (aw_or (at_isN (av 1)) (aw_or1 (at_isN (av 0))))) (ass_one (as_ret (ae_and (ae_isN (av 1)) (ae_one (ae_isN (av 0)))))) ass_nil) (ass_cons (as_if (APW.pt (aw_or (at_val (ae_isi kit_bool (by rfl) T.n_isinstance (av 1) (by rfl) T.n_bool (by decide +kernel))) (aw_or1 (at_val (ae_isi kit_str (by rfl) T.n_isinstance (av 1) (by rfl) T.n_str (by decide +kernel)))))) (ass_one (as_ret (ae_and (ae_eq (Cf.RoomG.u64 hr) (ae_isi kit_bool (by rfl) T.n_isinstance (av 0) (by rfl) T.n_bool (by decide +kernel)) (ae_isi kit_bool (by rfl) T.n_isinstance (av 1) (by rfl) T.n_bool (by decide +kernel))) (ae_one (ae_eq (Cf.RoomG.u64 hr) (av 0) (av 1)))))) ass_nil) (ass_one (as_ret (ae_and (ae_isi kit_int (by rfl) T.n_isinstance (av 0) (by rfl) T.n_int (by decide +kernel)) (ae_and (ae_not (ae_isi kit_bool (by rfl) T.n_isinstance (av 0) (by rfl) T.n_bool (by decide +kernel))) (ae_one (ae_eq (Cf.RoomG.u64 hr) (av 0) (av 1)))))))))),fun args P h => ?_⟩)
 ·obtain⟨d,rfl,_⟩:=h
  rfl
 ·obtain⟨d,rfl,pd,q⟩:=h
  cases pd with
  | lst ds hd hl =>
   walk_at "cf"
   simp only [isListD,isTupD,eqv_bool,eqv_int,beq_self_eq_true,Bool.not_true,Bool.or_true,Bool.true_or,Bool.false_eq_true,false_implies,true_implies,true_and,and_true,reduceCtorEq,forall_const,EqOk.bool,EqOk.int]
   refine lcL_ind (fun xs acc env =>∃es x y,∃bs:List Bool,xs=zipD es es/\(∀d∈es,Pl n d)/\acc=bs.map .bool/\(∀b∈bs,b=true)/\acc.length+es.length<=2^24/\env = [.dat (.list ds),.dat (.list ds),x,y]) ?_ ?_ _ _ _ ⟨ds,.non,.non,[],rfl,hd,rfl,(fun _ h=>nomatch h),by simpa using hl,rfl⟩
   ·rintro acc env ⟨es,x,y,bs,e1,_,rfl,hb,_,rfl⟩
    walk_at "cf"
    refine⟨bs,rfl, ?_⟩
    rw [all_rep hb]
    exact q
   ·rintro d xs acc env ih ⟨es,x,y,bs,e1,hp,rfl,hb,hl2,rfl⟩
    cases es with
    | nil=>cases e1
    | cons e es =>
     rw [zipD_cons]at e1
     cases e1
     rw [List.length_map,List.length_cons]at hl2
     walk_at "cf"
     refine⟨e,rfl,hp _ (.head _), ?_⟩
     walk_at "cf"
     refine⟨by rw [List.length_map];exact sizeLine_big (by omega),ih _ _ ⟨es,_,_,bs ++ [true],rfl,fun d hd=>hp d (.tail _ hd),by simp,fun b hb2 => ?_,by simp;omega,rfl⟩⟩
     rcases List.mem_append.mp hb2 with z | z
     ·exact hb b z
     ·simpa using z
  | tup ds hd hl =>
   walk_at "cf"
   simp only [isListD,isTupD,eqv_bool,eqv_int,beq_self_eq_true,Bool.not_true,Bool.or_true,Bool.true_or,Bool.false_eq_true,false_implies,true_implies,true_and,and_true,reduceCtorEq,forall_const,EqOk.bool,EqOk.int]
   refine lcL_ind (fun xs acc env =>∃es x y,∃bs:List Bool,xs=zipD es es/\(∀d∈es,Pl n d)/\acc=bs.map .bool/\(∀b∈bs,b=true)/\acc.length+es.length<=2^24/\env = [.dat (.tuple ds),.dat (.tuple ds),x,y]) ?_ ?_ _ _ _ ⟨ds,.non,.non,[],rfl,hd,rfl,(fun _ h=>nomatch h),by simpa using hl,rfl⟩
   ·rintro acc env ⟨es,x,y,bs,e1,_,rfl,hb,_,rfl⟩
    walk_at "cf"
    refine⟨bs,rfl, ?_⟩
    rw [all_rep hb]
    exact q
   ·rintro d xs acc env ih ⟨es,x,y,bs,e1,hp,rfl,hb,hl2,rfl⟩
    cases es with
    | nil=>cases e1
    | cons e es =>
     rw [zipD_cons]at e1
     cases e1
     rw [List.length_map,List.length_cons]at hl2
     walk_at "cf"
     refine⟨e,rfl,hp _ (.head _), ?_⟩
     walk_at "cf"
     refine⟨by rw [List.length_map];exact sizeLine_big (by omega),ih _ _ ⟨es,_,_,bs ++ [true],rfl,fun d hd=>hp d (.tail _ hd),by simp,fun b hb2 => ?_,by simp;omega,rfl⟩⟩
     rcases List.mem_append.mp hb2 with z | z
     ·exact hb b z
     ·simpa using z
  | non =>
   walk_at "cf"
   simp only [isListD,isTupD,isNone,isBoolD,isStrD,isIntD,eqv_bool,eqv_int,eqv_str,beq_self_eq_true,Bool.not_true,Bool.not_false,Bool.or_true,Bool.true_or,Bool.or_self,Bool.false_eq_true,false_implies,true_implies,true_and,and_true,reduceCtorEq,forall_const,EqOk.bool,EqOk.int,EqOk.str,implies_true,and_self,q]
  | bl b =>
   walk_at "cf"
   simp only [isListD,isTupD,isNone,isBoolD,isStrD,isIntD,eqv_bool,eqv_int,eqv_str,beq_self_eq_true,Bool.not_true,Bool.not_false,Bool.or_true,Bool.true_or,Bool.or_self,Bool.false_eq_true,false_implies,true_implies,true_and,and_true,reduceCtorEq,forall_const,EqOk.bool,EqOk.int,EqOk.str,implies_true,and_self,q]
  | int b =>
   walk_at "cf"
   simp only [isListD,isTupD,isNone,isBoolD,isStrD,isIntD,eqv_bool,eqv_int,eqv_str,beq_self_eq_true,Bool.not_true,Bool.not_false,Bool.or_true,Bool.true_or,Bool.or_self,Bool.false_eq_true,false_implies,true_implies,true_and,and_true,reduceCtorEq,forall_const,EqOk.bool,EqOk.int,EqOk.str,implies_true,and_self,q]
  | str b hb =>
   walk_at "cf"
   simp only [isListD,isTupD,isNone,isBoolD,isStrD,isIntD,eqv_bool,eqv_int,eqv_str,beq_self_eq_true,Bool.not_true,Bool.not_false,Bool.or_true,Bool.true_or,Bool.or_self,Bool.false_eq_true,false_implies,true_implies,true_and,and_true,reduceCtorEq,forall_const,EqOk.bool,EqOk.int,EqOk.str,implies_true,and_self,q]
def R_back:ASp:=fun args P =>∃l,args = [.dat (.str (tx l))]/\Lts l/\l.length<=2^16/\P (.dat (.str (tx (binv l)))) [.non]
theorem sc_law_back:FnScope ["_law_steps_here","_law_one"] ["_law_steps_here"] (defScope s_law_back):=⟨rfl,rfl,rfl,by decide +kernel,rfl,by decide +kernel,by decide +kernel⟩
theorem ok_law_back(F:FunD K "_law_back" "_law_back" (defArgs s_law_back) (defBody s_law_back) (defScope s_law_back) dvs kws f fd)(T:Txt mg):FnG P w K mg base CX0 1 f fd ["_law_steps_here"] (spA R_back):=by
 refine okD F sc_law_back [] (fun args P h => ?_) (by decide) (fun cdv A outer s H E hr=>⟨_,_,(ass_one (as_ret (ae_join ae_str (AEO.frz (ao_lc rfl sc_law_back.nd (ai_any (ae_revS (av 0))) (blkOk_cx (own :=[("_law_one",1)]) (by decide +kernel)) (fun _ _ _ _ _=>(ag_name (i:=1) sc_law_back.nd rfl (by walk_at "v"))) (fun _ _ _ _ _=>ats_nil) (fun _ _ _ _ _=>(ae_if (at_val (ae_isupper (av 1))) (ae_lower (av 1)) (ae_upper (av 1))))))))),fun args P h => ?_⟩)
 ·obtain⟨l,rfl,_⟩:=h
  rfl
 ·obtain⟨l0,rfl,hl0,hn0,q⟩:=h
  walk_at "cf"
  refine⟨sz_of (by rw [tx_len];omega), ?_⟩
  rw [rev_tx,signs_tx]
  have hl:=hl0.rev
  have hn:l0.reverse.length<=2^16:=by rw [List.length_reverse];exact hn0
  have q':P (.dat (.str (tx (l0.reverse.map inv)))) [.non]:=q
  revert hl hn q'
  generalize l0.reverse=l
  intro hl hn q'
  refine lcL_ind (fun xs acc env =>∃m r x,l=m++r/\xs=r.map sg/\acc=(m.map inv).map sg/\env = [.dat (.str (tx l0)),x]) ?_ ?_ _ _ _ ⟨[],l,.non,rfl,rfl,rfl,rfl⟩
  ·rintro acc env ⟨m,r,x,rfl,e,rfl,rfl⟩
   cases r with
   | cons _ _=>cases e
   | nil =>
    rw [List.append_nil]at hn q'
    walk_at "cf"
    refine⟨(m.map inv).map fun c=>tx [c],(by rw [map_sg]),join_ok1 (by rw [List.length_map];omega), ?_⟩
    have e:=join_tx (m.map inv)
    first
    | (rw [e];exact q')
    | (rw [show Str.ofString "" =(⟨#[]⟩:Str)from rfl,e];exact q')
  ·rintro d xs acc env ih ⟨m,r,x,rfl,e,rfl,rfl⟩
   cases r with
   | nil=>cases e
   | cons c r =>
    cases e
    have hc:=hl c (by simp)
    have hlen:m.length<2^24:=by
     rw [List.length_append]at hn
     omega
    have next:∀x,lcL _ _ _ _ _ _ _ _:=fun x=>ih ((m.map inv).map sg ++ [sg (inv c)]) [.dat (.str (tx l0)),x] ⟨m ++ [c],r,x,by simp,rfl,by simp,rfl⟩
    walk_at "cf"
    show onS _ (.str (tx [c]))
    walk_at "cf"
    rw [isupper_lt hc]
    refine⟨fun h=>⟨one_small, ?_⟩,fun h=>⟨one_small, ?_⟩⟩
    ·refine⟨by simp only [List.length_map];exact sizeLine_big hlen, ?_⟩
     rw [lower1 hc (by have:=of_decide_eq_true h;omega)]
     exact next _
    ·refine⟨by simp only [List.length_map];exact sizeLine_big hlen, ?_⟩
     rw [upper1 hc (by have:=of_decide_eq_false h;omega)]
     exact next _
def R_colours:ASp:=fun args P =>∃o m n,args = [.own (.lst o),.dat (.int m)]/\BoxOk n o/\n<2^39/\0<m/\m<=4 /\∀l o',l ≠ []->l.Nodup->(∀c∈l,Lo c)->l.length<=4->(l.length:Int)<=m->BoxOk (n+5) o'->P (.dat (.str (tx l))) [.own (.lst o'),.non]
theorem sc_law_colours:FnScope ["_law_box","_law_many"] ["_law_box","_law_many"] (defScope s_law_colours):=⟨rfl,rfl,rfl,by decide +kernel,rfl,by decide +kernel,by decide +kernel⟩
theorem ok_law_colours(F:FunD K "_law_colours" "_law_colours" (defArgs s_law_colours) (defBody s_law_colours) (defScope s_law_colours) dvs kws f fd)(T:Txt mg)(c_law_strewn:Cal P w K mg base 2 "_law_strewn" ["_law_box","_law_pool"] R_strewn)(c_law_take:Cal P w K mg base 1 "_law_take" ["_law_box","_law_many"] R_take):FnG P w K mg base CX0 3 f fd ["_law_box","_law_many"] (spA R_colours):=by
 refine okD F sc_law_colours [0] (fun args P h => ?_) (by decide) (fun cdv A outer s H E hr=>⟨_,_,(ass_one (as_ret (ae_join ae_str (ae_sl (ae_call c_law_strewn hr.m (by rfl) (ar_bor 0 (ar_dat (AEO.frz (ao_lst (al_cons ae_str (al_cons ae_str (al_cons ae_str (al_cons ae_str al_nil)))))) ar_nil))) ap_none (ap_some (ae_add ae_int (ae_call c_law_take hr.m (by rfl) (ar_bor 0 (ar_dat (av 1) ar_nil))))))))),fun args P h => ?_⟩)
 ·obtain⟨o,m,n,rfl,_⟩:=h
  rfl
 ·obtain⟨o,m,n,rfl,b,hn,hm,hm4,q⟩:=h
  walk_at "cf"
  refine⟨sz_of (by decide),_,_,n,[97,98,99,100].map sg,rfl,b,.inl rfl,by simp;omega,by simp,fun ys o1 hp b1 => ?_⟩
  obtain⟨l,rfl,hl⟩:=perm_sg hp
  have hlen:l.length=4:=hl.length_eq
  walk_at "cf"
  refine⟨_,_,n+4,rfl,b1,by omega,hm,by omega,fun v o2 hv hv2 b2 => ?_⟩
  walk_at "cf"
  obtain⟨j,rfl⟩:=Int.eq_ofNat_of_zero_le hv
  have e1:cutL (l.map sg) none (some (1+(j:Int)))=(l.take (1+j)).map sg:=by
   rw [show (1:Int)+(j:Int)=((1+j:Nat):Int)by omega,cutL_to,List.map_take]
  have hk:(l.take (1+j)).length<=4:=by rw [List.length_take];omega
  rw [e1]
  refine⟨(l.take (1+j)).map fun c=>tx [c],(by rw [map_sg]),join_ok1 (by omega), ?_⟩
  have e:=join_tx (l.take (1+j))
  have fin:=q (l.take (1+j)) o2 (fun z=>by
   have:(l.take (1+j)).length=0:=by rw [z];rfl
   rw [List.length_take]at this
   omega) ((hl.nodup_iff.mpr (by decide)).sublist (List.take_sublist _ _)) (fun c hc=>hl.mem_iff.mp (List.mem_of_mem_take hc)) hk (by rw [List.length_take];omega) b2
  first
  | (rw [e];exact fin)
  | (rw [show Str.ofString "" =(⟨#[]⟩:Str)from rfl,e];exact fin)
def R_lsteps:ASp:=fun args P =>∃o p m n,args = [.own (.lst o),.dat (.str (tx p)),.dat (.int (m:Nat))]/\BoxOk n o/\n<2^38/\p ≠ []/\(∀c∈p,Lo c)/\p.length<=8/\m<=2^7 /\∀l o',Lts l->OfH p l->l.length<=m->BoxOk (n+1+2*m) o'->P (.dat (.str (tx l))) [.own (.lst o'),.non,.non]
theorem sc_law_steps:FnScope ["_law_box","_law_pool","_law_many","_law_found","_law_turn","_law_one"] ["_law_box","_law_pool","_law_many"] (defScope s_law_steps):=⟨rfl,rfl,rfl,by decide +kernel,rfl,by decide +kernel,by decide +kernel⟩
theorem ok_law_steps(F:FunD K "_law_steps" "_law_steps" (defArgs s_law_steps) (defBody s_law_steps) (defScope s_law_steps) dvs kws f fd)(T:Txt mg)(c_law_back:Cal P w K mg base 1 "_law_back" ["_law_steps_here"] R_back)(c_law_one_of:Cal P w K mg base 2 "_law_one_of" ["_law_box","_law_pool"] R_one_of)(c_law_take:Cal P w K mg base 1 "_law_take" ["_law_box","_law_many"] R_take):FnG P w K mg base CX0 3 f fd ["_law_box","_law_pool","_law_many"] (spA R_lsteps):=by
 refine okD F sc_law_steps [0] (fun args P h => ?_) (by decide) (fun cdv A outer s H E hr=>⟨_,_,(ass_cons (as_set (i:=3) sc_law_steps.nd rfl (by walk_at "v") ae_str) (ass_cons (as_for PassesOwn.never rfl (ai_range1 (by rfl) T.n_range (al_cons (ae_call c_law_take hr.m (by rfl) (ar_bor 0 (ar_dat (ae_add (av 2) ae_int) ar_nil))) al_nil)) (ag_name (i:=4) sc_law_steps.nd rfl (by walk_at "v")) (ass_cons (as_set (i:=5) sc_law_steps.nd rfl (by walk_at "v") (ae_call c_law_one_of hr.m (by rfl) (ar_bor 0 (ar_dat (ae_add (av 1) (ae_upper (av 1))) ar_nil)))) (ass_cons (as_if (APW.pt (aw_and (at_ne (Cf.RoomG.u64 hr) (av 3) ae_str) (aw_and (at_eq (Cf.RoomG.u64 hr) (av 5) (ae_call c_law_back hr.m (by rfl) (ar_dat (ae_ix (av 3) (ae_neg ae_int)) ar_nil))) (aw_and1 (at_gt (ae_call c_law_take hr.m (by rfl) (ar_bor 0 (ar_dat ae_int ar_nil))) ae_int))))) (ass_one (as_set (i:=5) sc_law_steps.nd rfl (by walk_at "v") (ae_ix (av 3) (ae_neg ae_int)))) ass_nil) (ass_one (as_set (i:=3) sc_law_steps.nd rfl (by walk_at "v") (ae_add (av 3) (av 5))))))) (ass_one (as_ret (av 3))))),fun args P h => ?_⟩)
 ·obtain⟨o,p,m,n,rfl,_⟩:=h
  rfl
 ·obtain⟨o,p,m,n,rfl,b,hn,hp0,hp,hp4,hm,q⟩:=h
  have hp5:p.length≠0:=fun z=>hp0 (List.length_eq_zero_iff.mp z)
  walk_at "cf"
  refine⟨_,_,n,rfl,b,by omega,by omega,by omega,fun v o1 hv hv2 b1 => ?_⟩
  walk_at "cf"
  obtain⟨j,rfl⟩:=Int.eq_ofNat_of_zero_le hv
  refine⟨⟨by omega,by omega⟩, ?_⟩
  refine forL_ind (fun xs env =>∃(l:List Nat) (o1:List PyData) (x y:Cf.Sl),l.length+xs.length<=m/\OfH p l/\BoxOk (n+1+2*l.length) o1/\env = [.own (.lst o1),.dat (.str (tx p)),.dat (.int (m:Nat)),.dat (.str (tx l)),x,y]) ?_ ?_ _ _ ⟨[],o1,.non,.non,by rw [rgD_len];simp;omega,(fun _ h=>nomatch h),b1,rfl⟩
  ·rintro env ⟨l,o1,x,y,hl,hL,b1,rfl⟩
   walk_at "cf"
   have:l.length<=m:=by simpa using hl
   exact q _ _ (hL.lts hp) hL this (b1.mono (by omega))
  ·rintro d xs env ih ⟨l,o1,x,y,hl,hL,b1,rfl⟩
   rw [List.length_cons]at hl
   walk_at "cf"
   rw [upper_lts hp,tx_app]
   refine⟨by rw [tx_len];omega,sz_of (by rw [tx_len,tx_len,List.length_map];omega),_,_,n+1+2*l.length,rfl,b1,by omega,.inr ⟨_,rfl,by rw [tx_len,List.length_append];omega,by rw [tx_len,List.length_append,List.length_map];omega,fun c o2 hc b2 => ?_⟩⟩
   have hc':Lt c:=by
    rcases List.mem_append.mp hc with h | h
    ·exact(hp c h).lt
    ·obtain⟨e,he,rfl⟩:=List.mem_map.mp h
     exact inv_lt (hp e he).lt
   have hcO:OfH p [c]:=fun d hd=>by
    rw [List.mem_singleton.mp hd]
    rcases List.mem_append.mp hc with h | h
    ·exact⟨c,h,.inl rfl⟩
    ·obtain⟨e,he,ee⟩:=List.mem_map.mp h
     exact⟨e,he,.inr ee.symm⟩
   have b2':BoxOk (n+1+2*(l.length+1)) o2:=b2.mono (by omega)
   have ext:∀{c:Nat} {o3:List PyData} (x y:Cf.Sl),OfH p [c]->BoxOk (n+1+2*(l.length+1)) o3 ->∃(l':List Nat) (o1:List PyData) (x' y':Cf.Sl),l'.length+xs.length<=m/\OfH p l'/\BoxOk (n+1+2*l'.length) o1 /\
     [Sl.own (.lst o3),Sl.dat (.str (tx p)),Sl.dat (.int (m:Nat)),Sl.dat (.str (tx l++(⟨#[c]⟩:Str))),x,y] = [Sl.own (.lst o1),.dat (.str (tx p)),.dat (.int (m:Nat)),.dat (.str (tx l')),x',y']:=fun {c o3} x y hc b=>⟨l ++ [c],o3,x,y,by simp;omega,hL.app hc,by rw [List.length_append];exact b,by rw [show (⟨#[c]⟩:Str)=tx [c]from rfl,tx_app]⟩
   have szc:∀c,sz ((tx l).length+(⟨#[c]⟩:Str).length):=fun c=>sz_of (by rw [tx_len,show (⟨#[c]⟩:Str).length=1 from rfl];omega)
   walk_at "cf"
   refine⟨.str _ _,fun h => ?_,fun h=>⟨szc _,ih _ (ext _ _ hcO b2')⟩⟩
   have hz:∃z,l.getLast? =some z/\OfH p [z]:=by
    cases l with
    | nil=>exact absurd h (by decide)
    | cons a t=>exact⟨(a::t).getLast (by simp),List.getLast?_eq_some_getLast (by simp),fun d hd=>by rw [List.mem_singleton.mp hd];exact hL _ (List.getLast_mem _)⟩
   obtain⟨z,hz,hzl⟩:=hz
   refine⟨sz_of (by rw [tx_len];omega),opt_mk (show (tx l).cps.toList.getLast? =some z from hz) ?_⟩
   refine⟨[z],rfl,hzl.lts hp,by simp, ?_⟩
   walk_at "cf"
   refine⟨.str _ _,fun h2 => ?_,fun _=>⟨szc _,ih _ (ext _ _ hcO b2')⟩⟩
   refine⟨_,_,_,rfl,b2,by omega,by decide,by decide,fun v2 o3 hv3 hv4 b3 => ?_⟩
   walk_at "cf"
   refine⟨fun _ => ?_,fun _=>⟨szc _,ih _ (ext _ _ hcO (b3.mono (by omega)))⟩⟩
   exact⟨sz_of (by rw [tx_len];omega),opt_mk (show (tx l).cps.toList.getLast? =some z from hz) ⟨szc _,ih _ (ext _ _ hzl (b3.mono (by omega)))⟩⟩
def R_is_whole:ASp:=fun args P =>∃d,args = [.dat d]/\P (.dat (.bool (isWh d))) [.non]
theorem sc_law_is_whole:FnScope ["_law_odd"] ["_law_odd"] (defScope s_law_is_whole):=⟨rfl,rfl,rfl,by decide +kernel,rfl,by decide +kernel,by decide +kernel⟩
theorem ok_law_is_whole(F:FunD K "_law_is_whole" "_law_is_whole" (defArgs s_law_is_whole) (defBody s_law_is_whole) (defScope s_law_is_whole) dvs kws f fd)(T:Txt mg):FnG P w K mg base CX0 1 f fd ["_law_odd"] (spA R_is_whole):=by
 refine okD F sc_law_is_whole [] (fun args P h => ?_) (by decide) (fun cdv A outer s H E hr=>⟨_,_,(ass_one (as_ret (ae_and (ae_isi kit_int (by rfl) T.n_isinstance (av 0) (by rfl) T.n_int (by decide +kernel)) (ae_one (ae_not (ae_isi kit_bool (by rfl) T.n_isinstance (av 0) (by rfl) T.n_bool (by decide +kernel))))))),fun args P h => ?_⟩)
 ·obtain⟨d,rfl,_⟩:=h
  rfl
 ·obtain⟨d,rfl,q⟩:=h
  unfold isWh at q
  walk_at "cf"
  exact⟨fun z=>by rw [z,Bool.true_and]at q;exact q,fun z=>by rw [z,Bool.false_and]at q;exact q⟩
def colsL(ls:Lps)(l:List Nat):List Nat:=hueL ((l::ls.map (·.1)).flatten.map lowN)
theorem cols_lo{ls:Lps}{l:List Nat}:∀c∈colsL ls l,Lo c:=fun c hc=>(List.mem_filter.mp hc).1
theorem cols_way{ls:Lps}{l:List Nat}(hl:Lts l):∀s∈l,lowN s∈colsL ls l:=fun s hs =>
 List.mem_filter.mpr ⟨lowN_lo (hl s hs),decide_eq_true (List.mem_map.mpr ⟨s,List.mem_flatten.mpr ⟨l,.head _,hs⟩,rfl⟩)⟩
theorem cols_lp{ls:Lps}{l:List Nat}(h:∀lp∈ls,Lts lp.1):∀lp∈ls,∀s∈lp.1,lowN s∈colsL ls l:=fun lp hlp s hs =>
 List.mem_filter.mpr ⟨lowN_lo (h lp hlp s hs),decide_eq_true (List.mem_map.mpr ⟨s,List.mem_flatten.mpr ⟨lp.1,.tail _ (List.mem_map.mpr ⟨lp,hlp,rfl⟩),hs⟩,rfl⟩)⟩
def R_colours_in:ASp:=fun args P =>∃(ls:Lps) (l:List Nat),args = [.dat (.list (ls.map lpD)),.dat (.str (tx l))]/\ls.length<=2^8/\Lts l/\l.length<=2^14/\(∀lp∈ls,Lts lp.1/\lp.1.length<=2^14)/\P (.dat (.list ((colsL ls l).map fun c => .str (tx [c])))) [.non,.non]
theorem sc_colours_in:FnScope ["loops","way","one","step","own","purse"] ["loops","way"] (defScope s_colours_in):=⟨rfl,rfl,rfl,by decide +kernel,rfl,by decide +kernel,by decide +kernel⟩
theorem ok_colours_in(F:FunD K "colours_in" "colours_in" (defArgs s_colours_in) (defBody s_colours_in) (defScope s_colours_in) dvs kws f fd)(T:Txt mg)(c_colour_of:Cal P w K mg base 1 "colour_of" ["step"] R_colour_of):FnG P w K mg base CX0 2 f fd ["loops","way"] (spA R_colours_in):=by
 refine okD F sc_colours_in [] (fun args P h => ?_) (by decide) (fun cdv A outer s H E hr=>⟨_,_,(ass_one (as_ret (AEO.frz (ao_sortTc hr (by rfl) T.n_sorted rfl sc_colours_in.nd (ai_any (ae_add (AEO.frz (ao_lst (al_cons (av 1) al_nil))) (AEO.frz (ao_lc rfl sc_colours_in.nd (ai_any (av 0)) (blkOk_cx (own :=[("own",4),("purse",5)]) (by decide +kernel)) (fun _ _ _ _ _=>(ag_tupk (K':=K) rfl (n:=2) rfl (ags_cons (ag_name (i:=4) sc_colours_in.nd rfl (by walk_at "v")) (ags_cons (ag_name (i:=5) sc_colours_in.nd rfl (by walk_at "v")) ags_nil)))) (fun _ _ _ _ _=>ats_nil) (fun _ _ _ _ _=>(av 4)))))) (blkOk_cx (own :=[("one",2),("step",3)]) (by decide +kernel)) (fun _ _ _ _ _=>(ag_name (i:=2) sc_colours_in.nd rfl (by walk_at "v"))) (fun _ _ _ _ _=>ats_nil) (fun _ _ _ _ _=>(ai_anyk (K':=K) rfl (av 2))) (fun _ _ _ _ _=>(ag_name (i:=3) sc_colours_in.nd rfl (by walk_at "v"))) (fun _ _ _ _ _=>ats_nil) (fun _ _ _ _ _=>(ae_call c_colour_of hr.m (by rfl) (ar_dat (av 3) ar_nil))))))),fun args P h => ?_⟩)
 ·obtain⟨_,_,rfl,_⟩:=h
  rfl
 ·obtain⟨ls,l,rfl,hl,hlt,hll,hk,q⟩:=h
  walk_at "ck"
  refine lcL_m2 lpD (fun lp => .str (tx lp.1)) ls (szl (by omega)) (fun lp hlp Kt Kf hg => ?_) fun x y => ?_
  ·rw [show lpD lp = .tuple [.str (tx lp.1),pd lp.2]from rfl]
   walk_at "ck"
   exact hg _ _
  walk_at "ck"
  rw [show PyData.str (tx l)::ls.map (fun lp=>PyData.str (tx lp.1))=(l::ls.map (·.1)).map (fun l=>PyData.str (tx l))by rw [List.map_cons,List.map_map];rfl]
  have ok:∀a∈l::ls.map (·.1),Lts a/\a.length<=2^14:=fun a ha=>by
   rcases List.mem_cons.mp ha with rfl | ha
   ·exact⟨hlt,hll⟩
   ·obtain⟨lp,hlp,rfl⟩:=List.mem_map.mp ha
    exact hk lp hlp
  refine⟨sz_of (by omega), ?_⟩
  refine lcL2_ind (fun l:List Nat=>PyData.str (tx l)) (fun l=>l.map fun s => .str (tx [lowN s])) (fun env =>∃x2 x3,env = [.dat (.list (ls.map lpD)),.dat (.str (tx l)),x2,x3,.non,.non]) (2^14) (l::ls.map (·.1)) (szl (by rw [List.length_cons,List.length_map];omega)) ?_ (fun a ha=>by rw [List.length_map];exact(ok a ha).2) ?_ ⟨.non,.non,rfl⟩
  ·rintro a ha acc env Q ⟨x2,x3,rfl⟩ hacc hQ
   obtain⟨h1,h2⟩:=ok a ha
   walk_at "ck"
   rw [signs_tx]
   refine lcL_ea sg (fun s => .str (tx [lowN s])) (fun env =>∃x3,env = [.dat (.list (ls.map lpD)),.dat (.str (tx l)),.dat (.str (tx a)),x3,.non,.non]) a acc _ (by omega) ?_ ⟨.non,rfl⟩ (fun e ⟨x3,he⟩=>hQ e ⟨_,_,he⟩)
   rintro s hs env ⟨x3,rfl⟩ Kt Kf hg
   rw [show sg s = .str (tx [s])from rfl]
   walk_at "ck"
   refine⟨s,rfl,h1 s hs, ?_⟩
   walk_at "ck"
   exact⟨⟨_,lowN_lo (h1 s hs),rfl⟩,hg _ ⟨_,rfl⟩⟩
  ·rintro env ⟨x2,x3,rfl⟩
   refine⟨(l::ls.map (·.1)).flatten.map lowN, ?_,fun c hc => ?_, ?_⟩
   ·rw [List.map_map,List.map_flatten]
    rfl
   ·obtain⟨s,hs,rfl⟩:=List.mem_map.mp hc
    obtain⟨a,ha,hs⟩:=List.mem_flatten.mp hs
    exact lowN_lo ((ok a ha).1 s hs)
   ·walk_at "ck"
    exact q
def R_is_round:ASp:=fun args P =>∃(t:Tn) (many:Nat),args = [.dat (rowPD (rwI t.r)),.dat (.int (many:Nat))]/\TnOk many t/\0<many/\many<=2^20/\P (.dat (.bool true)) [.non,.non]
theorem sc_is_round:FnScope ["thing","many"] ["thing","many"] (defScope s_is_round):=⟨rfl,rfl,rfl,by decide +kernel,rfl,by decide +kernel,by decide +kernel⟩
theorem ok_is_round(F:FunD K "is_round" "is_round" (defArgs s_is_round) (defBody s_is_round) (defScope s_is_round) dvs kws f fd)(T:Txt mg)(c_is_purse:Cal P w K mg base 2 "is_purse" ["thing","sorts"] R_is_purse):FnG P w K mg base CX0 3 f fd ["thing","many"] (spA R_is_round):=by
 refine okD F sc_is_round [] (fun args P h => ?_) (by decide) (fun cdv A outer s H E hr=>⟨_,_,(ass_one (as_ret (ae_and (ae_call c_is_purse hr.m (by rfl) (ar_dat (av 0) (ar_dat (av 1) ar_nil))) (ae_one (ae_eq (Cf.RoomG.u64 hr) (AEO.frz (ao_callB (call_srtT hr) sim_srtT (by rfl) T.n_sorted (by decide +kernel) (al_cons (av 0) al_nil))) (AEO.frz (ao_lstRg rfl (by rfl) T.n_list (by rfl) T.n_range (av 1)))))))),fun args P h => ?_⟩)
 ·obtain⟨_,_,rfl,_⟩:=h
  rfl
 ·obtain⟨t,many,rfl,ht,h0,hm,q⟩:=h
  have e1:=ht.rl
  have hrw:(rwI t.r).length=many:=by rw [List.length_map];exact e1
  walk_at "ck"
  refine⟨_,_,_,rfl,.inr rfl,by omega, ?_⟩
  rw [decide_eq_true (by omega)]
  walk_at "ck"
  intro ys h1 h2
  have hys:ys=(List.range many).map fun i=>((i:Nat):Int):=range_sorted h1 h2 ((ht.perm).map _)
  have hyl:ys.length=many:=by rw [hys,List.length_map,List.length_range]
  rw [rg0,show ((List.range many).map fun i=>PyData.int (i:Nat))=ys.map .int by rw [hys,List.map_map];rfl]
  have hpl:Pl 2 (.list (ys.map .int)) := .lst _ (fun d hd=>by obtain⟨i,_,rfl⟩:=List.mem_map.mp hd;exact .int (n:=0) _) (by rw [List.length_map];omega)
  refine⟨⟨by omega,by omega⟩,EqOk.pl hpl hpl, ?_⟩
  rw [Pl.refl hpl]
  exact q
def R_sturn:ASp:=fun args P =>∃(t:Tn) (many:Nat),args = [.dat (tnD t),.dat (.int (many:Nat))]/\TnOk many t/\0<many/\many<=2^20/\P (.dat (.bool true)) [.non,.non]
theorem sc_is_turn:FnScope ["thing","many"] ["thing","many"] (defScope s_is_turn):=⟨rfl,rfl,rfl,by decide +kernel,rfl,by decide +kernel,by decide +kernel⟩
theorem ok_is_turn(F:FunD K "is_turn" "is_turn" (defArgs s_is_turn) (defBody s_is_turn) (defScope s_is_turn) dvs kws f fd)(T:Txt mg)(c_is_purse:Cal P w K mg base 2 "is_purse" ["thing","sorts"] R_is_purse)(c_is_round:Cal P w K mg base 3 "is_round" ["thing","many"] R_is_round):FnG P w K mg base CX0 4 f fd ["thing","many"] (spA R_sturn):=by
 refine okD F sc_is_turn [] (fun args P h => ?_) (by decide) (fun cdv A outer s H E hr=>⟨_,_,(ass_cons (as_if (APW.pt (aw_or (at_not (at_val (ae_isi kit_tuple (by rfl) T.n_isinstance (av 0) (by rfl) T.n_tuple (by decide +kernel)))) (aw_or (at_ne (Cf.RoomG.u64 hr) (ae_len (by rfl) T.n_len (al_cons (av 0) al_nil)) (ae_globI' (by rfl) T.c_TURN_PARTS)) (aw_or1 (at_not (at_val (ae_isi kit_str (by rfl) T.n_isinstance (ae_ix (av 0) ae_int) (by rfl) T.n_str (by decide +kernel)))))))) (ass_one (as_ret ae_bl)) ass_nil) (ass_one (as_ret (ae_and (ae_call c_is_round hr.m (by rfl) (ar_dat (ae_ix (av 0) ae_int) (ar_dat (av 1) ar_nil))) (ae_one (ae_call c_is_purse hr.m (by rfl) (ar_dat (ae_ix (av 0) ae_int) (ar_dat (av 1) ar_nil)))))))),fun args P h => ?_⟩)
 ·obtain⟨_,_,rfl,_⟩:=h
  rfl
 ·obtain⟨t,many,rfl,ht,h0,hm,q⟩:=h
  have e1:=ht.rl
  have e2:=ht.fl
  rw [show tnD t = .tuple [.str (tx [t.c]),rowPD (rwI t.r),pd t.f]from rfl]
  walk_at "ck"
  refine⟨(fun z=>by cases z),fun _=>⟨fun z=>absurd rfl z,fun _=>⟨(fun z=>by cases z),fun _ => ?_⟩⟩⟩
  refine⟨t,many,rfl,ht,h0,hm, ?_⟩
  walk_at "ck"
  refine⟨_,_,_,rfl,.inl rfl,by omega, ?_⟩
  rw [decide_eq_true (by omega)]
  walk_at "ck"
  exact q
structure DncW(many:Nat)(ts:List Tn)(fac:List Int)(m:Int):Prop where
 h0:0<many
 mb:many<=2^16
 ok:DnOk many ts
 tl:ts.length<=2^10
 fl:fac.length<=2^10
 m0:0<=m
def colD(cs:List Nat):PyData := .list (cs.map fun c => .str (tx [c]))
theorem tx1_inj{a b:Nat}(h:tx [a]=tx [b]):a=b:=by
 have:=congrArg (fun z:Str=>z.cps.toList) h
 simpa [tx]using this
theorem col_eqv(a b:List Nat):PyData.eqv (colD a) (colD b)=decide (a=b):=by
 refine Bool.eq_iff_iff.mpr (Iff.trans ?_ decide_eq_true_iff.symm)
 refine Iff.trans ?_ (eqvAll_map2 (f:=fun c:Nat=>PyData.str (tx [c])) (fun a b => ?_))
 ·unfold colD
  simp only [PyData.eqv]
 ·rw [x_evS,decide_eq_true_iff]
  exact⟨fun h=>tx1_inj h,fun h=>by rw [h]⟩
theorem col_pl{cs:List Nat}(h:∀c∈cs,Lo c)(hl:cs.length<=2^20):Pl 2 (colD cs) := .lst _ (fun d hd=>by
 obtain⟨c,hc,rfl⟩:=List.mem_map.mp hd
 exact Pl.sg (n:=0) (h c hc).lt) (by rw [List.length_map];omega)
def R_is_dance:ASp:=fun args P =>∃(many:Nat) (ts:List Tn) (fac:List Int) (m:Int) (cs:List Nat) (n:Nat),args = [.dat (dncP many ts fac m),.dat (colD cs),.dat (.int (n:Nat))]/\DncW many ts fac m/\(∀c∈cs,Lo c)/\cs.length<=2^10/\P (.dat (.bool (decide (ts.map (·.c)=cs)&&decide (fac.length=n)))) [.non,.non,.non]
theorem sc_is_dance:FnScope ["thing","colours","sorts","many","turns","factors","number","turn"] ["thing","colours","sorts"] (defScope s_is_dance):=⟨rfl,rfl,rfl,by decide +kernel,rfl,by decide +kernel,by decide +kernel⟩
theorem ok_is_dance(F:FunD K "is_dance" "is_dance" (defArgs s_is_dance) (defBody s_is_dance) (defScope s_is_dance) dvs kws f fd)(T:Txt mg)(c_is_number:Cal P w K mg base 1 "is_number" ["thing"] R_is_number)(c_is_purse:Cal P w K mg base 2 "is_purse" ["thing","sorts"] R_is_purse)(c_is_turn:Cal P w K mg base 4 "is_turn" ["thing","many"] R_sturn):FnG P w K mg base CX0 5 f fd ["thing","colours","sorts"] (spA R_is_dance):=by
 refine okD F sc_is_dance [] (fun args P h => ?_) (by decide) (fun cdv A outer s H E hr=>⟨_,_,(ass_cons (as_if (APW.pt (aw_or (at_not (at_val (ae_isi kit_tuple (by rfl) T.n_isinstance (av 0) (by rfl) T.n_tuple (by decide +kernel)))) (aw_or1 (at_ne (Cf.RoomG.u64 hr) (ae_len (by rfl) T.n_len (al_cons (av 0) al_nil)) (ae_globI' (by rfl) T.c_DANCE_PARTS))))) (ass_one (as_ret ae_bl)) ass_nil) (ass_cons (as_asg (av 0) (ag_tup (n:=4) rfl (ags_cons (ag_name (i:=3) sc_is_dance.nd rfl (by walk_at "v")) (ags_cons (ag_name (i:=4) sc_is_dance.nd rfl (by walk_at "v")) (ags_cons (ag_name (i:=5) sc_is_dance.nd rfl (by walk_at "v")) (ags_cons (ag_name (i:=6) sc_is_dance.nd rfl (by walk_at "v")) ags_nil)))))) (ass_cons (as_if (APW.pt (aw_or (at_not (at_val (ae_call c_is_number hr.m (by rfl) (ar_dat (av 3) ar_nil)))) (aw_or (at_lt (av 3) ae_int) (aw_or1 (at_not (at_val (ae_isi kit_list (by rfl) T.n_isinstance (av 4) (by rfl) T.n_list (by decide +kernel)))))))) (ass_one (as_ret ae_bl)) ass_nil) (ass_cons (as_if (APW.pt (aw_or (at_not (at_val (ae_callB (cr_all rfl) sim_all (by rfl) T.n_all (by decide +kernel) (al_cons (AEO.frz (ao_lc rfl sc_is_dance.nd (ai_any (av 4)) (blkOk_cx (own :=[("turn",7)]) (by decide +kernel)) (fun _ _ _ _ _=>(ag_name (i:=7) sc_is_dance.nd rfl (by walk_at "v"))) (fun _ _ _ _ _=>ats_nil) (fun _ _ _ _ _=>(ae_call c_is_turn hr.m (by rfl) (ar_dat (av 7) (ar_dat (av 3) ar_nil)))))) al_nil)))) (aw_or1 (at_ne (Cf.RoomG.u64 hr) (AEO.frz (ao_lc rfl sc_is_dance.nd (ai_any (av 4)) (blkOk_cx (own :=[("turn",7)]) (by decide +kernel)) (fun _ _ _ _ _=>(ag_name (i:=7) sc_is_dance.nd rfl (by walk_at "v"))) (fun _ _ _ _ _=>ats_nil) (fun _ _ _ _ _=>(ae_ixk (K':=K) rfl (av 7) ae_int)))) (av 1))))) (ass_one (as_ret ae_bl)) ass_nil) (ass_one (as_ret (ae_and (ae_call c_is_purse hr.m (by rfl) (ar_dat (av 5) (ar_dat (av 2) ar_nil))) (ae_and (ae_call c_is_number hr.m (by rfl) (ar_dat (av 6) ar_nil)) (ae_one (ae_ge (av 6) ae_int)))))))))),fun args P h => ?_⟩)
 ·obtain⟨_,_,_,_,_,_,rfl,_⟩:=h
  rfl
 ·obtain⟨many,ts,fac,m,cs,n,rfl,hD,hc,hcl,q⟩:=h
  rw [show dncP many ts fac m = .tuple [.int (many:Nat),.list (ts.map tnD),pd fac,.int m]from rfl]
  have h0:=hD.h0
  have hmb:=hD.mb
  have htl:=hD.tl
  have hfl:=hD.fl
  have hm0:=hD.m0
  walk_at "ck"
  refine⟨(fun z=>by cases z),fun _=>⟨fun z=>absurd rfl z,fun _ => ?_⟩⟩
  refine⟨_,rfl, ?_⟩
  walk_at "ck"
  refine⟨(fun z=>by cases z),fun _=>⟨fun z=>absurd z (by omega),fun _=>⟨(fun z=>by cases z),fun _ => ?_⟩⟩⟩
  refine lcL_m1 tnD (fun _ => .bool true) ts (szl (by omega)) (fun t ht Kt Kf hg => ?_) fun x => ?_
  ·walk_at "ck"
   refine⟨t,many,rfl,hD.ok t ht,h0,by omega, ?_⟩
   walk_at "ck"
   exact hg _
  rw [show ts.map (fun _=>PyData.bool true)=(ts.map fun _=>true).map .bool by rw [List.map_map];rfl]
  walk_at "ck"
  refine⟨_,rfl, ?_⟩
  rw [all_rep (by intro b hb;obtain⟨_,_,rfl⟩:=List.mem_map.mp hb;rfl)]
  walk_at "ck"
  refine lcL_m1 tnD (fun t => .str (tx [t.c])) ts (szl (by omega)) (fun t ht Kt Kf hg => ?_) fun x => ?_
  ·rw [show tnD t = .tuple [.str (tx [t.c]),rowPD (rwI t.r),pd t.f]from rfl]
   walk_at "ck"
   exact hg _
  walk_at "ck"
  have et:PyData.list (ts.map fun t=>PyData.str (tx [t.c]))=colD (ts.map (·.c)):=by unfold colD;rw [List.map_map];rfl
  rw [et,col_eqv]
  have hlo:∀c∈ts.map (·.c),Lo c:=fun c hc=>by
   obtain⟨t,ht,rfl⟩:=List.mem_map.mp hc
   exact(hD.ok t ht).lo
  refine⟨EqOk.pl (col_pl hlo (by rw [List.length_map];omega)) (col_pl hc (by omega)),fun z => ?_,fun z => ?_⟩
  ·rw [z]at q
   exact q
  ·rw [z,Bool.true_and]at q
   refine⟨_,_,_,rfl,.inl rfl,by omega, ?_⟩
   rw [show decide ((fac.length:Int)=(n:Int))=decide (fac.length=n)from decide_eq_decide.mpr (by omega)]
   walk_at "ck"
   refine⟨fun y => ?_,fun y => ?_⟩
   ·rw [decide_eq_true y]at q
    refine⟨_,rfl, ?_⟩
    walk_at "ck"
    refine⟨fun _ => ?_,fun u=>by cases u⟩
    rw [decide_eq_true (by omega)]
    exact q
   ·rw [decide_eq_false y]at q
    exact q
def prI(a:Nat×Int):PyData := .tuple [.int (a.1:Nat),.int a.2]
def StpsD(many:Nat)(ts:List Tn)(kvs:List (Key×PyData)):Prop :=∀(s:Nat) (t:Tn),Lt s->turnAt ts s=some t->getK kvs (.inr (tx [s]))=some (.list ((List.range many).map fun x=>prI (oneT t s x)))
def stpD(kvs:List (Key×PyData)):PyData := .dict (kvs.map fun p=>(keyD p.1,p.2))
theorem zip_dat{many:Nat}{t:Tn}(h:TnOk many t):zipPD ((rwI t.r).map PyData.int) (t.f.map PyData.int)=(List.range many).map fun x=>prI (forthT t x):=by
 have e:=zip_turn h
 unfold zipPD
 rw [List.zipWith_map,List.zipWith_map_left,show (List.range many).map (fun x=>prI (forthT t x))=((List.range many).map fun x=>forthT t x).map prI by rw [List.map_map];rfl,<- e,List.zip,List.map_zipWith]
 rfl
theorem enum_dat(m:Nat)(f:Nat->PyData):enumD ((List.range m).map f)=(List.range m).map fun x=>PyData.tuple [.int (x:Nat),f x]:=by
 refine List.ext_getElem? fun i => ?_
 by_cases h:i<m
 ·rw [enumD_get (d:=f i) (by rw [List.getElem?_map,List.getElem?_range h];rfl),List.getElem?_map,List.getElem?_range h]
  rfl
 ·unfold enumD
  rw [List.getElem?_eq_none (by rw [List.length_map,List.length_zipIdx,List.length_map,List.length_range];omega),List.getElem?_eq_none (by rw [List.length_map,List.length_range];omega)]
theorem lo_up:∀{c:Nat},Lo c->97<=c /\¬97<=Cf.inv c:=by
 have:∀c ∈ [97,98,99,100],97<=c /\¬97<=Cf.inv c:=by decide
 exact fun {c} h=>this c h
structure StpsI(many:Nat)(ts:List Tn)(kvs:List (Key×PyData)):Prop where
 len:kvs.length<=2*ts.length
 fo:∀t∈ts,getK kvs (.inr (tx [t.c]))=some (.list ((List.range many).map fun x=>prI (forthT t x)))
 ba:∀t∈ts,getK kvs (.inr (tx [Cf.inv t.c]))=some (.list ((List.range many).map fun x=>prI (backT t x)))
theorem StpsI.nil{many:Nat}:StpsI many [] []:=⟨Nat.le_refl _,(fun _ h=>nomatch h),(fun _ h=>nomatch h)⟩
theorem StpsI.step{many:Nat}{ts:List Tn}{kvs:List (Key×PyData)}{t:Tn}(h:StpsI many ts kvs)(lo:∀u∈ts,Lo u.c)(hl:Lo t.c)(hn:t.c∉ts.map (·.c)) :
  StpsI many (ts ++ [t]) (putD (putD kvs (.inr (tx [t.c])) (.list ((List.range many).map fun x=>prI (forthT t x)))) (.inr (tx [Cf.inv t.c])) (.list ((List.range many).map fun x=>prI (backT t x)))):=by
 have ne:∀{a b:Nat},a≠b->(Sum.inr (tx [a]):Key) ≠ .inr (tx [b]):=fun {a b} h z=>h (tx1_inj (Sum.inr.inj z))
 have ul:=lo_up hl
 refine⟨?_,fun u hu => ?_,fun u hu => ?_⟩
 ·have h1:=h.len
  rw [List.length_append,List.length_singleton]
  rw [putD_len]
  have h2:=putD_len kvs (.inr (tx [t.c])) (.list ((List.range many).map fun x=>prI (forthT t x)))
  split <;> rw [h2] <;> split <;> omega
 ·rw [getK_put,getK_put]
  rcases List.mem_append.mp hu with z | z
  ·have hz:=(lo_up (lo u z)).1
   have n1:(Sum.inr (tx [u.c]):Key) ≠ .inr (tx [Cf.inv t.c]):=ne fun e=>ul.2 (by rw [<- e];exact hz)
   have n2:(Sum.inr (tx [u.c]):Key) ≠ .inr (tx [t.c]):=ne fun e=>hn (by rw [<- e];exact List.mem_map.mpr ⟨u,z,rfl⟩)
   rw [if_neg n1,if_neg n2]
   exact h.fo u z
  ·have n1:(Sum.inr (tx [t.c]):Key) ≠ .inr (tx [Cf.inv t.c]):=ne fun e=>ul.2 (by rw [<- e];exact ul.1)
   rw [List.mem_singleton.mp z,if_neg n1,if_pos rfl]
 ·rw [getK_put,getK_put]
  rcases List.mem_append.mp hu with z | z
  ·have hz:=(lo_up (lo u z)).2
   have n1:(Sum.inr (tx [Cf.inv u.c]):Key) ≠ .inr (tx [Cf.inv t.c]):=ne fun e=>hn (by rw [<- inv_inj (lo u z) hl e];exact List.mem_map.mpr ⟨u,z,rfl⟩)
   have n2:(Sum.inr (tx [Cf.inv u.c]):Key) ≠ .inr (tx [t.c]):=ne fun e=>hz (by rw [e];exact ul.1)
   rw [if_neg n1,if_neg n2]
   exact h.ba u z
  ·rw [List.mem_singleton.mp z,if_pos rfl]
theorem lt_side:∀{s:Nat},Lt s->(97<=s->lowN s=s)/\(¬97<=s->s=Cf.inv (lowN s)):=by
 have:∀c ∈ [97,98,99,100,65,66,67,68],(97<=c->lowN c=c)/\(¬97<=c->c=Cf.inv (lowN c)):=by decide
 exact fun {c} h=>this c h
theorem StpsI.done{many:Nat}{ts:List Tn}{kvs:List (Key×PyData)}(h:StpsI many ts kvs)(nd:(ts.map (·.c)).Nodup):StpsD many ts kvs:=fun s t hs ht=>by
 have hm:=List.mem_of_find?_eq_some ht
 have hc:t.c=lowN s:=by simpa using List.find?_some ht
 by_cases z:97<=s
 ·have e:=h.fo t hm
  rw [hc,(lt_side hs).1 z]at e
  rw [e,show (fun x=>prI (oneT t s x))=fun x=>prI (forthT t x)from funext fun x=>congrArg prI (if_pos z)]
 ·have e:=h.ba t hm
  rw [hc,<- (lt_side hs).2 z]at e
  rw [e,show (fun x=>prI (oneT t s x))=fun x=>prI (backT t x)from funext fun x=>congrArg prI (if_neg z)]
theorem x_onSlK(P:PyData->Prop)(kvs:List (Key×PyData)):onSl P (.own (.dK kvs))=P (stpD kvs):=rfl
def R_steps_in:ASp:=fun args P =>∃(many:Nat) (ts:List Tn),args = [.dat (.list (ts.map tnD))]/\DnOk many ts/\(ts.map (·.c)).Nodup/\0<many/\many<=2^16/\ts.length<=2^10 /\∀kvs,StpsD many ts kvs->kvs.length<=2^12->P (.own (.dK kvs)) [.non]
theorem sc_steps_in:FnScope ["turns","found","colour","row","fares","back","there","here","fare"] ["turns"] (defScope s_steps_in):=⟨rfl,rfl,rfl,by decide +kernel,rfl,by decide +kernel,by decide +kernel⟩
theorem ok_steps_in(F:FunD K "steps_in" "steps_in" (defArgs s_steps_in) (defBody s_steps_in) (defScope s_steps_in) dvs kws f fd)(T:Txt mg):FnG P w K mg base CX0 2 f fd ["turns"] (spA R_steps_in):=by
 refine okD F sc_steps_in [] (fun args P h => ?_) (by decide) (fun cdv A outer s H E hr=>⟨_,_,(ass_cons (as_setO (i:=1) sc_steps_in.nd rfl (by walk_at "v") ao_d0) (ass_cons (as_for PassesOwn.never rfl (ai_any (av 0)) (ag_tup (n:=3) rfl (ags_cons (ag_name (i:=2) sc_steps_in.nd rfl (by walk_at "v")) (ags_cons (ag_name (i:=3) sc_steps_in.nd rfl (by walk_at "v")) (ags_cons (ag_name (i:=4) sc_steps_in.nd rfl (by walk_at "v")) ags_nil)))) (ass_cons (as_setK 1 (Cf.RoomG.u64 hr) (AEO.frz (ao_lstZip rfl (by rfl) T.n_list (by rfl) T.n_zip (al_cons (av 3) (al_cons (av 4) al_nil)))) (av 2)) (ass_cons (as_set (i:=5) sc_steps_in.nd rfl (by walk_at "v") (AEO.frz (ao_callB (cr_sortD hr) sim_sortD (by rfl) T.n_sorted (by decide +kernel) (al_cons (AEO.frz (ao_lc rfl sc_steps_in.nd (ai_enumB (by rfl) T.n_enumerate (al_cons (ae_getK 1 (Cf.RoomG.u64 hr) (av 2)) al_nil)) (blkOk_cx (own :=[("here",7),("there",6),("fare",8)]) (by decide +kernel)) (fun _ _ _ _ _=>(ag_tupk (K':=K) rfl (n:=2) rfl (ags_cons (ag_name (i:=7) sc_steps_in.nd rfl (by walk_at "v")) (ags_cons (ag_tupk (K':=K) rfl (n:=2) rfl (ags_cons (ag_name (i:=6) sc_steps_in.nd rfl (by walk_at "v")) (ags_cons (ag_name (i:=8) sc_steps_in.nd rfl (by walk_at "v")) ags_nil))) ags_nil)))) (fun _ _ _ _ _=>ats_nil) (fun _ _ _ _ _=>(ae_tup (al_cons (av 6) (al_cons (av 7) (al_cons (ae_neg (av 8)) al_nil))))))) al_nil)))) (ass_one (as_setK 1 (Cf.RoomG.u64 hr) (AEO.frz (ao_lc rfl sc_steps_in.nd (ai_any (av 5)) (blkOk_cx (own :=[("there",6),("here",7),("fare",8)]) (by decide +kernel)) (fun _ _ _ _ _=>(ag_tupk (K':=K) rfl (n:=3) rfl (ags_cons (ag_name (i:=6) sc_steps_in.nd rfl (by walk_at "v")) (ags_cons (ag_name (i:=7) sc_steps_in.nd rfl (by walk_at "v")) (ags_cons (ag_name (i:=8) sc_steps_in.nd rfl (by walk_at "v")) ags_nil))))) (fun _ _ _ _ _=>ats_nil) (fun _ _ _ _ _=>(ae_tup (al_cons (av 7) (al_cons (av 8) al_nil)))))) (ae_upper (av 2))))))) (ass_one (as_retO (ao_move 1))))),fun args P h => ?_⟩)
 ·obtain⟨_,_,rfl,_⟩:=h
  rfl
 ·obtain⟨many,ts,rfl,hD,nd,h0,hm,hl,q⟩:=h
  walk_at "ck"
  refine forL_st tnD ts (fun d r env =>∃(kvs:List (Key×PyData)) (x2 x3 x4 x5 x6 x7 x8:Cf.Sl),StpsI many d kvs/\env = [.dat (.list (ts.map tnD)),.own (.dK kvs),x2,x3,x4,x5,x6,x7,x8]) ?_ ?_ ⟨[],_,_,_,_,_,_,_,StpsI.nil,rfl⟩
  ·rintro env ⟨kvs,x2,x3,x4,x5,x6,x7,x8,hI,rfl⟩
   walk_at "ck"
   exact q kvs (hI.done nd) (Nat.le_trans hI.len (by omega))
  ·rintro d t r env G e0 ⟨kvs,x2,x3,x4,x5,x6,x7,x8,hI,rfl⟩ hG
   have ht:TnOk many t:=hD t (by rw [e0];simp)
   have hrl:=ht.rl
   have hfl:=ht.fl
   rw [show tnD t = .tuple [.str (tx [t.c]),rowPD (rwI t.r),pd t.f]from rfl]
   walk_at "ck"
   rw [show pd t.f = .tuple (t.f.map .int)from rfl]
   walk_at "ck"
   have hdl:=congrArg List.length e0
   rw [List.length_append,List.length_cons]at hdl
   have hkl:=hI.len
   refine⟨by omega,sizeLine_big (by omega), ?_⟩
   rw [zip_dat ht]
   refine opt_mk (by rw [getK_put,if_pos rfl]) ?_
   walk_at "ck"
   rw [enum_dat]
   obtain⟨kv1,hk1⟩:∃z,putD kvs (.inr (tx [t.c])) (.list ((List.range many).map fun x=>prI (forthT t x)))=z:=⟨_,rfl⟩
   have hk2:kv1.length<=2*d.length+1:=by
    rw [<- hk1,putD_len]
    split <;> omega
   have hlo:∀u∈ts,Lo u.c:=fun u hu=>(hD u hu).lo
   have hst:=hI.step (t:=t) (fun u hu=>hlo u (by rw [e0];simp [hu])) (hlo t (by rw [e0];simp)) (fun z=>by
    have:=nd
    rw [e0,List.map_append,List.map_cons]at this
    exact(List.nodup_append.mp this).2.2 _ z _ (by simp) rfl)
   rw [hk1]at hst ⊢
   refine lcL_em (fun x=>PyData.tuple [PyData.int (x:Nat),prI (forthT t x)]) (fun x=>triD [((forthT t x).1:Int),(x:Int),-(forthT t x).2]) (List.range many) (fun env =>∃y6 y7 y8,env = [.dat (.list (ts.map tnD)),.own (.dK kv1),.dat (.str (tx [t.c])),.dat (rowPD (rwI t.r)),.dat (.tuple (t.f.map .int)),x5,y6,y7,y8]) (szl (by rw [List.length_range];omega)) ?_ ?_ ⟨_,_,_,rfl⟩
   ·rintro x hx env ⟨y6,y7,y8,rfl⟩ Kt Kf hg
    rw [show prI (forthT t x) = .tuple [.int ((forthT t x).1:Nat),.int (forthT t x).2]from rfl]
    walk_at "ck"
    exact hg _ ⟨_,_,_,rfl⟩
   rintro env ⟨y6,y7,y8,rfl⟩
   have sb:=srt_back ht
   have eb:(List.range many).map (fun x=>triD [((forthT t x).1:Int),(x:Int),-(forthT t x).2])=t.r.map fun y=>triD (bkF t y):=by
    have:=congrArg (fun z=>z.map triD) (back_turn ht)
    rw [List.map_map,List.map_map]at this
    exact this
   rw [eb]
   refine⟨sb.1, ?_⟩
   rw [sb.2]
   walk_at "ck"
   refine lcL_em (fun y=>triD (bkF t y)) (fun y=>prI (backT t y)) (List.range many) (fun env =>∃y5 y6 y7 y8,env = [.dat (.list (ts.map tnD)),.own (.dK kv1),.dat (.str (tx [t.c])),.dat (rowPD (rwI t.r)),.dat (.tuple (t.f.map .int)),y5,y6,y7,y8]) (szl (by rw [List.length_range];omega)) ?_ ?_ ⟨_,_,_,_,rfl⟩
   ·rintro y hy env ⟨y5,y6,y7,y8,rfl⟩ Kt Kf hg
    rw [show triD (bkF t y) = .tuple [.int (y:Nat),.int (t.r.idxOf y:Nat),.int (-t.f.getD (t.r.idxOf y) 0)]from rfl]
    walk_at "ck"
    exact hg _ ⟨_,_,_,_,rfl⟩
   rintro env ⟨y5,y6,y7,y8,rfl⟩
   walk_at "ck"
   refine⟨by rw [tx_len,List.length_singleton];decide,sizeLine_big (by omega), ?_⟩
   rw [upper_lts (l :=[t.c]) (fun c hc=>by rw [List.mem_singleton.mp hc];exact hlo t (by rw [e0];simp))]
   exact hG _ ⟨_,_,_,_,_,_,_,_,hst,rfl⟩
def R_dncd:ASp:=fun args P =>∃(many:Nat) (ts:List Tn) (kvs:List (Key×PyData)) (l:List Nat),args = [.dat (stpD kvs),.dat (.str (tx l))]/\StpsD many ts kvs/\DnOk many ts/\0<many/\many<=2^16/\kvs.length<=2^12/\Lts l/\l.length<=2^14/\(∀s∈l,lowN s∈ts.map (·.c))/\P (.dat (prI (dncL ts l 0 0))) [.non,.non]
theorem sc_danced:FnScope ["steps","way","here","paid","step","fare"] ["steps","way"] (defScope s_danced):=⟨rfl,rfl,rfl,by decide +kernel,rfl,by decide +kernel,by decide +kernel⟩
theorem ok_danced(F:FunD K "danced" "danced" (defArgs s_danced) (defBody s_danced) (defScope s_danced) dvs kws f fd)(T:Txt mg):FnG P w K mg base CX0 2 f fd ["steps","way"] (spA R_dncd):=by
 refine okD F sc_danced [] (fun args P h => ?_) (by decide) (fun cdv A outer s H E hr=>⟨_,_,(ass_cons (as_asg (ae_tup (al_cons ae_int (al_cons ae_int al_nil))) (ag_tup (n:=2) rfl (ags_cons (ag_name (i:=2) sc_danced.nd rfl (by walk_at "v")) (ags_cons (ag_name (i:=3) sc_danced.nd rfl (by walk_at "v")) ags_nil)))) (ass_cons (as_for PassesOwn.never rfl (ai_any (av 1)) (ag_name (i:=4) sc_danced.nd rfl (by walk_at "v")) (ass_cons (as_asg (ae_ix (ae_dget (Cf.RoomG.u64 hr) (av 0) (av 4)) (av 2)) (ag_tup (n:=2) rfl (ags_cons (ag_name (i:=2) sc_danced.nd rfl (by walk_at "v")) (ags_cons (ag_name (i:=5) sc_danced.nd rfl (by walk_at "v")) ags_nil)))) (ass_one (as_aug (i:=3) sc_danced.nd rfl (by walk_at "v") (av 5) ip_add)))) (ass_one (as_ret (ae_tup (al_cons (av 2) (al_cons (av 3) al_nil))))))),fun args P h => ?_⟩)
 ·obtain⟨_,_,_,_,rfl,_⟩:=h
  rfl
 ·obtain⟨many,ts,kvs,l,rfl,hS,hD,h0,hm,hk,hl,hll,hc,q⟩:=h
  walk_at "ck"
  rw [signs_tx]
  refine forL_st sg l (fun d r env =>∃(x4 x5:Cf.Sl),env = [.dat (stpD kvs),.dat (.str (tx l)),.dat (.int ((dncL ts d 0 0).1:Nat)),.dat (.int (dncL ts d 0 0).2),x4,x5]) ?_ ?_ ⟨_,_,rfl⟩
  ·rintro env ⟨x4,x5,rfl⟩
   walk_at "ck"
   exact q
  ·rintro d s r env G e0 ⟨x4,x5,rfl⟩ hG
   have hs:Lt s:=hl s (by rw [e0];simp)
   have hx:=dnc_lt hD d 0 0 h0
   have ed:dncL ts (d ++ [s]) 0 0=((stepT ts s (dncL ts d 0 0).1).1,(dncL ts d 0 0).2+(stepT ts s (dncL ts d 0 0).1).2):=by rw [dnc_app];rfl
   rw [ed]at hG
   generalize dncL ts d 0 0=y at hx hG ⊢
   obtain⟨x,p⟩:=y
   have hx:x<many:=hx
   obtain⟨t,ht⟩:∃t,turnAt ts s=some t:=by
    obtain⟨t,h1,h2⟩:=List.mem_map.mp (hc s (by rw [e0];simp))
    unfold turnAt
    cases h:ts.find? fun t=>decide (t.c=lowN s)with
    | some t=>exact⟨t,rfl⟩
    | none=>exact absurd h2 (by simpa using List.find?_eq_none.mp h t h1)
   have gt:=hS s t hs ht
   have est:stepT ts s x=oneT t s x:=by unfold stepT;rw [ht]
   rw [est]at hG
   rw [show sg s = .str (tx [s])from rfl]
   walk_at "ck"
   rw [show stpD kvs = .dict (kvs.map fun p=>(keyD p.1,p.2))from rfl]
   walk_at "ck"
   rw [gt,show (some (PyData.list ((List.range many).map fun x=>prI (oneT t s x))):Option PyData)=some (PyData.list ((List.range many).map fun x=>prI (oneT t s x)))from rfl]
   walk_at "ck"
   refine opt_mk (atI_map (f:=fun x=>prI (oneT t s x)) (by rw [List.getElem?_range hx])) ?_
   rw [show prI (oneT t s x) = .tuple [.int ((oneT t s x).1:Nat),.int (oneT t s x).2]from rfl]
   walk_at "ck"
   exact hG _ ⟨_,_,rfl⟩
def homeB(ts:List Tn)(fac:List Int)(m:Int)(l:List Nat)(p:List Int):Bool:=decide ((dncL ts l 0 0).1=0)&&isMul ((dncL ts l 0 0).2-dotL p fac) m
def R_leads_home:ASp:=fun args P =>∃(many:Nat) (ts:List Tn) (kvs:List (Key×PyData)) (fac:List Int) (m:Int) (l:List Nat) (p:List Int),args = [.dat (.str (tx l)),.dat (pd p),.dat (stpD kvs),.dat (.int m),.dat (pd fac)]/\StpsD many ts kvs/\DnOk many ts/\0<many/\many<=2^16/\kvs.length<=2^12/\Lts l/\l.length<=2^14/\(∀s∈l,lowN s∈ts.map (·.c))/\p.length<=2^10/\(∀x∈p,∀y∈fac,Cf.MulOk x y)/\P (.dat (.bool (homeB ts fac m l p))) [.non,.non,.non,.non,.non]
theorem sc_leads_home:NdefX.NScope ["own","purse","steps","number","factors","here","paid"] ["own","purse"] ["steps","number","factors"] (C8.fnScope s_leads_home):=NdefX.nscope_by (by decide +kernel)
theorem len_leads_home:∀(args:List Sl) (P:Sl->List Sl->Prop),R_leads_home args P->args.length=5:=by
 intro args P h
 ·obtain⟨_,_,_,_,_,_,_,rfl,_⟩:=h
  rfl
theorem ok_leads_home{f c:Addr}{q:Str}{cl:List (Str×Addr)}(T:Txt mg)(c_count_of:Cal P w K mg base 1 "count_of" ["purse","factors"] R_count_of)(c_danced:Cal P w K mg base 2 "danced" ["steps","way"] R_dncd)(c_is_multiple:Cal P w K mg base 1 "is_multiple" ["count","number"] R_is_multiple):NOg P w K mg base CX0 4 f (NdefX.NF.of s_leads_home "leads_home" q cl c) ["own","purse"] ["steps","number","factors"] R_leads_home:=by
 refine okN sc_leads_home (fun _ _ _ us hl=>match us,hl with | [_,_],_=>rfl) len_leads_home (fun A outer s H E hr=>⟨_,_,(ass_cons (as_asg (ae_call c_danced hr.m (by rfl) (ar_dat (av 2) (ar_dat (av 0) ar_nil))) (ag_tup (n:=2) rfl (ags_cons (ag_name (i:=5) sc_leads_home.nd rfl (by walk_at "v")) (ags_cons (ag_name (i:=6) sc_leads_home.nd rfl (by walk_at "v")) ags_nil)))) (ass_one (as_ret (ae_and (ae_eq (Cf.RoomG.u64 hr) (av 5) ae_int) (ae_one (ae_call c_is_multiple hr.m (by rfl) (ar_dat (ae_sub (av 6) (ae_call c_count_of hr.m (by rfl) (ar_dat (av 1) (ar_dat (av 4) ar_nil)))) (ar_dat (av 3) ar_nil)))))))),fun args P h => ?_⟩)
 ·obtain⟨many,ts,kvs,fac,m,l,p,rfl,hS,hD,h0,hm,hk,hl,hll,hc,hp,hmo,q⟩:=h
  walk_at "ck"
  refine⟨many,ts,kvs,l,rfl,hS,hD,h0,hm,hk,hl,hll,hc, ?_⟩
  rw [show prI (dncL ts l 0 0) = .tuple [.int ((dncL ts l 0 0).1:Nat),.int (dncL ts l 0 0).2]from rfl]
  unfold homeB at q
  generalize dncL ts l 0 0=y at q ⊢
  walk_at "ck"
  refine⟨fun z => ?_,fun z => ?_⟩
  ·rw [decide_eq_true (show y.1=0 by omega),Bool.true_and]at q
   refine⟨p,fac,rfl,by omega,hmo, ?_⟩
   walk_at "ck"
   refine⟨_,_,rfl, ?_⟩
   walk_at "ck"
   exact q
  ·rw [decide_eq_false (show ¬y.1=0 by omega),Bool.false_and]at q
   exact q
def showsDn(ls:Lps)(l:List Nat)(pr:List Int)(ts:List Tn)(fac:List Int)(m:Int):Bool:=decide (ts.map (·.c)=colsL ls l)&&decide (fac.length=pr.length)&&(ls.all fun lp=>homeB ts fac m lp.1 lp.2) && !homeB ts fac m l pr
def R_shows_dance:ASp:=fun args P =>∃(n:Nat) (ls:Lps) (l:List Nat) (pr:List Int) (many:Nat) (ts:List Tn) (fac:List Int) (m:Int),args = [.dat (.list (ls.map lpD)),.dat (.str (tx l)),.dat (pd pr),.dat (dncP many ts fac m)]/\DncW many ts fac m/\n<=2^10/\ls.length<=2^8/\(∀lp∈ls,Lts lp.1/\lp.1.length<=2^14/\lp.2.length=n /\∀x∈lp.2,∀y∈fac,Cf.MulOk x y)/\Lts l/\l.length<=2^14/\pr.length=n/\(∀x∈pr,∀y∈fac,Cf.MulOk x y)/\P (.dat (.bool (showsDn ls l pr ts fac m))) [.non,.non,.non,.non]
theorem sc_shows_dance:FnScope ["loops","way","price","thing","many","turns","factors","number","steps","leads_home","own","purse","_tab"] ["loops","way","price","thing"] (defScope s_shows_dance):=⟨rfl,rfl,rfl,by decide +kernel,rfl,by decide +kernel,by decide +kernel⟩
theorem ok_shows_dance{c0 P0:Addr}(F:FunD K "shows_dance" "shows_dance" (defArgs s_shows_dance) (defBody s_shows_dance) (defScope s_shows_dance) dvs kws f fd)(T:Txt mg)(c_colours_in:Cal P w K mg base 2 "colours_in" ["loops","way"] R_colours_in)(c_is_dance:Cal P w K mg base 5 "is_dance" ["thing","colours","sorts"] R_is_dance)(c_steps_in:Cal P w K mg base 2 "steps_in" ["turns"] R_steps_in)(TB:LamX.TabB base mg c0 P0)(hcd:∀cdv,CodeAt K f "shows_dance" cdv->cdv = .ref c0)(nf_leads_home:∀{q:Str} {cl:List (Str×Addr)} (f c:Addr),NOg P w K mg base CX0 4 f (NdefX.NF.of s_leads_home "leads_home" q cl c) ["own","purse"] ["steps","number","factors"] R_leads_home):FnG P w K mg base CX0 6 f fd ["loops","way","price","thing"] (spT P0 nmT R_shows_dance):=by
 refine okT F sc_shows_dance [] (fun args P h => ?_) (by decide) (by decide) (fun cdv A outer s H E hcode hr => ?_)
 ·obtain⟨_,_,_,_,_,_,_,_,rfl,_⟩:=h
  rfl
 obtain rfl:=hcd cdv hcode
 refine⟨_,_,(ass_cons (as_if (at_not (at_val (ae_call c_is_dance hr.m (by rfl) (ar_dat (av 3) (ar_dat (ae_call c_colours_in hr.m (by rfl) (ar_dat (av 0) (ar_dat (av 1) ar_nil))) (ar_dat (ae_len (by rfl) T.n_len (al_cons (av 2) al_nil)) ar_nil)))))) (ass_one (as_ret ae_bl)) ass_nil) (ass_cons (as_asg (av 3) (ag_tup (n:=4) rfl (ags_cons (ag_name (i:=4) sc_shows_dance.nd rfl (by walk_at "v")) (ags_cons (ag_name (i:=5) sc_shows_dance.nd rfl (by walk_at "v")) (ags_cons (ag_name (i:=6) sc_shows_dance.nd rfl (by walk_at "v")) (ags_cons (ag_name (i:=7) sc_shows_dance.nd rfl (by walk_at "v")) ags_nil)))))) (ass_cons (as_set (i:=8) sc_shows_dance.nd rfl (by walk_at "v") (ae_call c_steps_in hr.m (by rfl) (ar_dat (av 5) ar_nil))) (ass_cons (as_nd (sm:=s_leads_home) (i:=9) (nm:=nmT) 12 TB rfl rfl sc_shows_dance.nd rfl (NdefX.ndef_free (sc:=defScope s_shows_dance) (nsc:=C8.fnScope s_leads_home) (fr :=["steps","number","factors"]) (by decide +kernel)) rfl (by walk_at "v")) (ass_one (as_ret (ae_and (ae_callB (cr_all rfl) sim_all (by rfl) T.n_all (by decide +kernel) (al_cons (AEO.frz (ao_lcW (js :=[8,7,6]) 9 rfl sc_shows_dance.nd (fun f c=>(nf_leads_home (q := "shows_dance.<locals>.leads_home") f c).mono (Nat.le_refl _)) (fun _=>rfl) (fun ok=>NdefX.Caps.made (scope:=C8.fnScope s_leads_home) ok (NdefX.ndef_free (sc:=defScope s_shows_dance) (nsc:=C8.fnScope s_leads_home) (fr :=["steps","number","factors"]) (by decide +kernel)) (NdefX.ndef_fr (sc:=defScope s_shows_dance) (nsc:=C8.fnScope s_leads_home) (by decide +kernel)) rfl) (fun _ _ _=>rfl) (hr.mono (by decide)) len_leads_home (ai_any (av 0)) (blkOk_cx (own :=[("own",10),("purse",11)]) (by decide +kernel)) (fun _ _ _ _ _=>(ag_tupk (K':=K) rfl (n:=2) rfl (ags_cons (ag_name (i:=10) sc_shows_dance.nd rfl (by walk_at "v")) (ags_cons (ag_name (i:=11) sc_shows_dance.nd rfl (by walk_at "v")) ags_nil)))) (fun _ _ _ _ _=>(al_cons (av 10) (al_cons (av 11) al_nil))))) al_nil)) (ae_one (ae_not (ae_callN (js :=[8,7,6]) 9 (fun f c=>(nf_leads_home (q := "shows_dance.<locals>.leads_home") f c).mono (Nat.le_refl _)) (fun _=>rfl) (fun ok=>NdefX.Caps.made (scope:=C8.fnScope s_leads_home) ok (NdefX.ndef_free (sc:=defScope s_shows_dance) (nsc:=C8.fnScope s_leads_home) (fr :=["steps","number","factors"]) (by decide +kernel)) (NdefX.ndef_fr (sc:=defScope s_shows_dance) (nsc:=C8.fnScope s_leads_home) (by decide +kernel)) rfl) (hr.mono (by decide)) len_leads_home (al_cons (av 1) (al_cons (av 2) al_nil)))))))))))),fun args P h => ?_⟩
 ·obtain⟨n,ls,l,pr,many,ts,fac,m,rfl,hD,hn,hls,hlk,hl,hll,hpr,hpm,q⟩:=h
  walk_at "ck"
  have hlk2:∀lp∈ls,Lts lp.1/\lp.1.length<=2^14:=fun lp h=>⟨(hlk lp h).1,(hlk lp h).2.1⟩
  refine⟨ls,l,rfl,hls,hl,hll,hlk2, ?_⟩
  walk_at "ck"
  refine⟨many,ts,fac,m,colsL ls l,pr.length,rfl,hD,fun c hc=>cols_lo c hc,Nat.le_trans (List.length_filter_le _ _) (by decide), ?_⟩
  walk_at "ck"
  unfold showsDn at q
  refine⟨fun z => ?_,fun z => ?_⟩
  ·rw [z,Bool.false_and,Bool.false_and]at q
   exact q
  rw [z,Bool.true_and]at q
  have zz:=Bool.and_eq_true_iff.mp z
  have z1:=of_decide_eq_true zz.1
  have z2:=of_decide_eq_true zz.2
  rw [show dncP many ts fac m = .tuple [.int (many:Nat),.list (ts.map tnD),pd fac,.int m]from rfl]
  walk_at "ck"
  have nd:(ts.map (·.c)).Nodup:=by
   rw [z1]
   exact List.Pairwise.filter _ (show [97,98,99,100].Nodup by decide)
  refine⟨many,ts,rfl,hD.ok,nd,hD.h0,hD.mb,hD.tl,fun kvs hS hk => ?_⟩
  walk_at "ck"
  rw [x_onSlK]
  refine⟨by decide, ?_⟩
  have hcw:∀s∈l,lowN s∈ts.map (·.c):=by rw [z1];exact cols_way hl
  have hcl:∀lp∈ls,∀s∈lp.1,lowN s∈ts.map (·.c):=by rw [z1];exact cols_lp fun lp h=>(hlk lp h).1
  refine lcL_m2 lpD (fun lp => .bool (homeB ts fac m lp.1 lp.2)) ls (szl (by omega)) (fun lp hlp Kt Kf hg => ?_) fun x y => ?_
  ·obtain⟨k1,k2,k3,k4⟩:=hlk lp hlp
   rw [show lpD lp = .tuple [.str (tx lp.1),pd lp.2]from rfl]
   walk_at "ck"
   refine⟨rfl,rfl,many,ts,kvs,fac,m,lp.1,lp.2,rfl,hS,hD.ok,hD.h0,hD.mb,hk,k1,k2,hcl lp hlp,by omega,k4, ?_⟩
   walk_at "ck"
   exact hg _ _
  rw [show ls.map (fun lp=>PyData.bool (homeB ts fac m lp.1 lp.2))=(ls.map fun lp=>homeB ts fac m lp.1 lp.2).map .bool by rw [List.map_map];rfl]
  walk_at "ck"
  refine⟨_,rfl, ?_⟩
  rw [show (ls.map fun lp=>homeB ts fac m lp.1 lp.2).all id=ls.all fun lp=>homeB ts fac m lp.1 lp.2 by rw [List.all_map];rfl]
  refine⟨fun y => ?_,fun y => ?_⟩
  ·rw [y,Bool.true_and]at q
   refine⟨rfl,rfl,many,ts,kvs,fac,m,l,pr,rfl,hS,hD.ok,hD.h0,hD.mb,hk,hl,hll,hcw,by omega,hpm, ?_⟩
   walk_at "ck"
   exact q
  ·rw [y,Bool.false_and]at q
   exact q
def tnE(t:Tn):Key×PyData:=(.inr (tx [t.c]),.tuple [rowPD (rwI t.r),pd t.f])
theorem lower_ltN:∀{s:Nat},Lt s->Txt.lower (tx [s])=tx [lowN s]:=by
 have:∀c ∈ [97,98,99,100,65,66,67,68],Txt.lower (tx [c])=tx [lowN c]:=by decide +kernel
 exact fun {c} h=>this c h
theorem pairs_tn:∀ts:List Tn,pairsK (ts.map fun t => .tuple [.str (tx [t.c]),.tuple [rowPD (rwI t.r),pd t.f]])=some (ts.map tnE)
 | []=>rfl
 | t::ts=>by
  rw [List.map_cons]
  unfold pairsK
  rw [pairs_tn ts]
  rfl
theorem tx_one_inj{a b:Nat}(h:tx [a]=tx [b]):a=b:=by
 have:=congrArg (fun z:Str=>z.cps.toList) h
 simpa [tx]using this
theorem get_tn{ts:List Tn}(nd:(ts.map (·.c)).Nodup)(s:Nat):getK (mergeD [] (ts.map tnE)) (.inr (tx [lowN s]))=(turnAt ts s).map fun t=>(tnE t).2:=by
 have nd2:((ts.map tnE).map (·.1)).Nodup:=by
  rw [List.map_map]
  have:(fun t:Tn=>(tnE t).1)=fun t=>(Sum.inr (tx [t.c]):Key):=rfl
  show (ts.map fun t=>(Sum.inr (tx [t.c]):Key)).Nodup
  have e:(ts.map fun t=>(Sum.inr (tx [t.c]):Key))=(ts.map (·.c)).map fun c=>(Sum.inr (tx [c]):Key):=by rw [List.map_map];rfl
  rw [e]
  exact nd.map (S:=fun a b=>a≠b) (f:=fun c=>(Sum.inr (tx [c]):Key)) fun a b h k=>h (tx_one_inj (Sum.inr.inj k))
 rw [getK_merge _ _ nd2]
 unfold turnAt
 induction ts with
 | nil=>rfl
 | cons t ts ih =>
  rw [List.map_cons,getK_cons,List.find?_cons]
  rw [List.map_cons,List.nodup_cons]at nd
  rw [List.map_cons,List.map_cons,List.nodup_cons]at nd2
  by_cases e:t.c=lowN s
  ·rw [if_pos (show (tnE t).1 = .inr (tx [lowN s])by rw [<- e];rfl),decide_eq_true e]
   rfl
  ·rw [if_neg (show ¬(tnE t).1 = .inr (tx [lowN s])from fun z=>e (tx_one_inj (Sum.inr.inj z))),decide_eq_false e]
   exact ih nd.2 nd2.2
def R_danced:ASp:=fun args P =>∃(many:Nat) (ts:List Tn) (fac:List Int) (m:Int) (l:List Nat),args = [.dat (dncP many ts fac m),.dat (.str (tx l))]/\DnOk many ts/\0<many/\many<=2^20/\(ts.map (·.c)).Nodup/\ts.length<=2^10/\Lts l/\l.length<=2^20/\(∀s∈l,lowN s∈ts.map (·.c))/\P (.dat (.tuple [.int ((dncL ts l 0 0).1:Nat),.int (dncL ts l 0 0).2])) [.non,.non]
theorem sc_law_danced:FnScope ["_law_dance","_law_steps_here","_law_turns","_law_at","_law_paid","_law_one","_law_row","_law_fares","_law_colour"] ["_law_dance","_law_steps_here"] (defScope s_law_danced):=⟨rfl,rfl,rfl,by decide +kernel,rfl,by decide +kernel,by decide +kernel⟩
theorem ok_law_danced(F:FunD K "_law_danced" "_law_danced" (defArgs s_law_danced) (defBody s_law_danced) (defScope s_law_danced) dvs kws f fd)(T:Txt mg):FnG P w K mg base CX0 3 f fd ["_law_dance","_law_steps_here"] (spA R_danced):=by
 refine okD F sc_law_danced [] (fun args P h => ?_) (by decide) (fun cdv A outer s H E hr=>⟨_,_,(ass_cons (as_par3 (i:=2) (j:=3) (l:=4) rfl sc_law_danced.nd rfl rfl rfl (by decide) (by decide) (by decide) rfl rfl rfl (ar_own (ao_dictPK rfl (by rfl) T.n_dict (by decide +kernel) (al_cons (AEO.frz (ao_lc rfl sc_law_danced.nd (ai_any (ae_ix (av 0) ae_int)) (blkOk_cx (own :=[("_law_colour",8),("_law_row",6),("_law_fares",7)]) (by decide +kernel)) (fun _ _ _ _ _=>(ag_tupk (K':=K) rfl (n:=3) rfl (ags_cons (ag_name (i:=8) sc_law_danced.nd rfl (by walk_at "v")) (ags_cons (ag_name (i:=6) sc_law_danced.nd rfl (by walk_at "v")) (ags_cons (ag_name (i:=7) sc_law_danced.nd rfl (by walk_at "v")) ags_nil))))) (fun _ _ _ _ _=>ats_nil) (fun _ _ _ _ _=>(ae_tup (al_cons (av 8) (al_cons (ae_tup (al_cons (av 6) (al_cons (av 7) al_nil))) al_nil)))))) al_nil)) (ar_dat ae_int (ar_dat ae_int ar_nil))) (by rfl)) (ass_cons (as_for PassesOwn.never rfl (ai_any (av 1)) (ag_name (i:=5) sc_law_danced.nd rfl (by walk_at "v")) (ass_cons (as_asg (ae_getK 2 (Cf.RoomG.u64 hr) (ae_lower (av 5))) (ag_tup (n:=2) rfl (ags_cons (ag_name (i:=6) sc_law_danced.nd rfl (by walk_at "v")) (ags_cons (ag_name (i:=7) sc_law_danced.nd rfl (by walk_at "v")) ags_nil)))) (ass_one (as_if (at_val (ae_islower (av 5))) (ass_one (as_par (i:=3) (j:=4) rfl sc_law_danced.nd rfl rfl (by decide) rfl rfl (al_cons (ae_ix (av 6) (av 3)) (al_cons (ae_add (av 4) (ae_ix (av 7) (av 3))) al_nil)) (by rfl))) (ass_cons (as_set (i:=3) sc_law_danced.nd rfl (by walk_at "v") (ae_idxT (av 6) (av 3))) (ass_one (as_set (i:=4) sc_law_danced.nd rfl (by walk_at "v") (ae_sub (av 4) (ae_ix (av 7) (av 3)))))))))) (ass_one (as_ret (ae_tup (al_cons (av 3) (al_cons (av 4) al_nil))))))),fun args P h => ?_⟩)
 ·obtain⟨_,_,_,_,_,rfl,_⟩:=h
  rfl
 ·obtain⟨many,ts,fac,m,l,rfl,hts,h0,hm,hnd,htl,hl,hll,hc,q⟩:=h
  unfold dncP
  walk_at "ck"
  refine lcL_em tnD (fun t => .tuple [.str (tx [t.c]),.tuple [rowPD (rwI t.r),pd t.f]]) ts (fun env =>∃x6 x7 x8,env = [.dat (dncP many ts fac m),.dat (.str (tx l)),.non,.non,.non,.non,x6,x7,x8]) (szl (by omega)) ?_ ?_ ⟨_,_,_,rfl⟩
  ·rintro t ht env ⟨x6,x7,x8,rfl⟩ Kt Kf hg
   rw [show tnD t = .tuple [.str (tx [t.c]),rowPD (rwI t.r),pd t.f]from rfl]
   walk_at "ck"
   exact hg _ ⟨_,_,_,rfl⟩
  rintro env ⟨x6,x7,x8,rfl⟩
  walk_at "ck"
  refine opt_mk (pairs_tn ts) ?_
  rw [signs_tx]
  refine forL_st sg l (fun d r env =>∃(x5 x6 x7:Cf.Sl),env = [.dat (dncP many ts fac m),.dat (.str (tx l)),.own (.dK (mergeD [] (ts.map tnE))),.dat (.int ((dncL ts d 0 0).1:Nat)),.dat (.int (dncL ts d 0 0).2),x5,x6,x7,.non]) ?_ ?_ ⟨_,_,_,rfl⟩
  ·rintro env ⟨x5,x6,x7,rfl⟩
   walk_at "ck"
   exact q
  ·rintro d s r env G e0 ⟨x5,x6,x7,rfl⟩ hG
   have hs:Lt s:=hl s (by rw [e0];simp)
   have hx:=dnc_lt hts d 0 0 h0
   have ed:dncL ts (d ++ [s]) 0 0=((stepT ts s (dncL ts d 0 0).1).1,(dncL ts d 0 0).2+(stepT ts s (dncL ts d 0 0).1).2):=by rw [dnc_app];rfl
   rw [ed]at hG
   generalize dncL ts d 0 0=y at hx hG ⊢
   obtain⟨x,p⟩:=y
   have hx:x<many:=hx
   obtain⟨t,ht⟩:∃t,turnAt ts s=some t:=by
    obtain⟨t,h1,h2⟩:=List.mem_map.mp (hc s (by rw [e0];simp))
    unfold turnAt
    cases h:ts.find? fun t=>decide (t.c=lowN s)with
    | some t=>exact⟨t,rfl⟩
    | none=>exact absurd h2 (by simpa using List.find?_eq_none.mp h t h1)
   have htk:=hts t (List.mem_of_find?_eq_some ht)
   have gt:=get_tn hnd s
   rw [ht]at gt
   have est:stepT ts s x=oneT t s x:=by unfold stepT;rw [ht]
   rw [est]at hG
   rw [show sg s = .str (tx [s])from rfl]
   walk_at "ck"
   refine⟨by rw [tx_len,List.length_singleton];decide, ?_⟩
   rw [lower_ltN hs,gt,show (Option.map (fun t=>(tnE t).2) (some t))=some (.tuple [rowPD (rwI t.r),pd t.f])from rfl]
   walk_at "ck"
   rw [islower_lt hs]
   have hrl:=htk.rl
   have hfl:=htk.fl
   refine⟨fun z => ?_,fun z => ?_⟩
   ·have z:=of_decide_eq_true z
    have e1:oneT t s x=(t.r.getD x 0,t.f.getD x 0):=if_pos z
    rw [e1]at hG
    refine opt_mk (at_rwI (by omega)) (opt_mk (atI_pd (by omega)) ?_)
    walk_at "ck"
    exact hG _ ⟨_,_,_,rfl⟩
   ·have z:=of_decide_eq_false z
    have e1:oneT t s x=(t.r.idxOf x,-t.f.getD (t.r.idxOf x) 0):=if_neg z
    rw [e1]at hG
    rw [idx_rwI]
    have hi:=(htk.idx hx).1
    refine⟨List.mem_map.mpr ⟨x,htk.mem hx,rfl⟩,opt_mk (atI_pd (by omega)) ?_⟩
    walk_at "ck"
    exact hG _ ⟨_,_,_,rfl⟩
def R_count:ASp:=fun args P =>∃p q,args = [.dat (pd p),.dat (pd q)]/\p.length<=2^20/\(∀x∈p,∀y∈q,Cf.MulOk x y)/\P (.dat (.int (dotL p q))) [.non,.non]
theorem sc_law_count:FnScope ["_law_factors","_law_cost","_law_n","_law_m"] ["_law_factors","_law_cost"] (defScope s_law_count):=⟨rfl,rfl,rfl,by decide +kernel,rfl,by decide +kernel,by decide +kernel⟩
theorem ok_law_count(F:FunD K "_law_count" "_law_count" (defArgs s_law_count) (defBody s_law_count) (defScope s_law_count) dvs kws f fd)(T:Txt mg):FnG P w K mg base CX0 1 f fd ["_law_factors","_law_cost"] (spA R_count):=by
 refine okD F sc_law_count [] (fun args P h => ?_) (by decide) (fun cdv A outer s H E hr=>⟨_,_,(ass_one (as_ret (ae_callB (cr_sum rfl) sim_sum (by rfl) T.n_sum (by decide +kernel) (al_cons (AEO.frz (ao_lc rfl sc_law_count.nd (ai_zipA (by rfl) T.n_zip (al_cons (av 0) (al_cons (av 1) al_nil))) (blkOk_cx (own :=[("_law_n",2),("_law_m",3)]) (by decide +kernel)) (fun _ _ _ _ _=>(ag_tupk (K':=K) rfl (n:=2) rfl (ags_cons (ag_name (i:=2) sc_law_count.nd rfl (by walk_at "v")) (ags_cons (ag_name (i:=3) sc_law_count.nd rfl (by walk_at "v")) ags_nil)))) (fun _ _ _ _ _=>ats_nil) (fun _ _ _ _ _=>(ae_mulA (av 2) (av 3))))) al_nil)))),fun args P h => ?_⟩)
 ·obtain⟨p,q,rfl,_⟩:=h
  rfl
 ·obtain⟨p,q,rfl,hp,hm,k⟩:=h
  unfold pd
  walk_at "cf"
  refine lcL_ind (fun xs acc env =>∃p1 p2 q1 q2 dn x y,p=p1++p2/\q=q1++q2/\xs=zipD (p2.map .int) (q2.map .int)/\acc=dn.map PyData.int/\dn.length=p1.length/\dn.sum+dotL p2 q2=dotL p q/\env = [.dat (.tuple (p.map .int)),.dat (.tuple (q.map .int)),x,y]) ?_ ?_ _ _ _ ⟨[],p,[],q,[],.non,.non,rfl,rfl,rfl,rfl,rfl,by simp,rfl⟩
  ·rintro acc env ⟨p1,p2,q1,q2,dn,x,y,e1,e2,e,rfl,hl,hs,rfl⟩
   walk_at "cf"
   have:dotL p2 q2=0:=by
    cases p2 with
    | nil=>rfl
    | cons _ _ =>
     cases q2 with
     | nil=>rfl
     | cons _ _=>cases e
   refine⟨dn,rfl, ?_⟩
   rw [this,Int.add_zero]at hs
   rw [hs]
   exact k
  ·rintro d xs acc env ih ⟨p1,p2,q1,q2,dn,x,y,e1,e2,e,rfl,hl,hs,rfl⟩
   cases p2 with
   | nil=>cases e
   | cons a p2 =>
    cases q2 with
    | nil=>cases e
    | cons b q2 =>
     cases e
     have hlen:=congrArg List.length e1
     rw [List.length_append,List.length_cons]at hlen
     walk_at "cf"
     refine⟨hm a (by rw [e1];simp) b (by rw [e2];simp),by rw [List.length_map];exact sizeLine_big (by omega),ih _ _ ⟨p1 ++ [a],p2,q1 ++ [b],q2,dn ++ [a*b],_,_,by rw [e1];simp,by rw [e2];simp,rfl,by simp,by simp [hl], ?_,rfl⟩⟩
     rw [<- hs,List.sum_append]
     show _+(a*b+0)+dotL p2 q2=_+(a*b+dotL p2 q2)
     omega
def R_alike:ASp:=fun args P =>∃a b m:Int,args = [.dat (.int a),.dat (.int b),.dat (.int m)]/\P (.dat (.bool (isMul (a-b) m))) [.non,.non,.non]
theorem sc_law_alike:FnScope ["_law_one","_law_two","_law_measure"] ["_law_one","_law_two","_law_measure"] (defScope s_law_alike):=⟨rfl,rfl,rfl,by decide +kernel,rfl,by decide +kernel,by decide +kernel⟩
theorem ok_law_alike(F:FunD K "_law_alike" "_law_alike" (defArgs s_law_alike) (defBody s_law_alike) (defScope s_law_alike) dvs kws f fd)(T:Txt mg):FnG P w K mg base CX0 1 f fd ["_law_one","_law_two","_law_measure"] (spA R_alike):=by
 refine okD F sc_law_alike [] (fun args P h => ?_) (by decide) (fun cdv A outer s H E hr=>⟨_,_,(ass_one (as_ret (ae_if (at_eq (Cf.RoomG.u64 hr) (av 2) ae_int) (ae_eq (Cf.RoomG.u64 hr) (av 0) (av 1)) (ae_eq (Cf.RoomG.u64 hr) (ae_mod (ae_sub (av 0) (av 1)) (av 2)) ae_int)))),fun args P h => ?_⟩)
 ·obtain⟨a,b,m,rfl,_⟩:=h
  rfl
 ·obtain⟨a,b,m,rfl,q⟩:=h
  unfold isMul at q
  walk_at "ck"
  refine⟨fun h => ?_,fun h => ?_⟩
  ·rw [if_pos h]at q
   rw [show decide (a=b)=decide (a-b=0)from decide_eq_decide.mpr (by omega)]
   exact q
  ·rw [if_neg h]at q
   exact⟨h,q⟩
def R_is_turn:ASp:=fun args P =>∃(t:Tn) (many:Nat),args = [.dat (tnD t),.dat (.int (many:Nat))]/\TnOk many t/\0<many/\many<=2^20/\P (.dat (.bool true)) [.non,.non]
theorem sc_law_is_turn:FnScope ["_law_odd","_law_many","_law_n"] ["_law_odd","_law_many"] (defScope s_law_is_turn):=⟨rfl,rfl,rfl,by decide +kernel,rfl,by decide +kernel,by decide +kernel⟩
theorem ok_law_is_turn(F:FunD K "_law_is_turn" "_law_is_turn" (defArgs s_law_is_turn) (defBody s_law_is_turn) (defScope s_law_is_turn) dvs kws f fd)(T:Txt mg)(c_law_is_whole:Cal P w K mg base 1 "_law_is_whole" ["_law_odd"] R_is_whole):FnG P w K mg base CX0 2 f fd ["_law_odd","_law_many"] (spA R_is_turn):=by
 refine okD F sc_law_is_turn [] (fun args P h => ?_) (by decide) (fun cdv A outer s H E hr=>⟨_,_,(ass_cons (as_if (APW.pt (aw_or (at_not (at_val (ae_isi kit_tuple (by rfl) T.n_isinstance (av 0) (by rfl) T.n_tuple (by decide +kernel)))) (aw_or (at_ne (Cf.RoomG.u64 hr) (ae_len (by rfl) T.n_len (al_cons (av 0) al_nil)) ae_int) (aw_or (at_not (at_val (ae_isi kit_tuple (by rfl) T.n_isinstance (ae_ix (av 0) ae_int) (by rfl) T.n_tuple (by decide +kernel)))) (aw_or1 (at_not (at_val (ae_isi kit_tuple (by rfl) T.n_isinstance (ae_ix (av 0) ae_int) (by rfl) T.n_tuple (by decide +kernel))))))))) (ass_one (as_ret ae_bl)) ass_nil) (ass_cons (as_if (APW.pt (aw_or (at_not (at_val (ae_isi kit_str (by rfl) T.n_isinstance (ae_ix (av 0) ae_int) (by rfl) T.n_str (by decide +kernel)))) (aw_or1 (at_not (at_val (ae_callB (cr_all rfl) sim_all (by rfl) T.n_all (by decide +kernel) (al_cons (AEO.frz (ao_lc rfl sc_law_is_turn.nd (ai_any (ae_add (ae_ix (av 0) ae_int) (ae_ix (av 0) ae_int))) (blkOk_cx (own :=[("_law_n",2)]) (by decide +kernel)) (fun _ _ _ _ _=>(ag_name (i:=2) sc_law_is_turn.nd rfl (by walk_at "v"))) (fun _ _ _ _ _=>ats_nil) (fun _ _ _ _ _=>(ae_call c_law_is_whole hr.m (by rfl) (ar_dat (av 2) ar_nil))))) al_nil))))))) (ass_one (as_ret ae_bl)) ass_nil) (ass_one (as_ret (ae_and (ae_eq (Cf.RoomG.u64 hr) (ae_len (by rfl) T.n_len (al_cons (ae_ix (av 0) ae_int) al_nil)) (av 1)) (ae_and (ae_eq (Cf.RoomG.u64 hr) (ae_len (by rfl) T.n_len (al_cons (ae_ix (av 0) ae_int) al_nil)) (av 1)) (ae_one (ae_eq (Cf.RoomG.u64 hr) (AEO.frz (ao_callB (call_srtT hr) sim_srtT (by rfl) T.n_sorted (by decide +kernel) (al_cons (ae_ix (av 0) ae_int) al_nil))) (AEO.frz (ao_lstRg rfl (by rfl) T.n_list (by rfl) T.n_range (av 1))))))))))),fun args P h => ?_⟩)
 ·obtain⟨_,_,rfl,_⟩:=h
  rfl
 ·obtain⟨t,many,rfl,ht,h0,hm,q⟩:=h
  have e1:=ht.rl
  have e2:=ht.fl
  rw [show tnD t = .tuple [.str (tx [t.c]),rowPD (rwI t.r),pd t.f]from rfl]
  walk_at "ck"
  refine⟨(fun h=>by cases h),fun _=>⟨fun h=>absurd rfl h,fun _=>⟨(fun h=>by cases h),fun _=>⟨(fun h=>by cases h),fun _=>⟨(fun h=>by cases h),fun _ => ?_⟩⟩⟩⟩⟩
  have hrw:(rwI t.r).length=many:=by rw [List.length_map];exact e1
  rw [show pd t.f = .tuple (t.f.map .int)from rfl,f_addR]
  refine⟨sz_of (by rw [List.length_map,List.length_map];omega),by rw [List.length_map];omega, ?_⟩
  rw [<- List.map_append]
  walk_at "ck"
  refine lcL_m1 (fun i:Int => .int i) (fun _ => .bool true) (rwI t.r++t.f) (szl (by rw [List.length_append];omega)) (fun i hi Kt Kf hg => ?_) fun x => ?_
  ·walk_at "ck"
   refine⟨_,rfl, ?_⟩
   walk_at "ck"
   exact hg _
  rw [show (rwI t.r++t.f).map (fun _=>PyData.bool true)=((rwI t.r++t.f).map fun _=>true).map .bool by rw [List.map_map];rfl]
  walk_at "ck"
  refine⟨_,rfl, ?_⟩
  rw [all_rep (by intro b hb;obtain⟨_,_,rfl⟩:=List.mem_map.mp hb;rfl)]
  walk_at "ck"
  refine⟨fun _=>⟨fun _ ys h1 h2 => ?_,fun z=>absurd (congrArg _ e1) z⟩,fun z=>absurd (congrArg _ e2) z⟩
  have hys:ys=(List.range many).map fun i=>((i:Nat):Int):=range_sorted h1 h2 ((ht.perm).map _)
  have hyl:ys.length=many:=by rw [hys,List.length_map,List.length_range]
  rw [rg0,show ((List.range many).map fun i=>PyData.int (i:Nat))=ys.map .int by rw [hys,List.map_map];rfl]
  have hpl:Pl 2 (.list (ys.map .int)) := .lst _ (fun d hd=>by obtain⟨i,_,rfl⟩:=List.mem_map.mp hd;exact .int (n:=0) _) (by rw [List.length_map];omega)
  refine⟨⟨by omega,by omega⟩,EqOk.pl hpl hpl, ?_⟩
  rw [Pl.refl hpl]
  exact q
theorem lo1_lowN:∀{c:Nat},Lt c->lo1 c=lowN c:=by
 have:∀c ∈ [97,98,99,100,65,66,67,68],lo1 c=lowN c:=by decide
 exact fun {c} h=>this c h
theorem lower_lts{l:List Nat}(hl:Lts l):Txt.lower (tx l)=tx (l.map lowN):=by
 rw [lower_tx fun c hc=>lt128 (hl c hc)]
 exact congrArg tx (List.map_congr_left fun c hc=>lo1_lowN (hl c hc))
def lowsL(ls:Lps)(l:List Nat):List (List Nat):=(ls.map fun lp=>lp.1.map lowN) ++ [l.map lowN]
theorem lows_flat(ls:Lps)(l:List Nat):(lowsL ls l).flatten=((ls.map (·.1)).flatten++l).map lowN:=by
 unfold lowsL
 rw [List.flatten_append,List.map_append,List.map_flatten,List.map_map,List.flatten_cons,List.flatten_nil,List.append_nil]
 rfl
theorem lows_len:∀(ls:Lps) (l:List Nat),(lowsL ls l).flatten.length=steps ls+l.length:=fun ls l=>by
 rw [lows_flat,List.length_map,List.length_append]
 congr 1
 induction ls with
 | nil=>rfl
 | cons a ls ih=>obtain⟨w,p⟩:=a;rw [List.map_cons,List.flatten_cons,List.length_append,ih];rfl
theorem lows_cols(ls:Lps)(l:List Nat):hueL (lowsL ls l).flatten=colsL ls l:=by
 unfold colsL hueL
 refine List.filter_congr fun c _ => ?_
 rw [lows_flat]
 exact decide_eq_decide.mpr (by rw [List.flatten_cons,List.map_append,List.map_append,List.mem_append,List.mem_append];exact Or.comm)
theorem lows_lo{ls:Lps}{l:List Nat}(h:∀lp∈ls,Lts lp.1)(hl:Lts l):∀c∈(lowsL ls l).flatten,Lo c:=fun c hc=>by
 rw [lows_flat]at hc
 obtain⟨d,hd,rfl⟩:=List.mem_map.mp hc
 refine lowN_lo ?_
 rcases List.mem_append.mp hd with z | z
 ·obtain⟨w,hw,hd⟩:=List.mem_flatten.mp z
  obtain⟨lp,hlp,rfl⟩:=List.mem_map.mp hw
  exact h lp hlp d hd
 ·exact hl d z
theorem dotL_swap{p q:List Int}(h:p.length=q.length):dotL p q=dotL q p:=by
 rw [dotL_vec rfl h.symm,dotL_vec h.symm rfl,dot_comm]
def R_dance_right:ASp:=fun args P =>∃(n:Nat) (ls:Lps) (l:List Nat) (pr:List Int) (many:Nat) (ts:List Tn) (fac:List Int) (m:Int),args = [.dat (.list (ls.map lpD)),.dat (.int (n:Nat)),.dat (.str (tx l)),.dat (pd pr),.dat (dncP many ts fac m)]/\DncW many ts fac m/\(ts.map (·.c)).Nodup/\n<=2^10/\ls.length<=2^8/\steps ls+l.length<=1000/\(∀lp∈ls,Lts lp.1/\lp.1.length<=2^14/\lp.2.length=n /\∀x∈lp.2,∀y∈fac,Cf.MulOk x y/\Cf.MulOk y x)/\Lts l/\l.length<=2^14/\pr.length=n/\(∀x∈pr,∀y∈fac,Cf.MulOk x y/\Cf.MulOk y x)/\P (.dat (.bool (showsDn ls l pr ts fac m))) [.non,.non,.non,.non,.non]
theorem sc_law_dance_right:FnScope ["_law_some","_law_coins","_law_steps_here","_law_cost","_law_odd","_law_many","_law_turns","_law_factors","_law_measure","_law_colours_here","_law_way_now","_law_its","_law_at","_law_paid","_law_n","_law_turn","_law_one"] ["_law_some","_law_coins","_law_steps_here","_law_cost","_law_odd"] (defScope s_law_dance_right):=⟨rfl,rfl,rfl,by decide +kernel,rfl,by decide +kernel,by decide +kernel⟩
theorem ok_law_dance_right(F:FunD K "_law_dance_right" "_law_dance_right" (defArgs s_law_dance_right) (defBody s_law_dance_right) (defScope s_law_dance_right) dvs kws f fd)(T:Txt mg)(c_law_alike:Cal P w K mg base 1 "_law_alike" ["_law_one","_law_two","_law_measure"] R_alike)(c_law_count:Cal P w K mg base 1 "_law_count" ["_law_factors","_law_cost"] R_count)(c_law_danced:Cal P w K mg base 3 "_law_danced" ["_law_dance","_law_steps_here"] R_danced)(c_law_is_turn:Cal P w K mg base 2 "_law_is_turn" ["_law_odd","_law_many"] R_is_turn)(c_law_is_whole:Cal P w K mg base 1 "_law_is_whole" ["_law_odd"] R_is_whole):FnG P w K mg base CX0 4 f fd ["_law_some","_law_coins","_law_steps_here","_law_cost","_law_odd"] (spA R_dance_right):=by
 refine okD F sc_law_dance_right [] (fun args P h => ?_) (by decide) (fun cdv A outer s H E hr=>⟨_,_,(ass_cons (as_if (APW.pt (aw_or (at_not (at_val (ae_isi kit_tuple (by rfl) T.n_isinstance (av 4) (by rfl) T.n_tuple (by decide +kernel)))) (aw_or (at_ne (Cf.RoomG.u64 hr) (ae_len (by rfl) T.n_len (al_cons (av 4) al_nil)) ae_int) (aw_or (at_not (at_val (ae_call c_law_is_whole hr.m (by rfl) (ar_dat (ae_ix (av 4) ae_int) ar_nil)))) (aw_or1 (at_not (at_val (ae_call c_law_is_whole hr.m (by rfl) (ar_dat (ae_ix (av 4) ae_int) ar_nil))))))))) (ass_one (as_ret ae_bl)) ass_nil) (ass_cons (as_asg (av 4) (ag_tup (n:=4) rfl (ags_cons (ag_name (i:=5) sc_law_dance_right.nd rfl (by walk_at "v")) (ags_cons (ag_name (i:=6) sc_law_dance_right.nd rfl (by walk_at "v")) (ags_cons (ag_name (i:=7) sc_law_dance_right.nd rfl (by walk_at "v")) (ags_cons (ag_name (i:=8) sc_law_dance_right.nd rfl (by walk_at "v")) ags_nil)))))) (ass_cons (as_if (APW.pt (aw_or (at_lt (av 5) ae_int) (aw_or (at_lt (av 8) ae_int) (aw_or (at_not (at_val (ae_isi kit_list (by rfl) T.n_isinstance (av 6) (by rfl) T.n_list (by decide +kernel)))) (aw_or1 (at_not (at_val (ae_isi kit_tuple (by rfl) T.n_isinstance (av 7) (by rfl) T.n_tuple (by decide +kernel))))))))) (ass_one (as_ret ae_bl)) ass_nil) (ass_cons (as_if (at_ne (Cf.RoomG.u64 hr) (ae_len (by rfl) T.n_len (al_cons (av 7) al_nil)) (av 1)) (ass_one (as_ret ae_bl)) ass_nil) (ass_cons (as_if (APW.pt (aw_or (at_not (at_val (ae_callB (cr_all rfl) sim_all (by rfl) T.n_all (by decide +kernel) (al_cons (AEO.frz (ao_lc rfl sc_law_dance_right.nd (ai_any (av 7)) (blkOk_cx (own :=[("_law_n",14)]) (by decide +kernel)) (fun _ _ _ _ _=>(ag_name (i:=14) sc_law_dance_right.nd rfl (by walk_at "v"))) (fun _ _ _ _ _=>ats_nil) (fun _ _ _ _ _=>(ae_call c_law_is_whole hr.m (by rfl) (ar_dat (av 14) ar_nil))))) al_nil)))) (aw_or1 (at_not (at_val (ae_callB (cr_all rfl) sim_all (by rfl) T.n_all (by decide +kernel) (al_cons (AEO.frz (ao_lc rfl sc_law_dance_right.nd (ai_any (av 6)) (blkOk_cx (own :=[("_law_turn",15)]) (by decide +kernel)) (fun _ _ _ _ _=>(ag_name (i:=15) sc_law_dance_right.nd rfl (by walk_at "v"))) (fun _ _ _ _ _=>ats_nil) (fun _ _ _ _ _=>(ae_call c_law_is_turn hr.m (by rfl) (ar_dat (av 15) (ar_dat (av 5) ar_nil)))))) al_nil))))))) (ass_one (as_ret ae_bl)) ass_nil) (ass_cons (as_set (i:=9) sc_law_dance_right.nd rfl (by walk_at "v") (AEO.frz (ao_sortSet hr rfl (by rfl) T.n_sorted (by rfl) T.n_set (al_cons (ae_join ae_str (ae_add (AEO.frz (ao_lc rfl sc_law_dance_right.nd (ai_any (av 0)) (blkOk_cx (own :=[("_law_one",16)]) (by decide +kernel)) (fun _ _ _ _ _=>(ag_name (i:=16) sc_law_dance_right.nd rfl (by walk_at "v"))) (fun _ _ _ _ _=>ats_nil) (fun _ _ _ _ _=>(ae_lower (ae_ixk (K':=K) rfl (av 16) ae_int))))) (AEO.frz (ao_lst (al_cons (ae_lower (av 2)) al_nil))))) al_nil)))) (ass_cons (as_if (at_ne (Cf.RoomG.u64 hr) (AEO.frz (ao_lc rfl sc_law_dance_right.nd (ai_any (av 6)) (blkOk_cx (own :=[("_law_turn",15)]) (by decide +kernel)) (fun _ _ _ _ _=>(ag_name (i:=15) sc_law_dance_right.nd rfl (by walk_at "v"))) (fun _ _ _ _ _=>ats_nil) (fun _ _ _ _ _=>(ae_ixk (K':=K) rfl (av 15) ae_int)))) (av 9)) (ass_one (as_ret ae_bl)) ass_nil) (ass_cons (as_for PassesOwn.never rfl (ai_any (av 0)) (ag_tup (n:=2) rfl (ags_cons (ag_name (i:=10) sc_law_dance_right.nd rfl (by walk_at "v")) (ags_cons (ag_name (i:=11) sc_law_dance_right.nd rfl (by walk_at "v")) ags_nil))) (ass_cons (as_asg (ae_call c_law_danced hr.m (by rfl) (ar_dat (av 4) (ar_dat (av 10) ar_nil))) (ag_tup (n:=2) rfl (ags_cons (ag_name (i:=12) sc_law_dance_right.nd rfl (by walk_at "v")) (ags_cons (ag_name (i:=13) sc_law_dance_right.nd rfl (by walk_at "v")) ags_nil)))) (ass_one (as_if (APW.pt (aw_or (at_ne (Cf.RoomG.u64 hr) (av 12) ae_int) (aw_or1 (at_not (at_val (ae_call c_law_alike hr.m (by rfl) (ar_dat (av 13) (ar_dat (ae_call c_law_count hr.m (by rfl) (ar_dat (av 7) (ar_dat (av 11) ar_nil))) (ar_dat (av 8) ar_nil))))))))) (ass_one (as_ret ae_bl)) ass_nil)))) (ass_cons (as_asg (ae_call c_law_danced hr.m (by rfl) (ar_dat (av 4) (ar_dat (av 2) ar_nil))) (ag_tup (n:=2) rfl (ags_cons (ag_name (i:=12) sc_law_dance_right.nd rfl (by walk_at "v")) (ags_cons (ag_name (i:=13) sc_law_dance_right.nd rfl (by walk_at "v")) ags_nil)))) (ass_one (as_ret (ae_or (ae_ne (Cf.RoomG.u64 hr) (av 12) ae_int) (ae_one (ae_not (ae_call c_law_alike hr.m (by rfl) (ar_dat (av 13) (ar_dat (ae_call c_law_count hr.m (by rfl) (ar_dat (av 7) (ar_dat (av 3) ar_nil))) (ar_dat (av 8) ar_nil)))))))))))))))))),fun args P h => ?_⟩)
 ·obtain⟨_,_,_,_,_,_,_,_,rfl,_⟩:=h
  rfl
 ·obtain⟨n,ls,l,pr,many,ts,fac,m,rfl,hD,nd,hn,hls,hst,hlk,hl,hll,hpr,hpm,q⟩:=h
  rw [show dncP many ts fac m = .tuple [.int (many:Nat),.list (ts.map tnD),pd fac,.int m]from rfl]
  walk_at "ck"
  refine⟨(fun h=>by cases h),fun _=>⟨fun h=>absurd rfl h,fun _=>⟨_,rfl, ?_⟩⟩⟩
  walk_at "ck"
  refine⟨(fun h=>by cases h),fun _=>⟨_,rfl, ?_⟩⟩
  walk_at "ck"
  refine⟨(fun h=>by cases h),fun _ => ?_⟩
  have hm0:=hD.m0
  have hmb:=hD.mb
  have hh0:=hD.h0
  have htl:=hD.tl
  have hfl:=hD.fl
  unfold showsDn at q
  rw [hpr]at q
  refine⟨fun z=>absurd z (by omega),fun _=>⟨fun z=>absurd z (by omega),fun _=>⟨(fun h=>by cases h),fun _=>⟨(fun h=>by cases h),fun _=>⟨fun z => ?_,fun z => ?_⟩⟩⟩⟩⟩
  ·rw [decide_eq_false (show ¬fac.length=n by omega),Bool.and_false,Bool.false_and,Bool.false_and]at q
   exact q
  have hfn:fac.length=n:=by omega
  rw [decide_eq_true hfn,Bool.and_true]at q
  refine lcL_m1 (fun i:Int => .int i) (fun _ => .bool true) fac (szl (by omega)) (fun i hi Kt Kf hg => ?_) fun x => ?_
  ·walk_at "ck"
   refine⟨_,rfl, ?_⟩
   walk_at "ck"
   exact hg _
  rw [show fac.map (fun _=>PyData.bool true)=(fac.map fun _=>true).map .bool by rw [List.map_map];rfl]
  walk_at "ck"
  refine⟨_,rfl, ?_⟩
  rw [all_rep (by intro b hb;obtain⟨_,_,rfl⟩:=List.mem_map.mp hb;rfl)]
  walk_at "ck"
  refine lcL_m1 tnD (fun _ => .bool true) ts (szl (by omega)) (fun t ht Kt Kf hg => ?_) fun x => ?_
  ·walk_at "ck"
   refine⟨t,many,rfl,hD.ok t ht,by omega,by omega, ?_⟩
   walk_at "ck"
   exact hg _
  rw [show ts.map (fun _=>PyData.bool true)=(ts.map fun _=>true).map .bool by rw [List.map_map];rfl]
  walk_at "ck"
  refine⟨_,rfl, ?_⟩
  rw [all_rep (by intro b hb;obtain⟨_,_,rfl⟩:=List.mem_map.mp hb;rfl)]
  walk_at "ck"
  refine lcL_m1 lpD (fun lp => .str (tx (lp.1.map lowN))) ls (szl (by omega)) (fun lp hlp Kt Kf hg => ?_) fun x => ?_
  ·rw [show lpD lp = .tuple [.str (tx lp.1),pd lp.2]from rfl]
   walk_at "ck"
   have h1:=hlk lp hlp
   rw [lower_lts h1.1]
   refine⟨by rw [tx_len];omega,hg _⟩
  walk_at "ck"
  have ol:∀lp∈ls,Lts lp.1:=fun lp h=>(hlk lp h).1
  rw [show Str.ofString "" =(⟨#[]⟩:Str)from rfl]
  refine⟨by rw [tx_len];omega,sz_of (by omega),(lowsL ls l).map tx, ?_,join_okL (by rw [lows_len];omega),by rw [joinTx,sgsT_tx,List.length_map,lows_len];exact hst,fun mm hmm => ?_⟩
  ·rw [lower_lts hl]
   unfold lowsL
   rw [List.map_append,List.map_append,List.map_map,List.map_map]
   rfl
  rw [joinTx,sgsT_tx]at hmm
  have ecol:(srtT mm).map PyData.str=(colsL ls l).map fun c => .str (tx [c]):=by
   rw [hue_srt (lows_lo ol hl) hmm,lows_cols,List.map_map]
   rfl
  rw [ecol]
  refine lcL_m1 tnD (fun t => .str (tx [t.c])) ts (szl (by omega)) (fun t ht Kt Kf hg => ?_) fun x => ?_
  ·rw [show tnD t = .tuple [.str (tx [t.c]),rowPD (rwI t.r),pd t.f]from rfl]
   walk_at "ck"
   exact hg _
  walk_at "ck"
  rw [show PyData.list (ts.map fun t=>PyData.str (tx [t.c]))=colD (ts.map (·.c))by unfold colD;rw [List.map_map];rfl]
  rw [show PyData.list ((colsL ls l).map fun c=>PyData.str (tx [c]))=colD (colsL ls l)from rfl,col_eqv]
  have hlo:∀c∈ts.map (·.c),Lo c:=fun c hc=>by
   obtain⟨t,ht,rfl⟩:=List.mem_map.mp hc
   exact(hD.ok t ht).lo
  have hcl4:(colsL ls l).length<=4:=List.length_filter_le _ _
  refine⟨EqOk.pl (col_pl hlo (by rw [List.length_map];omega)) (col_pl (fun c hc=>cols_lo c hc) (by omega)),fun z => ?_,fun z => ?_⟩
  ·rw [z,Bool.false_and,Bool.false_and]at q
   exact q
  rw [z,Bool.true_and]at q
  have ecs:=of_decide_eq_true z
  have dnc:∀(w:List Nat),Lts w->w.length<=2^14->(∀s∈w,lowN s∈colsL ls l) ->∀Q:Cf.Sl->List Cf.Sl->Prop,Q (.dat (.tuple [.int ((dncL ts w 0 0).1:Nat),.int (dncL ts w 0 0).2])) [.non,.non]->R_danced [.dat (dncP many ts fac m),.dat (.str (tx w))] Q:=fun w hw hwl hc Q hQ =>
   ⟨many,ts,fac,m,w,rfl,hD.ok,by omega,by omega,nd,by omega,hw,by omega,by rw [ecs];exact hc,hQ⟩
  refine forL_st lpD ls (fun d r env=>(d.all fun lp=>homeB ts fac m lp.1 lp.2)=true /\∃x10 x11 x12 x13,env = [.dat (.list (ls.map lpD)),.dat (.int (n:Nat)),.dat (.str (tx l)),.dat (pd pr),.dat (dncP many ts fac m),.dat (.int (many:Nat)),.dat (.list (ts.map tnD)),.dat (pd fac),.dat (.int m),.dat (colD (colsL ls l)),x10,x11,x12,x13,.non,.non,.non]) ?_ ?_ ⟨rfl,_,_,_,_,rfl⟩
  ·rintro env ⟨hall,x10,x11,x12,x13,rfl⟩
   rw [hall,Bool.true_and]at q
   walk_at "ck"
   refine dnc l hl (by omega) (cols_way hl) _ ?_
   unfold homeB at q
   walk_at "ck"
   refine⟨fun z => ?_,fun z => ?_⟩
   ·rw [decide_eq_false (by omega),Bool.false_and]at q
    exact q
   rw [decide_eq_true (by omega),Bool.true_and]at q
   refine⟨fac,pr,rfl,by omega,fun u hu v hv=>(hpm v hv u hu).2, ?_⟩
   walk_at "ck"
   refine⟨_,_,m,rfl, ?_⟩
   walk_at "ck"
   rw [dotL_swap (hfn.trans hpr.symm)]
   exact q
  ·rintro d lp r env G e0 ⟨hall,x10,x11,x12,x13,rfl⟩ hG
   have hlp:lp∈ls:=by rw [e0];simp
   obtain⟨k1,k2,k3,k4⟩:=hlk lp hlp
   have no:homeB ts fac m lp.1 lp.2=false->P (.dat (.bool false)) [.non,.non,.non,.non,.non]:=fun z=>by
    rw [show (ls.all fun lp=>homeB ts fac m lp.1 lp.2)=false by rw [e0,List.all_append,List.all_cons,z,Bool.false_and,Bool.and_false],Bool.false_and]at q
    exact q
   have hG:=fun(z:homeB ts fac m lp.1 lp.2=true) e h=>hG e ⟨by rw [List.all_append,hall,List.all_cons,z];rfl,h⟩
   unfold homeB at no hG
   rw [show lpD lp = .tuple [.str (tx lp.1),pd lp.2]from rfl]
   walk_at "ck"
   refine dnc lp.1 k1 (by omega) (cols_lp ol lp hlp) _ ?_
   generalize dncL ts lp.1 0 0=y at no hG ⊢
   walk_at "ck"
   refine⟨fun z=>no (by rw [decide_eq_false (by omega),Bool.false_and]),fun z => ?_⟩
   rw [decide_eq_true (show y.1=0 by omega),Bool.true_and]at no hG
   refine⟨fac,lp.2,rfl,by omega,fun u hu v hv=>(k4 v hv u hu).2, ?_⟩
   walk_at "ck"
   refine⟨_,_,m,rfl, ?_⟩
   walk_at "ck"
   rw [dotL_swap (hfn.trans k3.symm)]
   refine⟨fun z=>no z,fun z => ?_⟩
   exact hG z _ ⟨_,_,_,_,rfl⟩
structure HallOk(p:List Nat)(many:Nat)(ts:List Tn)(fac:List Int)(mm:Int):Prop where
 w:DncW many ts fac mm
 mb:many<=6
 cs:ts.map (·.c)=hueL p
 f1:1<=fac.length
 f3:fac.length<=3
 fb:∀x∈fac,x.natAbs<=3
 m12:mm<=12
 tb:∀t∈ts,∀x∈t.f,x.natAbs<=4
theorem lowN_one:∀{c:Nat},Lo c->lowN c=c/\lowN (Cf.inv c)=c:=by
 have:∀c ∈ [97,98,99,100],lowN c=c/\lowN (Cf.inv c)=c:=by decide
 exact fun {c} h=>this c h
theorem ofh_cs{p l:List Nat}(hp:∀c∈p,Lo c)(h:OfH p l):∀s∈l,lowN s∈hueL p:=fun s hs=>by
 obtain⟨c,hc,e⟩:=h s hs
 have k:=lowN_one (hp c hc)
 have e2:lowN s=c:=by rcases e with rfl | rfl;exact k.1;exact k.2
 rw [e2]
 exact hue_mem.mpr ⟨hp c hc,hc⟩
theorem HallOk.nd{p:List Nat}{many:Nat}{ts:List Tn}{fac:List Int}{mm:Int}(h:HallOk p many ts fac mm):(ts.map (·.c)).Nodup:=by rw [h.cs];exact hue_nodup p
theorem HallOk.tl{p:List Nat}{many:Nat}{ts:List Tn}{fac:List Int}{mm:Int}(h:HallOk p many ts fac mm):ts.length<=4:=by
 have:=congrArg List.length h.cs
 rw [List.length_map]at this
 rw [this]
 exact hue_len p
def R_hall:ASp:=fun args P =>∃(o:List PyData) (p:List Nat) (m:Nat),args = [.own (.lst o),.dat (.str (tx p))]/\BoxOk m o/\m<2^36/\p ≠ []/\p.Nodup/\(∀c∈p,Lo c)/\p.length<=4 /\
 ∀(many:Nat) (ts:List Tn) (fac:List Int) (mm:Int) o',HallOk p many ts fac mm->BoxOk (m+2^7) o'->P (.dat (dncP many ts fac mm)) [.own (.lst o'),.non]
theorem sc_law_hall:FnScope ["_law_box","_law_pool","_law_many","_law_coins","_law_turns","_law_colour","_law_fares","_law_factors","_law_n"] ["_law_box","_law_pool"] (defScope s_law_hall):=⟨rfl,rfl,rfl,by decide +kernel,rfl,by decide +kernel,by decide +kernel⟩
theorem ok_law_hall(F:FunD K "_law_hall" "_law_hall" (defArgs s_law_hall) (defBody s_law_hall) (defScope s_law_hall) dvs kws f fd)(T:Txt mg)(c_law_one_of:Cal P w K mg base 2 "_law_one_of" ["_law_box","_law_pool"] R_one_of)(c_law_strewn:Cal P w K mg base 2 "_law_strewn" ["_law_box","_law_pool"] R_strewn)(c_law_take:Cal P w K mg base 1 "_law_take" ["_law_box","_law_many"] R_take):FnG P w K mg base CX0 3 f fd ["_law_box","_law_pool"] (spA R_hall):=by
 refine okD F sc_law_hall [0] (fun args P h => ?_) (by decide) (fun cdv A outer s H E hr=>⟨_,_,(ass_cons (as_par (i:=2) (j:=3) rfl sc_law_hall.nd rfl rfl (by decide) rfl rfl (al_cons (ae_add ae_int (ae_call c_law_take hr.m (by rfl) (ar_bor 0 (ar_dat ae_int ar_nil)))) (al_cons (ae_add ae_int (ae_call c_law_take hr.m (by rfl) (ar_bor 0 (ar_dat ae_int ar_nil)))) al_nil)) (by rfl)) (ass_cons (as_setO (i:=4) sc_law_hall.nd rfl (by walk_at "v") (ao_lst al_nil)) (ass_cons (as_for PassesOwn.never rfl (ai_any (AEO.frz (ao_callB (cr_sortSg hr rfl) sim_sortSg (by rfl) T.n_sorted (by decide +kernel) (al_cons (av 1) al_nil)))) (ag_name (i:=5) sc_law_hall.nd rfl (by walk_at "v")) (ass_cons (as_set (i:=6) sc_law_hall.nd rfl (by walk_at "v") (ae_callTy (call_tuple_A rfl) sim_tupleA (by rfl) T.n_tuple (by decide +kernel) (al_cons (AEO.frz (ao_lc rfl sc_law_hall.nd (ai_range1 (by rfl) T.n_range (al_cons (av 2) al_nil)) (blkOk_cx (own :=[("_law_n",8)]) (by decide +kernel)) (fun _ _ _ _ _=>(ag_name (i:=8) sc_law_hall.nd rfl (by walk_at "v"))) (fun _ _ _ _ _=>ats_nil) (fun _ _ _ _ _=>(ae_sub (ae_call c_law_take hr.m (by rfl) (ar_bor 0 (ar_dat ae_int ar_nil))) ae_int)))) al_nil))) (ass_one (as_app 4 (ae_tup (al_cons (av 5) (al_cons (ae_callTy call_tupRow sim_tupRow (by rfl) T.n_tuple (by decide +kernel) (al_cons (ae_call c_law_strewn hr.m (by rfl) (ar_bor 0 (ar_dat (AEO.frz (ao_lstRg rfl (by rfl) T.n_list (by rfl) T.n_range (av 2))) ar_nil))) al_nil)) (al_cons (av 6) al_nil)))))))) (ass_cons (as_set (i:=7) sc_law_hall.nd rfl (by walk_at "v") (ae_add (ae_tup (al_cons ae_int al_nil)) (ae_callTy (call_tuple_A rfl) sim_tupleA (by rfl) T.n_tuple (by decide +kernel) (al_cons (AEO.frz (ao_lc rfl sc_law_hall.nd (ai_range1 (by rfl) T.n_range (al_cons (ae_sub (av 3) ae_int) al_nil)) (blkOk_cx (own :=[("_law_n",8)]) (by decide +kernel)) (fun _ _ _ _ _=>(ag_name (i:=8) sc_law_hall.nd rfl (by walk_at "v"))) (fun _ _ _ _ _=>ats_nil) (fun _ _ _ _ _=>(ae_sub (ae_call c_law_take hr.m (by rfl) (ar_bor 0 (ar_dat ae_int ar_nil))) ae_int)))) al_nil)))) (ass_one (as_ret (ae_tup (al_cons (av 2) (al_cons (av 4) (al_cons (av 7) (al_cons (ae_call c_law_one_of hr.m (by rfl) (ar_bor 0 (ar_dat (AEO.frz (ao_lst (al_cons ae_int (al_cons ae_int (al_cons ae_int (al_cons ae_int (al_cons ae_int (al_cons ae_int (al_cons ae_int (al_cons ae_int al_nil)))))))))) ar_nil))) al_nil))))))))))),fun args P h => ?_⟩)
 ·obtain⟨_,_,_,rfl,_⟩:=h
  rfl
 ·obtain⟨o,p,m,rfl,b,hm,hp0,hpn,hp,hp4,q⟩:=h
  walk_at "ck"
  refine⟨_,6,_,rfl,b,by omega,by decide,by decide,fun v o1 hv hv2 b1 => ?_⟩
  walk_at "ck"
  refine⟨_,3,_,rfl,b1,by omega,by decide,by decide,fun u o2 hu hu2 b2 => ?_⟩
  walk_at "ck"
  obtain⟨k,rfl⟩:=Int.eq_ofNat_of_zero_le hv
  obtain⟨c,rfl⟩:=Int.eq_ofNat_of_zero_le hu
  rw [show (1:Int)+(k:Int)=((1+k:Nat):Int)by omega,show (1:Int)+(c:Int)=((1+c:Nat):Int)by omega]
  obtain⟨many,ema⟩:∃t,t=1+k:=⟨_,rfl⟩
  obtain⟨coins,eco⟩:∃t,t=1+c:=⟨_,rfl⟩
  rw [<- ema,<- eco]
  have hm6:many<=6:=by omega
  have hm1:0<many:=by omega
  have hc3:coins<=3:=by omega
  have hc1:1<=coins:=by omega
  refine⟨by show (tx p).length<=1000;rw [tx_len];omega, ?_⟩
  rw [hue_sg hp hpn,List.map_map]
  rw [show (PyData.str∘fun c=>tx [c])=sg from rfl]
  have hd4:=hue_len p
  have hdl:∀c∈hueL p,Lo c:=fun c hc=>(hue_mem.mp hc).1
  obtain⟨d,ed⟩:∃d,hueL p=d:=⟨_,rfl⟩
  rw [ed]at hd4 hdl ⊢
  refine forL_st sg d (fun dd r env =>∃(ts:List Tn) (o3:List PyData) (x5 x6 x7 x8:Cf.Sl),ts.map (·.c)=dd/\DnOk many ts/\(∀t∈ts,∀x∈t.f,x.natAbs<=4)/\BoxOk (m+2+2^4*dd.length) o3/\env = [.own (.lst o3),.dat (.str (tx p)),.dat (.int (many:Nat)),.dat (.int (coins:Nat)),.own (.lst (ts.map tnD)),x5,x6,x7,x8]) ?_ ?_ ⟨[],o2,_,_,_,_,rfl,(fun _ h=>nomatch h),(fun _ h=>nomatch h),b2.mono (by rw [List.length_nil];omega),rfl⟩
  ·rintro env ⟨ts,o3,x5,x6,x7,x8,hcs,hD,hfb,b3,rfl⟩
   walk_at "ck"
   refine⟨⟨by omega,by omega⟩, ?_⟩
   rw [show ((coins:Int)-1).toNat=coins-1 by omega]
   refine lcL_rn (coins-1) (by omega) (fun ou env =>∃(o6:List PyData) (y:Cf.Sl),(∀x∈ou,x.natAbs<=3)/\BoxOk (m+2+2^4*d.length+ou.length) o6/\env = [.own (.lst o6),.dat (.str (tx p)),.dat (.int (many:Nat)),.dat (.int (coins:Nat)),.own (.lst (ts.map tnD)),x5,x6,x7,y]) ?_ ?_ ⟨o3,x8,(fun _ h=>by cases h),b3,rfl⟩
   ·rintro f env hf ⟨o6,y,hfc,b6,rfl⟩
    walk_at "ck"
    refine⟨sz_of (by omega), ?_⟩
    refine⟨o6,_,_,rfl,b6,by omega,.inl ⟨_,.inl rfl,by decide,by decide,fun x o7 hx b7 => ?_⟩⟩
    obtain⟨mm,rfl,h0,h12⟩:∃mm:Int,x = .int mm/\0<=mm/\mm<=12:=by
     simp only [List.mem_cons,List.not_mem_nil,or_false]at hx
     rcases hx with rfl | rfl | rfl | rfl | rfl | rfl | rfl | rfl <;> exact⟨_,rfl,by decide,by decide⟩
    walk_at "ck"
    have hl4:ts.length<=4:=by
     have:=congrArg List.length hcs
     rw [List.length_map]at this
     omega
    exact q many ts (1::f) mm o7 ⟨⟨hm1,by omega,hD,by omega,by rw [List.length_cons];omega,h0⟩,hm6,by rw [hcs,ed],by rw [List.length_cons];omega,by rw [List.length_cons];omega,fun x hx=>by
     rcases List.mem_cons.mp hx with rfl | z
     ·decide
     ·exact hfc x z,h12,hfb⟩ (b7.mono (by omega))
   ·rintro ou env Kt Kf hou ⟨o6,y,hfc,b6,rfl⟩ hKt
    walk_at "ck"
    refine⟨_,7,_,rfl,b6,by omega,by decide,by decide,fun w o7 hw hw2 b7 => ?_⟩
    walk_at "ck"
    refine hKt _ _ ⟨o7,_,fun x hx => ?_,b7.mono (by rw [List.length_append,List.length_singleton];omega),rfl⟩
    rcases List.mem_append.mp hx with z | z
    ·exact hfc x z
    ·rw [List.mem_singleton.mp z]
     omega
  ·rintro dd s r env G e0 ⟨ts,o3,x5,x6,x7,x8,hcs,hD,hfb,b3,rfl⟩ hG
   have hdl0:=congrArg List.length e0
   rw [List.length_append,List.length_cons]at hdl0
   have htl:ts.length=dd.length:=by rw [<- hcs,List.length_map]
   walk_at "ck"
   refine⟨⟨by omega,by omega⟩, ?_⟩
   rw [show ((many:Nat):Int).toNat=many from rfl]
   refine lcL_rn many (by omega) (fun ou env =>∃(o6:List PyData) (y:Cf.Sl),(∀x∈ou,x.natAbs<=4)/\BoxOk (m+2+2^4*dd.length+ou.length) o6/\env = [.own (.lst o6),.dat (.str (tx p)),.dat (.int (many:Nat)),.dat (.int (coins:Nat)),.own (.lst (ts.map tnD)),.dat (sg s),x6,x7,y]) ?_ ?_ ⟨o3,x8,(fun _ h=>by cases h),b3,rfl⟩
   ·rintro f env hf ⟨o6,y,hfc,b6,rfl⟩
    walk_at "ck"
    refine⟨⟨by omega,by omega⟩, ?_⟩
    rw [show ((many:Nat):Int).toNat=many from rfl,rgD_nat]
    refine⟨_,_,_,_,rfl,b6,.inl rfl,by rw [List.length_map,List.length_range];omega,by rw [List.length_map,List.length_range];omega,fun ys o7 hp4 b7 => ?_⟩
    obtain⟨row,rfl,hrow⟩:=perm_of_map (fun k:Nat=>PyData.int (k:Nat)) _ hp4
    rw [List.length_map,List.length_range]at b7
    have rl:row.length=many:=by rw [hrow.length_eq,List.length_range]
    rw [show row.map (fun k:Nat=>PyData.int (k:Nat))=(rwI row).map .int by rw [List.map_map];rfl]
    walk_at "ck"
    have ed2:ts.map tnD ++ [PyData.tuple [sg s,rowPD (rwI row),.tuple (f.map .int)]]=(ts ++ [(⟨s,row,f⟩:Tn)]).map tnD:=by
     rw [List.map_append (l₂ :=[_])]
     rfl
    rw [ed2]
    refine⟨sizeLine_big (by omega),hG _ ⟨ts ++ [(⟨s,row,f⟩:Tn)],o7,_,_,_,_,by rw [List.map_append,hcs];rfl,fun t ht => ?_,fun t ht => ?_,b7.mono (by rw [List.length_append,List.length_singleton];omega),rfl⟩⟩
    ·rcases List.mem_append.mp ht with z | z
     ·exact hD t z
     ·rw [List.mem_singleton.mp z]
      exact⟨hdl s (by rw [e0];simp),rl,hf,hrow.nodup_iff.mpr List.nodup_range,fun y hy=>List.mem_range.mp (hrow.mem_iff.mp hy)⟩
    ·rcases List.mem_append.mp ht with z | z
     ·exact hfb t z
     ·rw [List.mem_singleton.mp z]
      exact hfc
   ·rintro ou env Kt Kf hou ⟨o6,y,hfc,b6,rfl⟩ hKt
    walk_at "ck"
    refine⟨_,9,_,rfl,b6,by omega,by decide,by decide,fun w o7 hw hw2 b7 => ?_⟩
    walk_at "ck"
    refine hKt _ _ ⟨o7,_,fun x hx => ?_,b7.mono (by rw [List.length_append,List.length_singleton];omega),rfl⟩
    rcases List.mem_append.mp hx with z | z
    ·exact hfc x z
    ·rw [List.mem_singleton.mp z]
     omega
theorem zip_ints:∀{p q:List Int},∀d∈zipD (p.map .int) (q.map .int),∃x∈p,∃y∈q,d=PyData.tuple [.int x,.int y]
 | [],_,d,h=>by cases h
 | _::_,[],d,h=>by cases h
 | a::p,b::q,d,h=>by
  rcases List.mem_cons.mp h with rfl | z
  ·exact⟨a,.head _,b,.head _,rfl⟩
  ·obtain⟨x,hx,y,hy,e⟩:=zip_ints (p:=p) (q:=q) d z
   exact⟨x,.tail _ hx,y,.tail _ hy,e⟩
theorem small_mul{x y:Int}(h:x.natAbs<=2^20)(k:y.natAbs<=2^20):Cf.MulOk x y := .big h k (by decide)
def R_priced:ASp:=fun args P =>∃(o:List PyData) (p:List Nat) (many:Nat) (ts:List Tn) (fac:List Int) (mm paid:Int) (m:Nat),args = [.own (.lst o),.dat (dncP many ts fac mm),.dat (.int paid)]/\BoxOk m o/\m<2^36/\HallOk p many ts fac mm/\paid.natAbs<=2^10 /\
 ∀(cost:List Int) o',cost.length=fac.length->(∀x∈cost,x.natAbs<=2^12)->BoxOk (m+2^3) o'->P (.dat (pd cost)) [.own (.lst o'),.non,.non]
theorem sc_law_priced:FnScope ["_law_box","_law_odd","_law_paid","_law_cost","_law_n","_law_m"] ["_law_box","_law_odd","_law_paid"] (defScope s_law_priced):=⟨rfl,rfl,rfl,by decide +kernel,rfl,by decide +kernel,by decide +kernel⟩
theorem ok_law_priced(F:FunD K "_law_priced" "_law_priced" (defArgs s_law_priced) (defBody s_law_priced) (defScope s_law_priced) dvs kws f fd)(T:Txt mg)(c_law_take:Cal P w K mg base 1 "_law_take" ["_law_box","_law_many"] R_take):FnG P w K mg base CX0 3 f fd ["_law_box","_law_odd","_law_paid"] (spA R_priced):=by
 refine okD F sc_law_priced [0] (fun args P h => ?_) (by decide) (fun cdv A outer s H E hr=>⟨_,_,(ass_cons (as_setO (i:=3) sc_law_priced.nd rfl (by walk_at "v") (ao_add (AEO.frz (ao_lst (al_cons ae_int al_nil))) (AEO.frz (ao_lc rfl sc_law_priced.nd (ai_any (ae_sl (ae_ix (av 1) ae_int) (ap_some ae_int) ap_none)) (blkOk_cx (own :=[("_law_n",4)]) (by decide +kernel)) (fun _ _ _ _ _=>(ag_name (i:=4) sc_law_priced.nd rfl (by walk_at "v"))) (fun _ _ _ _ _=>ats_nil) (fun _ _ _ _ _=>(ae_sub (ae_call c_law_take hr.m (by rfl) (ar_bor 0 (ar_dat ae_int ar_nil))) ae_int)))))) (ass_cons (as_setI 3 (ae_add (ae_sub (av 2) (ae_pkX 3 (ae_callB (cr_sum rfl) sim_sum (by rfl) T.n_sum (by decide +kernel) (al_cons (AEO.frz (ao_lc rfl sc_law_priced.nd (ai_zipM (by rfl) T.n_zip (al_cons (ae_sl (ae_ix (av 1) ae_int) (ap_some ae_int) ap_none) (al_cons (ae_sl (av 3) (ap_some ae_int) ap_none) al_nil))) (blkOk_cx (own :=[("_law_n",4),("_law_m",5)]) (by decide +kernel)) (fun _ _ _ _ _=>(ag_tupk (K':=K) rfl (n:=2) rfl (ags_cons (ag_name (i:=4) sc_law_priced.nd rfl (by walk_at "v")) (ags_cons (ag_name (i:=5) sc_law_priced.nd rfl (by walk_at "v")) ags_nil)))) (fun _ _ _ _ _=>ats_nil) (fun _ _ _ _ _=>(ae_mulA (av 4) (av 5))))) al_nil)))) (ae_mulA (ae_ix (av 1) ae_int) (ae_sub (ae_call c_law_take hr.m (by rfl) (ar_bor 0 (ar_dat ae_int ar_nil))) ae_int))) ae_int) (ass_one (as_ret (ae_callTy (call_tuple_A rfl) sim_tupleA (by rfl) T.n_tuple (by decide +kernel) (al_cons (av 3) al_nil)))))),fun args P h => ?_⟩)
 ·obtain⟨_,_,_,_,_,_,_,_,rfl,_⟩:=h
  rfl
 ·obtain⟨o,p,many,ts,fac,mm,paid,m,rfl,b,hm,hD,hpb,q⟩:=h
  have f1:=hD.f1
  have f3:=hD.f3
  have m12:=hD.m12
  have m0:=hD.w.m0
  have hfb:=hD.fb
  clear hD
  match fac,f1,f3,hfb,q with
  | a::fr,f1,f3,hfb,q => ?_
  rw [List.length_cons]at f3
  unfold dncP
  rw [show pd (a::fr) = .tuple (PyData.int a::fr.map .int)from rfl]
  walk_at "ck"
  rw [show cutL (PyData.int a::fr.map .int) (some 1) none=fr.map .int from cutL_from _ 1]
  refine lcL_ind (fun ds acc env =>∃(ps:List Int) (o6:List PyData) (x4:Cf.Sl),ds.length+ps.length=fr.length/\acc=ps.map .int/\(∀x∈ps,x.natAbs<=4)/\BoxOk (m+ps.length) o6/\env = [.own (.lst o6),.dat (.tuple [.int (many:Nat),.list (ts.map tnD),.tuple (PyData.int a::fr.map .int),.int mm]),.dat (.int paid),.non,x4,.non]) ?_ ?_ _ _ _ ⟨[],o,_,by rw [List.length_map];rfl,rfl,(fun _ h=>by cases h),b,rfl⟩
  rotate_left
  ·rintro d ds acc env ih ⟨ps,o6,x4,hl,rfl,hps,b6,rfl⟩
   rw [List.length_cons]at hl
   walk_at "ck"
   refine⟨_,9,_,rfl,b6,by omega,by decide,by decide,fun v o7 hv hv2 b7 => ?_⟩
   walk_at "ck"
   refine⟨sizeLine_big (by omega),ih _ _ ⟨ps ++ [v-4],o7,_,by rw [List.length_append,List.length_singleton];omega,by rw [List.map_append];rfl,fun x hx => ?_,b7.mono (by rw [List.length_append,List.length_singleton];omega),rfl⟩⟩
   rcases List.mem_append.mp hx with z | z
   ·exact hps x z
   ·rw [List.mem_singleton.mp z];omega
  rintro acc env ⟨ps,o6,x4,hl,rfl,hps,b6,rfl⟩
  have hpl:ps.length=fr.length:=by simpa using hl
  walk_at "ck"
  refine⟨sz_of (by omega), ?_⟩
  rw [show cutL (PyData.int a::fr.map .int) (some 1) none=fr.map .int from cutL_from _ 1,show cutL (PyData.int 0::ps.map .int) (some 1) none=ps.map .int from cutL_from _ 1]
  refine lcL_ind (fun ds acc env =>∃(dn:List Int) (x4 x5:Cf.Sl),ds.length+dn.length<=2/\(∀d∈ds,∃x∈fr,∃y∈ps,d = .tuple [.int x,.int y])/\acc=dn.map .int/\dn.sum.natAbs<=12*dn.length/\env = [.own (.lst o6),.dat (.tuple [.int (many:Nat),.list (ts.map tnD),.tuple (PyData.int a::fr.map .int),.int mm]),.dat (.int paid),.dat (.list (PyData.int 0::ps.map .int)),x4,x5]) ?_ ?_ _ _ _ ⟨[],_,_, ?_,zip_ints,rfl,by decide,rfl⟩
  ·rintro acc env ⟨dn,x4,x5,hdl,-,rfl,hdn,rfl⟩
   have hdl:dn.length<=2:=by simpa using hdl
   walk_at "ck"
   refine⟨dn,rfl, ?_⟩
   walk_at "ck"
   refine⟨box_noLists b6, ?_⟩
   refine⟨_,3,_,rfl,b6,by omega,by decide,by decide,fun v o8 hv hv2 b8 => ?_⟩
   walk_at "ck"
   have hv1:(v-1).natAbs<=1:=by omega
   have hmm:(mm*(v-1)).natAbs<=12:=by
    rw [Int.natAbs_mul]
    exact Nat.mul_le_mul (show mm.natAbs<=12 by omega) hv1
   have hs:=Int.natAbs_add_le (paid-dn.sum) (mm*(v-1))
   refine⟨small_mul (by omega) (by omega),q ((paid-dn.sum+mm*(v-1))::ps) o8 (by rw [List.length_cons,List.length_cons,hpl]) (fun x hx => ?_) (b8.mono (by omega))⟩
   rcases List.mem_cons.mp hx with rfl | z
   ·omega
   ·have:=hps x z
    omega
  ·rintro d ds acc env ih ⟨dn,x4,x5,hdl,hds,rfl,hdn,rfl⟩
   obtain⟨x,hx,y,hy,rfl⟩:=hds d (.head _)
   rw [List.length_cons]at hdl
   have b1:=hfb x (.tail _ hx)
   have b2:=hps y hy
   have b3:(x*y).natAbs<=12:=by rw [Int.natAbs_mul];exact Nat.mul_le_mul b1 b2
   have b4:=Int.natAbs_add_le dn.sum (x*y)
   walk_at "ck"
   refine⟨small_mul (by omega) (by omega),sizeLine_big (by omega),ih _ _ ⟨dn ++ [x*y],_,_,by rw [List.length_append,List.length_singleton];omega,fun d hd=>hds d (.tail _ hd),by rw [List.map_append];rfl, ?_,rfl⟩⟩
   rw [List.sum_append,List.length_append,List.length_singleton,List.sum_cons,List.sum_nil,Int.add_zero]
   omega
  ·unfold zipD
   rw [List.length_map,List.length_zip,List.length_map,List.length_map]
   show _+0<=2
   omega
def R_home_way:ASp:=fun args P =>∃(o:List PyData) (p:List Nat) (many:Nat) (ts:List Tn) (fac:List Int) (mm:Int) (m:Nat),args = [.own (.lst o),.dat (dncP many ts fac mm),.dat (.str (tx p))]/\BoxOk m o/\m<2^36/\p ≠ []/\(∀c∈p,Lo c)/\p.length<=4/\HallOk p many ts fac mm /\
 ∀(l:List Nat) o',Lts l->OfH p l->l.length<=28->BoxOk (m+2^4) o'->P (.dat (.str (tx l))) [.own (.lst o'),.non,.non]
theorem sc_law_home_way:FnScope ["_law_box","_law_odd","_law_pool","_law_one","_law_steps_here","_law_turn"] ["_law_box","_law_odd","_law_pool"] (defScope s_law_home_way):=⟨rfl,rfl,rfl,by decide +kernel,rfl,by decide +kernel,by decide +kernel⟩
theorem ok_law_home_way(F:FunD K "_law_home_way" "_law_home_way" (defArgs s_law_home_way) (defBody s_law_home_way) (defScope s_law_home_way) dvs kws f fd)(T:Txt mg)(c_law_danced:Cal P w K mg base 3 "_law_danced" ["_law_dance","_law_steps_here"] R_danced)(c_law_steps:Cal P w K mg base 3 "_law_steps" ["_law_box","_law_pool","_law_many"] R_lsteps):FnG P w K mg base CX0 4 f fd ["_law_box","_law_odd","_law_pool"] (spA R_home_way):=by
 refine okD F sc_law_home_way [0] (fun args P h => ?_) (by decide) (fun cdv A outer s H E hr=>⟨_,_,(ass_cons (as_set (i:=3) sc_law_home_way.nd rfl (by walk_at "v") (ae_call c_law_steps hr.m (by rfl) (ar_bor 0 (ar_dat (av 2) (ar_dat ae_int ar_nil))))) (ass_cons (as_set (i:=4) sc_law_home_way.nd rfl (by walk_at "v") (av 3)) (ass_cons (as_for PassesOwn.never rfl (ai_range1 (by rfl) T.n_range (al_cons (ae_ix (av 1) ae_int) al_nil)) (ag_name (i:=5) sc_law_home_way.nd rfl (by walk_at "v")) (ass_one (as_set (i:=4) sc_law_home_way.nd rfl (by walk_at "v") (ae_if (at_eq (Cf.RoomG.u64 hr) (ae_ix (ae_call c_law_danced hr.m (by rfl) (ar_dat (av 1) (ar_dat (av 4) ar_nil))) ae_int) ae_int) (av 4) (ae_add (av 4) (av 3)))))) (ass_one (as_ret (av 4)))))),fun args P h => ?_⟩)
 ·obtain⟨_,_,_,_,_,_,_,rfl,_⟩:=h
  rfl
 ·obtain⟨o,p,many,ts,fac,mm,m,rfl,b,hm,hp0,hp,hp4,hD,q⟩:=h
  walk_at "ck"
  refine⟨_,p,4,m,rfl,b,by omega,hp0,hp,by omega,by decide,fun w o1 hw hwO hwl b1 => ?_⟩
  walk_at "ck"
  rw [show dncP many ts fac mm = .tuple [.int (many:Nat),.list (ts.map tnD),pd fac,.int mm]from rfl]
  have hm6:=hD.mb
  have hm1:=hD.w.h0
  have htl:=hD.tl
  have hnd:=hD.nd
  walk_at "ck"
  refine⟨⟨by omega,by omega⟩, ?_⟩
  rw [show ((many:Nat):Int).toNat=many from rfl,rgD_nat]
  refine forL_st (fun k:Nat=>PyData.int (k:Nat)) (List.range many) (fun d r env =>∃(l:List Nat) (x5:Cf.Sl),Lts l/\OfH p l/\l.length<=4*(d.length+1)/\env = [.own (.lst o1),.dat (dncP many ts fac mm),.dat (.str (tx p)),.dat (.str (tx w)),.dat (.str (tx l)),x5]) ?_ ?_ ⟨w,_,hw,hwO,by rw [List.length_nil];omega,rfl⟩
  ·rintro env ⟨l,x5,hl,hlO,hll,rfl⟩
   rw [List.length_range]at hll
   walk_at "ck"
   exact q l o1 hl hlO (by omega) (b1.mono (by omega))
  ·rintro d s r env G e0 ⟨l,x5,hl,hlO,hll,rfl⟩ hG
   have hdl0:=congrArg List.length e0
   rw [List.length_append,List.length_cons,List.length_range]at hdl0
   walk_at "ck"
   refine⟨many,ts,fac,mm,l,rfl,hD.w.ok,hm1,by omega,hnd,by omega,hl,by omega,by rw [hD.cs];exact ofh_cs hp hlO, ?_⟩
   walk_at "ck"
   refine⟨fun _=>hG _ ⟨l,_,hl,hlO,by rw [List.length_append,List.length_singleton];omega,rfl⟩,fun _=>⟨sz_of (by rw [tx_len,tx_len];omega),hG _ ⟨l++w,_,hl.app hw,hlO.app hwO,by rw [List.length_append,List.length_append,List.length_singleton];omega,by rw [tx_app]⟩⟩⟩
def LpK(p:List Nat)(k:Nat)(lp:List Nat×List Int):Prop:=Lts lp.1/\OfH p lp.1/\lp.1.length<=28/\lp.2.length=k /\∀x∈lp.2,x.natAbs<=2^12
theorem sn_txt{n:Nat}{l:List Nat}(h:Lts l)(hl:l.length<=31):Sn n 20000 (.str (tx l)):=by
 have hs:Sh n l.length (.str (tx l)):=Sh.str (tx_ok fun c hc=>Nat.lt_trans (lt128 (h c hc)) (by decide)) (fun c hc=>Nat.lt_trans (lt128 (h c hc)) (by decide)) (by rw [tx_len];exact Nat.le_refl _)
 refine⟨⟨_,hs⟩, ?_⟩
 have a1:=PyData.shown_le 573 (by decide) _ hs.lf
 have a2:(PyData.str (tx l)).weight<=31:=Nat.le_trans hs.wt hl
 have a3:=Nat.mul_le_mul_left (573+2) a2
 omega
theorem sn_ints{n k:Nat}{ns:List Int}(h:∀x∈ns,x.natAbs<=2^12)(hl:ns.length<=8):Sn (n+1) 5000 (.tuple (ns.map .int)):=by
 refine((Sn.seq (n:=n) (L:=573) (l:=8) (fun d hd => ?_) (by rw [List.length_map];exact hl)).2).up (Nat.le_refl _) (by decide)
 obtain⟨i,hi,rfl⟩:=List.mem_map.mp hd
 exact Sn.int (w:=13) (Nat.lt_of_le_of_lt (h i hi) (by decide)) (by decide)
theorem sn_all{p:List Nat}{many:Nat}{ts:List Tn}{fac:List Int}{mm:Int}{ls:Lps}(D:HallOk p many ts fac mm)(hls:∀lp∈ls,LpK p fac.length lp)(hl:ls.length<=8):∃n L,Sn n L (.list [dncU many ts fac mm,.list (ls.map lpD)])/\n<=32/\L<=2^24:=by
 have f3:=D.f3
 have hm6:=D.mb
 have hmm:=D.m12
 have hm0:=D.w.m0
 have sm:∀{x:Int},x.natAbs<=2^12->Sn 4 573 (.int x):=fun h=>Sn.int (w:=13) (Nat.lt_of_le_of_lt h (by decide)) (by decide)
 have a1:Sn 4 400000 (.list (ts.map tnU)):=by
  refine((Sn.seq (n:=3) (L:=60009) (l:=4) (fun d hd => ?_) (by rw [List.length_map];exact D.tl)).1).up (Nat.le_refl _) (by decide)
  obtain⟨t,ht,rfl⟩:=List.mem_map.mp hd
  have hk:=D.w.ok t ht
  refine((Sn.seq (n:=2) (L:=20000) (l:=3) (fun d hd => ?_) (by simp)).2).up (Nat.le_refl _) (by decide)
  simp only [List.mem_cons,List.not_mem_nil,or_false]at hd
  rcases hd with rfl | rfl | rfl
  ·exact sn_txt (fun c hc=>by rw [List.mem_singleton.mp hc];exact hk.lo.lt) (by simp)
  ·refine(sn_ints (n:=1) (k:=0) (fun x hx => ?_) (by rw [List.length_map,hk.rl];omega)).up (Nat.le_refl _) (by decide)
   obtain⟨y,hy,rfl⟩:=List.mem_map.mp hx
   have:=hk.lt y hy
   omega
  ·exact(sn_ints (n:=1) (k:=0) (fun x hx=>Nat.le_trans (D.tb t ht x hx) (by decide)) (by rw [hk.fl];omega)).up (Nat.le_refl _) (by decide)
 have a2:Sn 5 1700000 (dncU many ts fac mm):=by
  refine((Sn.seq (n:=4) (L:=400000) (l:=4) (fun d hd => ?_) (by simp)).2).up (Nat.le_refl _) (by decide)
  simp only [List.mem_cons,List.not_mem_nil,or_false]at hd
  rcases hd with rfl | rfl | rfl | rfl
  ·exact(sm (by omega)).up (Nat.le_refl _) (by decide)
  ·exact a1
  ·exact(sn_ints (n:=1) (k:=0) (fun x hx=>Nat.le_trans (D.fb x hx) (by decide)) (by omega)).up (by decide) (by decide)
  ·exact(sm (by omega)).up (Nat.le_refl _) (by decide)
 have a3:Sn 5 1700000 (.list (ls.map lpD)):=by
  refine((Sn.seq (n:=4) (L:=60009) (l:=8) (fun d hd => ?_) (by rw [List.length_map];exact hl)).1).up (Nat.le_refl _) (by decide)
  obtain⟨lp,hlp,rfl⟩:=List.mem_map.mp hd
  obtain⟨k1,k2,k3,k4,k5⟩:=hls lp hlp
  refine((Sn.seq (n:=3) (L:=20000) (l:=3) (fun d hd => ?_) (by simp)).2).up (Nat.le_refl _) (by decide)
  simp only [List.mem_cons,List.not_mem_nil,or_false]at hd
  rcases hd with rfl | rfl
  ·exact sn_txt k1 (by omega)
  ·exact(sn_ints (n:=2) (k:=0) k5 (by omega)).up (Nat.le_refl _) (by decide)
 refine⟨6,_,(Sn.seq (n:=5) (L:=1700000) (l:=2) (fun d hd => ?_) (by simp)).1,by decide,by decide⟩
 simp only [List.mem_cons,List.not_mem_nil,or_false]at hd
 rcases hd with rfl | rfl
 ·exact a2
 ·exact a3
theorem un_all(many:Nat)(ts:List Tn)(fac:List Int)(mm:Int)(ls:Lps):Un (.list [dncP many ts fac mm,.list (ls.map lpD)]) (.list [dncU many ts fac mm,.list (ls.map lpD)]):=by
 refine .lst (.cons (un_dnc _ _ _ _) (.cons (.same ?_) .nil))
 show noDicts (ls.map lpD)=true
 refine all_of (f:=noDict) (g:=noDicts) rfl (fun _ _=>rfl) fun d hd => ?_
 obtain⟨lp,_,rfl⟩:=List.mem_map.mp hd
 show (true&&(noDict (pd lp.2)&&true))=true
 rw [pd_noD]
 rfl
def R_right:ASp:=fun args P =>∃o,args = [.own (.lst o)]/\BoxOk 0 o /\∀o',P (.dat (.bool true)) [.own (.lst o')]
theorem sc_law_right:FnScope ["_law_box","_law_pool","_law_odd","_law_some","_law_turn","_law_steps_here","_law_there","_law_kept","_law_coins","_law_cost","_law_due","_tab"] ["_law_box"] (defScope s_law_right):=⟨rfl,rfl,rfl,by decide +kernel,rfl,by decide +kernel,by decide +kernel⟩
theorem ok_law_right{c0 P0:Addr}(F:FunD K "_law_right" "_law_right" (defArgs s_law_right) (defBody s_law_right) (defScope s_law_right) dvs kws f fd)(T:Txt mg)(c_law_back:Cal P w K mg base 1 "_law_back" ["_law_steps_here"] R_back)(c_law_colours:Cal P w K mg base 3 "_law_colours" ["_law_box","_law_many"] R_colours)(c_law_dance_right:Cal P w K mg base 4 "_law_dance_right" ["_law_some","_law_coins","_law_steps_here","_law_cost","_law_odd"] R_dance_right)(c_law_danced:Cal P w K mg base 3 "_law_danced" ["_law_dance","_law_steps_here"] R_danced)(c_law_hall:Cal P w K mg base 3 "_law_hall" ["_law_box","_law_pool"] R_hall)(c_law_home_way:Cal P w K mg base 4 "_law_home_way" ["_law_box","_law_odd","_law_pool"] R_home_way)(c_law_one_of:Cal P w K mg base 2 "_law_one_of" ["_law_box","_law_pool"] R_one_of)(c_law_priced:Cal P w K mg base 3 "_law_priced" ["_law_box","_law_odd","_law_paid"] R_priced)(c_law_same:Cal P w K mg base 6 "_law_same" ["_law_found","_law_due"] (R_same 6))(c_law_steps:Cal P w K mg base 3 "_law_steps" ["_law_box","_law_pool","_law_many"] R_lsteps)(c_law_take:Cal P w K mg base 1 "_law_take" ["_law_box","_law_many"] R_take)(c_shows_dance:CalT P w K mg base 6 "shows_dance" ["loops","way","price","thing"] P0 nmT R_shows_dance):FnG P w K mg base CX0 12 f fd ["_law_box"] (spT P0 nmT R_right):=by
 refine okT F sc_law_right [0] (fun args P h => ?_) (by decide) (by decide) (fun cdv A outer s H E hcode hr => ?_)
 ·obtain⟨o,rfl,_⟩:=h
  rfl
 refine⟨_,_,(ass_cons (as_set (i:=1) sc_law_right.nd rfl (by walk_at "v") (ae_call c_law_colours hr.m (by rfl) (ar_bor 0 (ar_dat ae_int ar_nil)))) (ass_cons (as_par2 (i:=2) (j:=3) rfl sc_law_right.nd rfl rfl (by decide) rfl rfl (ar_dat (ae_call c_law_hall hr.m (by rfl) (ar_bor 0 (ar_dat (av 1) ar_nil))) (ar_own (ao_lst al_nil) ar_nil)) (by rfl)) (ass_cons (as_for PassesOwn.never rfl (ai_range1 (by rfl) T.n_range (al_cons (ae_call c_law_take hr.m (by rfl) (ar_bor 0 (ar_dat ae_int ar_nil))) al_nil)) (ag_name (i:=4) sc_law_right.nd rfl (by walk_at "v")) (ass_cons (as_set (i:=5) sc_law_right.nd rfl (by walk_at "v") (ae_call c_law_home_way hr.m (by rfl) (ar_bor 0 (ar_dat (av 2) (ar_dat (av 1) ar_nil))))) (ass_one (as_app 3 (ae_tup (al_cons (av 5) (al_cons (ae_call c_law_priced hr.m (by rfl) (ar_bor 0 (ar_dat (av 2) (ar_dat (ae_add (ae_ix (ae_call c_law_danced hr.m (by rfl) (ar_dat (av 2) (ar_dat (av 5) ar_nil))) ae_int) (ae_callTy call_int1 sim_intOf (by rfl) T.n_int (by decide +kernel) (al_cons (ae_eq (Cf.RoomG.u64 hr) (ae_call c_law_take hr.m (by rfl) (ar_bor 0 (ar_dat ae_int ar_nil))) ae_int) al_nil))) ar_nil)))) al_nil))))))) (ass_cons (as_set (i:=6) sc_law_right.nd rfl (by walk_at "v") (ae_join ae_str (AEO.frz (ao_callB (cr_sortSg hr rfl) sim_sortSg (by rfl) T.n_sorted (by decide +kernel) (al_cons (av 1) al_nil))))) (ass_cons (as_app 3 (ae_tup (al_cons (ae_add (av 6) (ae_call c_law_back hr.m (by rfl) (ar_dat (av 6) ar_nil))) (al_cons (ae_call c_law_priced hr.m (by rfl) (ar_bor 0 (ar_dat (av 2) (ar_dat ae_int ar_nil)))) al_nil)))) (ass_cons (as_par (i:=7) (j:=8) rfl sc_law_right.nd rfl rfl (by decide) rfl rfl (al_cons (ae_callB (cr_repr2 hr) sim_reprU (by rfl) T.n_repr (by decide +kernel) (al_cons (AEO.frz (ao_lst (al_cons (av 2) (al_cons (av 3) al_nil)))) al_nil)) (al_cons (ae_len (by rfl) T.n_len (al_cons (ae_ix (av 2) ae_int) al_nil)) al_nil)) (by rfl)) (ass_cons (as_for PassesOwn.never rfl (ai_range1 (by rfl) T.n_range (al_cons ae_int al_nil)) (ag_name (i:=4) sc_law_right.nd rfl (by walk_at "v")) (ass_cons (as_set (i:=5) sc_law_right.nd rfl (by walk_at "v") (ae_call c_law_one_of hr.m (by rfl) (ar_bor 0 (ar_dat (AEO.frz (ao_lst (al_cons (ae_call c_law_steps hr.m (by rfl) (ar_bor 0 (ar_dat (av 1) (ar_dat ae_int ar_nil)))) (al_cons (ae_call c_law_home_way hr.m (by rfl) (ar_bor 0 (ar_dat (av 2) (ar_dat (av 1) ar_nil)))) al_nil)))) ar_nil)))) (ass_cons (as_set (i:=9) sc_law_right.nd rfl (by walk_at "v") (ae_call c_law_priced hr.m (by rfl) (ar_bor 0 (ar_dat (av 2) (ar_dat (ae_add (ae_ix (ae_call c_law_danced hr.m (by rfl) (ar_dat (av 2) (ar_dat (av 5) ar_nil))) ae_int) (ae_call c_law_one_of hr.m (by rfl) (ar_bor 0 (ar_dat (AEO.frz (ao_lst (al_cons ae_int (al_cons ae_int (al_cons ae_int (al_cons (ae_neg ae_int) (al_cons ae_int al_nil))))))) ar_nil)))) ar_nil))))) (ass_cons (as_set (i:=10) sc_law_right.nd rfl (by walk_at "v") (ae_call c_law_dance_right hr.m (by rfl) (ar_dat (av 3) (ar_dat (av 8) (ar_dat (av 5) (ar_dat (av 9) (ar_dat (av 2) ar_nil))))))) (ass_one (as_if (at_not (at_val (ae_call c_law_same hr.m (by rfl) (ar_dat (ae_callT 11 c_shows_dance hr.m (by rfl) (ar_dat (av 3) (ar_dat (av 5) (ar_dat (av 9) (ar_dat (av 2) ar_nil))))) (ar_dat (av 10) ar_nil))))) (ass_one (as_ret ae_bl)) ass_nil)))))) (ass_one (as_ret (ae_eq (Cf.RoomG.u64 hr) (ae_callB (cr_repr2 hr) sim_reprU (by rfl) T.n_repr (by decide +kernel) (al_cons (AEO.frz (ao_lst (al_cons (av 2) (al_cons (av 3) al_nil)))) al_nil)) (av 7))))))))))),fun args P h => ?_⟩
 ·obtain⟨o,rfl,b,q⟩:=h
  walk_at "ck"
  refine⟨_,3,_,rfl,b,by omega,by decide,by decide,fun p o1 hp0 hpn hp hp4 hp3 b1 => ?_⟩
  walk_at "ck"
  refine⟨_,p,_,rfl,b1,by omega,hp0,hpn,hp,hp4,fun many ts fac mm o2 D b2 => ?_⟩
  walk_at "ck"
  have hm6:=D.mb
  have hm1:=D.w.h0
  have htl:=D.tl
  have hnd:=D.nd
  have f1:=D.f1
  have f3:=D.f3
  have dnc:∀(w:List Nat),Lts w->OfH p w->w.length<=2^10 ->∀Q:Cf.Sl->List Cf.Sl->Prop,Q (.dat (.tuple [.int ((dncL ts w 0 0).1:Nat),.int (dncL ts w 0 0).2])) [.non,.non]->R_danced [.dat (dncP many ts fac mm),.dat (.str (tx w))] Q:=fun w hw hwO hwl Q hQ =>
   ⟨many,ts,fac,mm,w,rfl,D.w.ok,hm1,by omega,hnd,by omega,hw,by omega,by rw [D.cs];exact ofh_cs hp hwO,hQ⟩
  have paid:∀(w:List Nat),w.length<=28->(dncL ts w 0 0).2.natAbs<=112:=fun w hw=>by
   have:=dnc_le D.tb w 0 0
   have h0:(0:Int).natAbs=0:=rfl
   omega
  refine⟨_,4,_,rfl,b2,by omega,by decide,by decide,fun v o3 hv hv4 b3 => ?_⟩
  walk_at "ck"
  obtain⟨k,rfl⟩:=Int.eq_ofNat_of_zero_le hv
  refine⟨⟨by omega,by omega⟩, ?_⟩
  rw [show ((k:Nat):Int).toNat=k from rfl,rgD_nat]
  refine forL_st (fun k:Nat=>PyData.int (k:Nat)) (List.range k) (fun d r env =>∃(ls:Lps) (o4:List PyData) (x4 x5:Cf.Sl),ls.length=d.length/\(∀lp∈ls,LpK p fac.length lp)/\BoxOk (200+2^6*d.length) o4/\env = [.own (.lst o4),.dat (.str (tx p)),.dat (dncP many ts fac mm),.own (.lst (ls.map lpD)),x4,x5,.non,.non,.non,.non,.non,.tab P0 nmT]) ?_ ?_ ⟨[],o3,_,_,rfl,(fun _ h=>nomatch h),b3.mono (by rw [List.length_nil];omega),rfl⟩
  rotate_left
  ·rintro d t r env G e0 ⟨ls,o4,x4,x5,hll,hlk,b4,rfl⟩ hG
   have hdl0:=congrArg List.length e0
   rw [List.length_append,List.length_cons,List.length_range]at hdl0
   walk_at "ck"
   refine⟨_,p,many,ts,fac,mm,_,rfl,b4,by omega,hp0,hp,hp4,D,fun l o5 hl hlO hl28 b5 => ?_⟩
   walk_at "ck"
   refine dnc l hl hlO (by omega) _ ?_
   have hpd:=paid l hl28
   walk_at "ck"
   refine⟨_,12,_,rfl,b5,by omega,by decide,by decide,fun u o6 hu hu2 b6 => ?_⟩
   walk_at "ck"
   refine⟨_,p,many,ts,fac,mm,_,_,rfl,b6,by omega,D,by split <;> omega,fun cost o7 hcl hcb b7 => ?_⟩
   walk_at "ck"
   rw [show ls.map lpD ++ [PyData.tuple [.str (tx l),pd cost]]=(ls ++ [(l,cost)]).map lpD by rw [List.map_append];rfl]
   refine⟨sizeLine_big (by omega),hG _ ⟨ls ++ [(l,cost)],o7,_,_,by rw [List.length_append,List.length_append,hll];rfl,fun lp hlp => ?_,b7.mono (by rw [List.length_append,List.length_singleton];omega),rfl⟩⟩
   rcases List.mem_append.mp hlp with z | z
   ·exact hlk lp z
   ·rw [List.mem_singleton.mp z]
    exact⟨hl,hlO,hl28,hcl,hcb⟩
  rintro env ⟨ls,o4,x4,x5,hll,hlk,b4,rfl⟩
  rw [List.length_range]at hll b4
  walk_at "ck"
  rw [hue_sg hp hpn]
  have hH4:=hue_len p
  have hHl:∀c∈hueL p,Lo c:=fun c hc=>(hue_mem.mp hc).1
  have hHO:OfH p (hueL p):=fun c hc=>⟨c,(hue_mem.mp hc).2,.inl rfl⟩
  have hHt:Lts (hueL p):=fun c hc=>(hHl c hc).lt
  refine⟨by rw [tx_len];omega,(hueL p).map fun c=>tx [c],rfl,join_ok1 (by omega), ?_⟩
  rw [show Str.ofString "" =(⟨#[]⟩:Str)from rfl,join_tx (hueL p)]
  refine⟨hueL p,rfl,hHt,by omega, ?_⟩
  generalize hueL p=H at hH4 hHl hHO hHt ⊢
  walk_at "ck"
  refine⟨sz_of (by rw [tx_len,tx_len,binv_len];omega),_,p,many,ts,fac,mm,_,_,rfl,b4,by omega,D,by decide,fun cost o5 hcl hcb b5 => ?_⟩
  walk_at "ck"
  rw [tx_app,show ls.map lpD ++ [PyData.tuple [.str (tx (H++binv H)),pd cost]]=(ls ++ [(H++binv H,cost)]).map lpD by rw [List.map_append];rfl]
  obtain⟨ls2,e2⟩:∃z,ls ++ [(H++binv H,cost)]=z:=⟨_,rfl⟩
  have hk2:∀lp∈ls2,LpK p fac.length lp:=fun lp hlp=>by
   rw [<- e2]at hlp
   rcases List.mem_append.mp hlp with z | z
   ·exact hlk lp z
   ·rw [List.mem_singleton.mp z]
    exact⟨hHt.app hHt.binv,hHO.app (OfH.binv hp hHO),by rw [List.length_append,binv_len];omega,hcl,hcb⟩
  have hl2:ls2.length<=8:=by rw [<- e2,List.length_append,List.length_singleton];omega
  rw [e2]
  refine⟨sizeLine_big (by omega),rfl,_,un_all many ts fac mm ls2,sn_all D hk2 hl2, ?_⟩
  rw [show dncP many ts fac mm = .tuple [.int (many:Nat),.list (ts.map tnD),pd fac,.int mm]from rfl]
  walk_at "ck"
  obtain⟨S,eS⟩:∃S,(PyData.list [dncU many ts fac mm,.list (ls2.map lpD)]).shown=S:=⟨_,rfl⟩
  rw [eS,show Int.toNat 12=12 from rfl,rgD_nat]
  have k3:k<=3:=by omega
  have mo:∀{x y:Int},x.natAbs<=2^12->y.natAbs<=3->Cf.MulOk x y/\Cf.MulOk y x:=fun h1 h2=>⟨small_mul (by omega) (by omega),small_mul (by omega) (by omega)⟩
  have hst:steps ls2<=8*28:=Nat.le_trans (steps_le fun lp h=>(hk2 lp h).2.2.1) (Nat.mul_le_mul_right _ hl2)
  refine⟨⟨by decide,by decide⟩, ?_⟩
  refine forL_st (fun k:Nat=>PyData.int (k:Nat)) (List.range 12) (fun d r env =>∃(o6:List PyData) (x4 x5 x9 x10:Cf.Sl),BoxOk (600+2^6*d.length) o6/\env = [.own (.lst o6),.dat (.str (tx p)),.dat (dncP many ts fac mm),.dat (.list (ls2.map lpD)),x4,x5,.dat (.str (tx H)),.dat (.str S),.dat (.int (fac.length:Nat)),x9,x10,.tab P0 nmT]) ?_ ?_ ⟨o5,_,_,_,_,b5.mono (by rw [List.length_nil];omega),rfl⟩
  ·rintro env ⟨o6,x4,x5,x9,x10,b6,rfl⟩
   walk_at "ck"
   refine⟨rfl,_,un_all many ts fac mm ls2,sn_all D hk2 hl2, ?_⟩
   rw [eS]
   walk_at "ck"
   exact q o6
  ·rintro d t r env G e0 ⟨o6,x4,x5,x9,x10,b6,rfl⟩ hG
   have hdl0:=congrArg List.length e0
   rw [List.length_append,List.length_cons,List.length_range]at hdl0
   walk_at "ck"
   refine⟨_,p,12,_,rfl,b6,by omega,hp0,hp,by omega,by decide,fun w o7 hw hwO hwl b7 => ?_⟩
   walk_at "ck"
   refine⟨_,p,many,ts,fac,mm,_,rfl,b7,by omega,hp0,hp,hp4,D,fun w2 o8 hw2 hwO2 hwl2 b8 => ?_⟩
   walk_at "ck"
   refine⟨_,_,_,rfl,b8,by omega,.inl ⟨_,.inl rfl,by simp,by simp,fun x o9 hx b9 => ?_⟩⟩
   obtain⟨l,rfl,hl,hlO,hl28⟩:∃l,x = .str (tx l)/\Lts l/\OfH p l/\l.length<=28:=by
    simp only [List.mem_cons,List.not_mem_nil,or_false]at hx
    rcases hx with rfl | rfl
    ·exact⟨w,rfl,hw,hwO,by omega⟩
    ·exact⟨w2,rfl,hw2,hwO2,by omega⟩
   walk_at "ck"
   refine dnc l hl hlO (by omega) _ ?_
   have hpd:=paid l hl28
   walk_at "ck"
   refine⟨_,_,_,rfl,b9,by omega,.inl ⟨_,.inl rfl,by simp,by simp,fun y o10 hy b10 => ?_⟩⟩
   obtain⟨j,rfl,hj⟩:∃j:Int,y = .int j/\j.natAbs<=2:=by
    simp only [List.mem_cons,List.not_mem_nil,or_false]at hy
    rcases hy with rfl | rfl | rfl | rfl | rfl <;> exact⟨_,rfl,by decide⟩
   walk_at "ck"
   have hpj:=Int.natAbs_add_le (dncL ts l 0 0).2 j
   refine⟨_,p,many,ts,fac,mm,_,_,rfl,b10,by omega,D,by omega,fun cost o11 hcl hcb b11 => ?_⟩
   walk_at "ck"
   refine⟨fac.length,ls2,l,cost,many,ts,fac,mm,rfl,D.w,hnd,by omega,by omega,by omega,fun lp h=>⟨(hk2 lp h).1,by have:=(hk2 lp h).2.2.1;omega,(hk2 lp h).2.2.2.1,fun x hx y hy=>mo ((hk2 lp h).2.2.2.2 x hx) (D.fb y hy)⟩,hl,by omega,hcl,fun x hx y hy=>mo (hcb x hx) (D.fb y hy), ?_⟩
   walk_at "ck"
   refine⟨fac.length,ls2,l,cost,many,ts,fac,mm,rfl,D.w,by omega,by omega,fun lp h=>⟨(hk2 lp h).1,by have:=(hk2 lp h).2.2.1;omega,(hk2 lp h).2.2.2.1,fun x hx y hy=>(mo ((hk2 lp h).2.2.2.2 x hx) (D.fb y hy)).1⟩,hl,by omega,hcl,fun x hx y hy=>(mo (hcb x hx) (D.fb y hy)).1, ?_⟩
   walk_at "ck"
   refine⟨_,rfl,.bl _, ?_⟩
   walk_at "ck"
   exact hG _ ⟨o11,_,_,_,_,b11.mono (by rw [List.length_append,List.length_singleton];omega),rfl⟩
def R_law(K:PySem.W.Frag):ASp:=fun args P =>∃ns,args = [.scr K ns]/\P (.dat (.bool true)) [.non]
theorem sc_law:FnScope ["_law_script","_law_cells","_law_k","_tab"] ["_law_script"] (defScope s_law):=⟨rfl,rfl,rfl,by decide +kernel,rfl,by decide +kernel,by decide +kernel⟩
theorem ok_law{c0 P0:Addr}(F:FunD K "law" "law" (defArgs s_law) (defBody s_law) (defScope s_law) dvs kws f fd)(T:Txt mg)(c_law_dip:Cal P w K mg base 1 "_law_dip" ["_law_script","_law_k"] R_dip)(c_law_folded:Cal P w K mg base 1 "_law_folded" ["_law_script","_law_many"] (R_folded K))(c_law_right:CalT P w K mg base 12 "_law_right" ["_law_box"] P0 nmT R_right):FnG P w K mg base CX0 15 f fd ["_law_script"] (spT P0 nmT (R_law K)):=by
 refine okT F sc_law [] (fun args P h => ?_) (by decide) (by decide) (fun cdv A outer s H E hcode hr => ?_)
 ·obtain⟨ns,rfl,_⟩:=h
  rfl
 refine⟨_,_,(ass_cons (as_set (i:=1) sc_law.nd rfl (by walk_at "v") (ae_call c_law_folded hr.m (by rfl) (ar_scr 0 (ar_dat ae_int ar_nil)))) (ass_one (as_ret (ae_callB (cr_all rfl) sim_all (by rfl) T.n_all (by decide +kernel) (al_cons (AEO.frz (ao_lc rfl sc_law.nd (ai_range1 (by rfl) T.n_range (al_cons (ae_callB (call_max2 rfl) sim_max2 (by rfl) T.n_max (by decide +kernel) (al_cons ae_int (al_cons (ae_len (by rfl) T.n_len (al_cons (av 1) al_nil)) al_nil))) al_nil)) (blkOk_cx (own :=[("_law_k",2)]) (by decide +kernel)) (fun _ _ _ _ _=>(ag_name (i:=2) sc_law.nd rfl (by walk_at "v"))) (fun _ _ _ _ _=>ats_nil) (fun _ _ _ _ _=>(ae_callT 3 c_law_right hr.m (by rfl) (ar_own (ao_call c_law_dip hr.m (by rfl) (ar_dat (av 1) (ar_dat (av 2) ar_nil))) ar_nil))))) al_nil))))),fun args P h => ?_⟩
 ·obtain⟨ns,rfl,q⟩:=h
  walk_at "cf"
  refine⟨⟨_,_,rfl⟩,_,3,rfl,by decide,by decide,fun cs hcs => ?_⟩
  walk_at "cf"
  refine⟨⟨by split <;> omega,by rw [List.length_map];split <;> omega⟩, ?_⟩
  refine lcL_ind (fun xs acc env =>∃(bs:List Bool) (x:Cf.Sl),xs.length+bs.length<=10/\(∀y∈xs,∃k:Nat,y = .int k/\k<2^30)/\acc=bs.map .bool/\(∀b∈bs,b=true)/\env = [.scr K ns,.dat (.list (cs.map .int)),x,.tab P0 nmT]) ?_ ?_ _ _ _ ⟨[],.non,by rw [rgD_len,List.length_map];simp;split <;> omega,fun y hy => ?_,rfl,fun _ h=>by simp at h,rfl⟩
  ·rintro acc env ⟨bs,x,_,_,rfl,hb,rfl⟩
   walk_at "cf"
   refine⟨bs,rfl, ?_⟩
   rw [all_rep hb]
   exact q
  ·rintro d xs acc env ih ⟨bs,x,hl,hi,rfl,hb,rfl⟩
   obtain⟨k,rfl,hk⟩:=hi d (.head _)
   rw [List.length_cons]at hl
   walk_at "cf"
   refine⟨cs,k,rfl,hk,fun o b => ?_⟩
   walk_at "cf"
   refine⟨o,rfl,b,fun o' => ?_⟩
   walk_at "cf"
   refine⟨by rw [List.length_map];exact sizeLine_big (by omega),ih _ _ ⟨bs ++ [true],_,by simp;omega,fun y hy=>hi y (.tail _ hy),by simp,fun b hb2 => ?_,rfl⟩⟩
   rcases List.mem_append.mp hb2 with z | z
   ·exact hb b z
   ·simpa using z
  ·unfold rgD at hy
   obtain⟨i,hi,rfl⟩:=List.mem_map.mp hy
   rw [List.mem_range,List.length_map]at hi
   exact⟨i,by simp,by revert hi;split <;> omega⟩
end
end Law
namespace Law
open PySem PySem.Spec PyProof.Rows L2 Cf
theorem facts{P:Program}{w:World}{K:PySem.W.Frag}{h:Heap}{mg:Str->Option Value}{f:Addr}(X:K.In h)(G:h.Ns mainGlobals mg)(hfa:mg ("law" : Str)=some (.ref f))(c:He.SaysD fa fn K) :
  ∃fd:FuncData,(∀(s:Shared) (v:Value),BindsTo s fd ⟨[v],[]⟩ [("_law_script",v)]) /\∀base:Heap,K.In base->base.Ns mainGlobals mg->Seer P base->LamX.TabB base mg (He.cT K ("shows_dance",none)).1 (He.cT K ("shows_dance",none)).2->FnG P w K mg base CX0 15 f fd ["_law_script"] (spT (He.cT K ("shows_dance",none)).2 nmT (R_law K)):=by
 obtain⟨g0,F0⟩:=c.def_ 0 (d:=d_law_dip) rfl
 have F_law_dip:FunD K "_law_dip" "_law_dip" (defArgs s_law_dip) (defBody s_law_dip) (defScope s_law_dip) [] [] (He.fAd K ("_law_dip",none)) g0:=F0
 obtain⟨g1,F1⟩:=c.def_ 1 (d:=d_law_folded) rfl
 have F_law_folded:FunD K "_law_folded" "_law_folded" (defArgs s_law_folded) (defBody s_law_folded) (defScope s_law_folded) [] [] (He.fAd K ("_law_folded",none)) g1:=F1
 obtain⟨g2,F2⟩:=c.def_ 2 (d:=d_law_back) rfl
 have F_law_back:FunD K "_law_back" "_law_back" (defArgs s_law_back) (defBody s_law_back) (defScope s_law_back) [] [] (He.fAd K ("_law_back",none)) g2:=F2
 obtain⟨g3,F3⟩:=c.def_ 3 (d:=d_law_take) rfl
 have F_law_take:FunD K "_law_take" "_law_take" (defArgs s_law_take) (defBody s_law_take) (defScope s_law_take) [] [] (He.fAd K ("_law_take",none)) g3:=F3
 obtain⟨g4,F4⟩:=c.def_ 4 (d:=d_law_strewn) rfl
 have F_law_strewn:FunD K "_law_strewn" "_law_strewn" (defArgs s_law_strewn) (defBody s_law_strewn) (defScope s_law_strewn) [] [] (He.fAd K ("_law_strewn",none)) g4:=F4
 obtain⟨g5,F5⟩:=c.def_ 5 (d:=d_law_colours) rfl
 have F_law_colours:FunD K "_law_colours" "_law_colours" (defArgs s_law_colours) (defBody s_law_colours) (defScope s_law_colours) [] [] (He.fAd K ("_law_colours",none)) g5:=F5
 obtain⟨g6,F6⟩:=c.def_ 6 (d:=d_law_alike) rfl
 have F_law_alike:FunD K "_law_alike" "_law_alike" (defArgs s_law_alike) (defBody s_law_alike) (defScope s_law_alike) [] [] (He.fAd K ("_law_alike",none)) g6:=F6
 obtain⟨g7,F7⟩:=c.def_ 7 (d:=d_law_count) rfl
 have F_law_count:FunD K "_law_count" "_law_count" (defArgs s_law_count) (defBody s_law_count) (defScope s_law_count) [] [] (He.fAd K ("_law_count",none)) g7:=F7
 obtain⟨g8,F8⟩:=c.def_ 8 (d:=d_law_danced) rfl
 have F_law_danced:FunD K "_law_danced" "_law_danced" (defArgs s_law_danced) (defBody s_law_danced) (defScope s_law_danced) [] [] (He.fAd K ("_law_danced",none)) g8:=F8
 obtain⟨g9,F9⟩:=c.def_ 9 (d:=d_law_is_whole) rfl
 have F_law_is_whole:FunD K "_law_is_whole" "_law_is_whole" (defArgs s_law_is_whole) (defBody s_law_is_whole) (defScope s_law_is_whole) [] [] (He.fAd K ("_law_is_whole",none)) g9:=F9
 obtain⟨g10,F10⟩:=c.def_ 10 (d:=d_law_is_turn) rfl
 have F_law_is_turn:FunD K "_law_is_turn" "_law_is_turn" (defArgs s_law_is_turn) (defBody s_law_is_turn) (defScope s_law_is_turn) [] [] (He.fAd K ("_law_is_turn",none)) g10:=F10
 obtain⟨g11,F11⟩:=c.def_ 11 (d:=d_law_dance_right) rfl
 have F_law_dance_right:FunD K "_law_dance_right" "_law_dance_right" (defArgs s_law_dance_right) (defBody s_law_dance_right) (defScope s_law_dance_right) [] [] (He.fAd K ("_law_dance_right",none)) g11:=F11
 obtain⟨g12,F12⟩:=c.def_ 12 (d:=d_law_one_of) rfl
 have F_law_one_of:FunD K "_law_one_of" "_law_one_of" (defArgs s_law_one_of) (defBody s_law_one_of) (defScope s_law_one_of) [] [] (He.fAd K ("_law_one_of",none)) g12:=F12
 obtain⟨g13,F13⟩:=c.def_ 13 (d:=d_law_hall) rfl
 have F_law_hall:FunD K "_law_hall" "_law_hall" (defArgs s_law_hall) (defBody s_law_hall) (defScope s_law_hall) [] [] (He.fAd K ("_law_hall",none)) g13:=F13
 obtain⟨g14,F14⟩:=c.def_ 14 (d:=d_law_steps) rfl
 have F_law_steps:FunD K "_law_steps" "_law_steps" (defArgs s_law_steps) (defBody s_law_steps) (defScope s_law_steps) [] [] (He.fAd K ("_law_steps",none)) g14:=F14
 obtain⟨g15,F15⟩:=c.def_ 15 (d:=d_law_home_way) rfl
 have F_law_home_way:FunD K "_law_home_way" "_law_home_way" (defArgs s_law_home_way) (defBody s_law_home_way) (defScope s_law_home_way) [] [] (He.fAd K ("_law_home_way",none)) g15:=F15
 obtain⟨g16,F16⟩:=c.def_ 16 (d:=d_law_priced) rfl
 have F_law_priced:FunD K "_law_priced" "_law_priced" (defArgs s_law_priced) (defBody s_law_priced) (defScope s_law_priced) [] [] (He.fAd K ("_law_priced",none)) g16:=F16
 obtain⟨g17,F17⟩:=c.def_ 17 (d:=d_law_same) rfl
 have F_law_same:FunD K "_law_same" "_law_same" (defArgs s_law_same) (defBody s_law_same) (defScope s_law_same) [] [] (He.fAd K ("_law_same",none)) g17:=F17
 obtain⟨g18,F18⟩:=c.def_ 18 (d:=d_colour_of) rfl
 have F_colour_of:FunD K "colour_of" "colour_of" (defArgs s_colour_of) (defBody s_colour_of) (defScope s_colour_of) [] [] (He.fAd K ("colour_of",none)) g18:=F18
 obtain⟨g19,F19⟩:=c.def_ 19 (d:=d_colours_in) rfl
 have F_colours_in:FunD K "colours_in" "colours_in" (defArgs s_colours_in) (defBody s_colours_in) (defScope s_colours_in) [] [] (He.fAd K ("colours_in",none)) g19:=F19
 obtain⟨g20,F20⟩:=c.def_ 20 (d:=d_is_number) rfl
 have F_is_number:FunD K "is_number" "is_number" (defArgs s_is_number) (defBody s_is_number) (defScope s_is_number) [] [] (He.fAd K ("is_number",none)) g20:=F20
 obtain⟨g21,F21⟩:=c.def_ 21 (d:=d_is_purse) rfl
 have F_is_purse:FunD K "is_purse" "is_purse" (defArgs s_is_purse) (defBody s_is_purse) (defScope s_is_purse) [] [] (He.fAd K ("is_purse",none)) g21:=F21
 obtain⟨g22,F22⟩:=c.def_ 22 (d:=d_is_round) rfl
 have F_is_round:FunD K "is_round" "is_round" (defArgs s_is_round) (defBody s_is_round) (defScope s_is_round) [] [] (He.fAd K ("is_round",none)) g22:=F22
 obtain⟨g23,F23⟩:=c.def_ 23 (d:=d_is_turn) rfl
 have F_is_turn:FunD K "is_turn" "is_turn" (defArgs s_is_turn) (defBody s_is_turn) (defScope s_is_turn) [] [] (He.fAd K ("is_turn",none)) g23:=F23
 obtain⟨g24,F24⟩:=c.def_ 24 (d:=d_is_dance) rfl
 have F_is_dance:FunD K "is_dance" "is_dance" (defArgs s_is_dance) (defBody s_is_dance) (defScope s_is_dance) [] [] (He.fAd K ("is_dance",none)) g24:=F24
 obtain⟨g25,F25⟩:=c.def_ 25 (d:=d_count_of) rfl
 have F_count_of:FunD K "count_of" "count_of" (defArgs s_count_of) (defBody s_count_of) (defScope s_count_of) [] [] (He.fAd K ("count_of",none)) g25:=F25
 obtain⟨g26,F26⟩:=c.def_ 26 (d:=d_danced) rfl
 have F_danced:FunD K "danced" "danced" (defArgs s_danced) (defBody s_danced) (defScope s_danced) [] [] (He.fAd K ("danced",none)) g26:=F26
 obtain⟨g27,F27⟩:=c.def_ 27 (d:=d_is_multiple) rfl
 have F_is_multiple:FunD K "is_multiple" "is_multiple" (defArgs s_is_multiple) (defBody s_is_multiple) (defScope s_is_multiple) [] [] (He.fAd K ("is_multiple",none)) g27:=F27
 obtain⟨g28,F28⟩:=c.def_ 28 (d:=d_steps_in) rfl
 have F_steps_in:FunD K "steps_in" "steps_in" (defArgs s_steps_in) (defBody s_steps_in) (defScope s_steps_in) [] [] (He.fAd K ("steps_in",none)) g28:=F28
 obtain⟨g29,F29⟩:=c.def_ 29 (d:=d_shows_dance) rfl
 have F_shows_dance:FunD K "shows_dance" "shows_dance" (defArgs s_shows_dance) (defBody s_shows_dance) (defScope s_shows_dance) [] [] (He.fAd K ("shows_dance",none)) g29:=F29
 obtain⟨g30,F30⟩:=c.def_ 30 (d:=d_law_right) rfl
 have F_law_right:FunD K "_law_right" "_law_right" (defArgs s_law_right) (defBody s_law_right) (defScope s_law_right) [] [] (He.fAd K ("_law_right",none)) g30:=F30
 obtain⟨g31,F31⟩:=c.def_ 31 (d:=d_law) rfl
 have F_law:FunD K "law" "law" (defArgs s_law) (defBody s_law) (defScope s_law) [] [] (He.fAd K ("law",none)) g31:=F31
 have e:=hfa.symm.trans (He.glo_ok X G (c.fact 31 (f := .glo "law") rfl))
 cases e
 have T:Txt mg:=⟨He.free_ok X G (c.fact 32 (f := .free "abs") rfl),He.free_ok X G (c.fact 33 (f := .free "all") rfl),He.free_ok X G (c.fact 34 (f := .free "bool") rfl),He.free_ok X G (c.fact 35 (f := .free "dict") rfl),He.free_ok X G (c.fact 36 (f := .free "enumerate") rfl),He.free_ok X G (c.fact 37 (f := .free "int") rfl),He.free_ok X G (c.fact 38 (f := .free "isinstance") rfl),He.free_ok X G (c.fact 39 (f := .free "len") rfl),He.free_ok X G (c.fact 40 (f := .free "list") rfl),He.free_ok X G (c.fact 41 (f := .free "max") rfl),He.free_ok X G (c.fact 42 (f := .free "range") rfl),He.free_ok X G (c.fact 43 (f := .free "repr") rfl),He.free_ok X G (c.fact 44 (f := .free "set") rfl),He.free_ok X G (c.fact 45 (f := .free "sorted") rfl),He.free_ok X G (c.fact 46 (f := .free "str") rfl),He.free_ok X G (c.fact 47 (f := .free "sum") rfl),He.free_ok X G (c.fact 48 (f := .free "tuple") rfl),He.free_ok X G (c.fact 49 (f := .free "zip") rfl),He.int_ok X G (c.fact 50 (f := .int "DANCE_PARTS" 4) rfl),He.int_ok X G (c.fact 51 (f := .int "TURN_PARTS" 3) rfl)⟩
 have b:=FunD.bindsA (ps :=["_law_script"]) F_law fun _ _ _ _ _ _ us hl=>match us,hl with | [_],_=>rfl
 refine⟨_,fun s v=>b s [v] rfl,fun base _ _ SE TB => ?_⟩
 have m_law_dip:mg "_law_dip" =some (.ref (He.fAd K ("_law_dip",none))):=He.glo_ok X G (c.fact 0 (f := .glo "_law_dip") rfl)
 have o_law_dip:=ok_law_dip (P:=P) (w:=w) (base:=base) F_law_dip T 
 have c_law_dip:=Cal.of o_law_dip F_law_dip m_law_dip (fun _ _ _ _ _ _ us hl=>match us,hl with | [_,_],_=>rfl)
 have m_law_folded:mg "_law_folded" =some (.ref (He.fAd K ("_law_folded",none))):=He.glo_ok X G (c.fact 1 (f := .glo "_law_folded") rfl)
 have o_law_folded:=ok_law_folded (P:=P) (w:=w) (base:=base) F_law_folded T 
 have c_law_folded:=Cal.of o_law_folded F_law_folded m_law_folded (fun _ _ _ _ _ _ us hl=>match us,hl with | [_,_],_=>rfl)
 have m_law_back:mg "_law_back" =some (.ref (He.fAd K ("_law_back",none))):=He.glo_ok X G (c.fact 2 (f := .glo "_law_back") rfl)
 have o_law_back:=ok_law_back (P:=P) (w:=w) (base:=base) F_law_back T 
 have c_law_back:=Cal.of o_law_back F_law_back m_law_back (fun _ _ _ _ _ _ us hl=>match us,hl with | [_],_=>rfl)
 have m_law_take:mg "_law_take" =some (.ref (He.fAd K ("_law_take",none))):=He.glo_ok X G (c.fact 3 (f := .glo "_law_take") rfl)
 have o_law_take:=ok_law_take (P:=P) (w:=w) (base:=base) F_law_take T 
 have c_law_take:=Cal.of o_law_take F_law_take m_law_take (fun _ _ _ _ _ _ us hl=>match us,hl with | [_,_],_=>rfl)
 have m_law_strewn:mg "_law_strewn" =some (.ref (He.fAd K ("_law_strewn",none))):=He.glo_ok X G (c.fact 4 (f := .glo "_law_strewn") rfl)
 have o_law_strewn:=ok_law_strewn (P:=P) (w:=w) (base:=base) F_law_strewn T c_law_take
 have c_law_strewn:=Cal.of o_law_strewn F_law_strewn m_law_strewn (fun _ _ _ _ _ _ us hl=>match us,hl with | [_,_],_=>rfl)
 have m_law_colours:mg "_law_colours" =some (.ref (He.fAd K ("_law_colours",none))):=He.glo_ok X G (c.fact 5 (f := .glo "_law_colours") rfl)
 have o_law_colours:=ok_law_colours (P:=P) (w:=w) (base:=base) F_law_colours T c_law_strewn c_law_take
 have c_law_colours:=Cal.of o_law_colours F_law_colours m_law_colours (fun _ _ _ _ _ _ us hl=>match us,hl with | [_,_],_=>rfl)
 have m_law_alike:mg "_law_alike" =some (.ref (He.fAd K ("_law_alike",none))):=He.glo_ok X G (c.fact 6 (f := .glo "_law_alike") rfl)
 have o_law_alike:=ok_law_alike (P:=P) (w:=w) (base:=base) F_law_alike T 
 have c_law_alike:=Cal.of o_law_alike F_law_alike m_law_alike (fun _ _ _ _ _ _ us hl=>match us,hl with | [_,_,_],_=>rfl)
 have m_law_count:mg "_law_count" =some (.ref (He.fAd K ("_law_count",none))):=He.glo_ok X G (c.fact 7 (f := .glo "_law_count") rfl)
 have o_law_count:=ok_law_count (P:=P) (w:=w) (base:=base) F_law_count T 
 have c_law_count:=Cal.of o_law_count F_law_count m_law_count (fun _ _ _ _ _ _ us hl=>match us,hl with | [_,_],_=>rfl)
 have m_law_danced:mg "_law_danced" =some (.ref (He.fAd K ("_law_danced",none))):=He.glo_ok X G (c.fact 8 (f := .glo "_law_danced") rfl)
 have o_law_danced:=ok_law_danced (P:=P) (w:=w) (base:=base) F_law_danced T 
 have c_law_danced:=Cal.of o_law_danced F_law_danced m_law_danced (fun _ _ _ _ _ _ us hl=>match us,hl with | [_,_],_=>rfl)
 have m_law_is_whole:mg "_law_is_whole" =some (.ref (He.fAd K ("_law_is_whole",none))):=He.glo_ok X G (c.fact 9 (f := .glo "_law_is_whole") rfl)
 have o_law_is_whole:=ok_law_is_whole (P:=P) (w:=w) (base:=base) F_law_is_whole T 
 have c_law_is_whole:=Cal.of o_law_is_whole F_law_is_whole m_law_is_whole (fun _ _ _ _ _ _ us hl=>match us,hl with | [_],_=>rfl)
 have m_law_is_turn:mg "_law_is_turn" =some (.ref (He.fAd K ("_law_is_turn",none))):=He.glo_ok X G (c.fact 10 (f := .glo "_law_is_turn") rfl)
 have o_law_is_turn:=ok_law_is_turn (P:=P) (w:=w) (base:=base) F_law_is_turn T c_law_is_whole
 have c_law_is_turn:=Cal.of o_law_is_turn F_law_is_turn m_law_is_turn (fun _ _ _ _ _ _ us hl=>match us,hl with | [_,_],_=>rfl)
 have m_law_dance_right:mg "_law_dance_right" =some (.ref (He.fAd K ("_law_dance_right",none))):=He.glo_ok X G (c.fact 11 (f := .glo "_law_dance_right") rfl)
 have o_law_dance_right:=ok_law_dance_right (P:=P) (w:=w) (base:=base) F_law_dance_right T c_law_alike c_law_count c_law_danced c_law_is_turn c_law_is_whole
 have c_law_dance_right:=Cal.of o_law_dance_right F_law_dance_right m_law_dance_right (fun _ _ _ _ _ _ us hl=>match us,hl with | [_,_,_,_,_],_=>rfl)
 have m_law_one_of:mg "_law_one_of" =some (.ref (He.fAd K ("_law_one_of",none))):=He.glo_ok X G (c.fact 12 (f := .glo "_law_one_of") rfl)
 have o_law_one_of:=ok_law_one_of (P:=P) (w:=w) (base:=base) F_law_one_of T c_law_take
 have c_law_one_of:=Cal.of o_law_one_of F_law_one_of m_law_one_of (fun _ _ _ _ _ _ us hl=>match us,hl with | [_,_],_=>rfl)
 have m_law_hall:mg "_law_hall" =some (.ref (He.fAd K ("_law_hall",none))):=He.glo_ok X G (c.fact 13 (f := .glo "_law_hall") rfl)
 have o_law_hall:=ok_law_hall (P:=P) (w:=w) (base:=base) F_law_hall T c_law_one_of c_law_strewn c_law_take
 have c_law_hall:=Cal.of o_law_hall F_law_hall m_law_hall (fun _ _ _ _ _ _ us hl=>match us,hl with | [_,_],_=>rfl)
 have m_law_steps:mg "_law_steps" =some (.ref (He.fAd K ("_law_steps",none))):=He.glo_ok X G (c.fact 14 (f := .glo "_law_steps") rfl)
 have o_law_steps:=ok_law_steps (P:=P) (w:=w) (base:=base) F_law_steps T c_law_back c_law_one_of c_law_take
 have c_law_steps:=Cal.of o_law_steps F_law_steps m_law_steps (fun _ _ _ _ _ _ us hl=>match us,hl with | [_,_,_],_=>rfl)
 have m_law_home_way:mg "_law_home_way" =some (.ref (He.fAd K ("_law_home_way",none))):=He.glo_ok X G (c.fact 15 (f := .glo "_law_home_way") rfl)
 have o_law_home_way:=ok_law_home_way (P:=P) (w:=w) (base:=base) F_law_home_way T c_law_danced c_law_steps
 have c_law_home_way:=Cal.of o_law_home_way F_law_home_way m_law_home_way (fun _ _ _ _ _ _ us hl=>match us,hl with | [_,_,_],_=>rfl)
 have m_law_priced:mg "_law_priced" =some (.ref (He.fAd K ("_law_priced",none))):=He.glo_ok X G (c.fact 16 (f := .glo "_law_priced") rfl)
 have o_law_priced:=ok_law_priced (P:=P) (w:=w) (base:=base) F_law_priced T c_law_take
 have c_law_priced:=Cal.of o_law_priced F_law_priced m_law_priced (fun _ _ _ _ _ _ us hl=>match us,hl with | [_,_,_],_=>rfl)
 have m_law_same:mg "_law_same" =some (.ref (He.fAd K ("_law_same",none))):=He.glo_ok X G (c.fact 17 (f := .glo "_law_same") rfl)
 have c_law_same_0:Cal P w K mg base 0 "_law_same" ["_law_found","_law_due"] (R_same 0):=Cal.none m_law_same F_law_same.kp (F_law_same.bindsN (fun _ _ _ _ _ _ us hl=>match us,hl with | [_,_],_=>rfl)) fun args P h=>by
  obtain⟨_,_,h,_⟩:=h
  cases h
 have c_law_same_1:Cal P w K mg base 1 "_law_same" ["_law_found","_law_due"] (R_same 1):=Cal.of (ok_law_same F_law_same T c_law_same_0) F_law_same m_law_same (fun _ _ _ _ _ _ us hl=>match us,hl with | [_,_],_=>rfl)
 have c_law_same_2:Cal P w K mg base 2 "_law_same" ["_law_found","_law_due"] (R_same 2):=Cal.of (ok_law_same F_law_same T c_law_same_1) F_law_same m_law_same (fun _ _ _ _ _ _ us hl=>match us,hl with | [_,_],_=>rfl)
 have c_law_same_3:Cal P w K mg base 3 "_law_same" ["_law_found","_law_due"] (R_same 3):=Cal.of (ok_law_same F_law_same T c_law_same_2) F_law_same m_law_same (fun _ _ _ _ _ _ us hl=>match us,hl with | [_,_],_=>rfl)
 have c_law_same_4:Cal P w K mg base 4 "_law_same" ["_law_found","_law_due"] (R_same 4):=Cal.of (ok_law_same F_law_same T c_law_same_3) F_law_same m_law_same (fun _ _ _ _ _ _ us hl=>match us,hl with | [_,_],_=>rfl)
 have c_law_same_5:Cal P w K mg base 5 "_law_same" ["_law_found","_law_due"] (R_same 5):=Cal.of (ok_law_same F_law_same T c_law_same_4) F_law_same m_law_same (fun _ _ _ _ _ _ us hl=>match us,hl with | [_,_],_=>rfl)
 have c_law_same_6:Cal P w K mg base 6 "_law_same" ["_law_found","_law_due"] (R_same 6):=Cal.of (ok_law_same F_law_same T c_law_same_5) F_law_same m_law_same (fun _ _ _ _ _ _ us hl=>match us,hl with | [_,_],_=>rfl)
 have c_law_same:=c_law_same_6
 have m_colour_of:mg "colour_of" =some (.ref (He.fAd K ("colour_of",none))):=He.glo_ok X G (c.fact 18 (f := .glo "colour_of") rfl)
 have o_colour_of:=ok_colour_of (P:=P) (w:=w) (base:=base) F_colour_of T 
 have c_colour_of:=Cal.of o_colour_of F_colour_of m_colour_of (fun _ _ _ _ _ _ us hl=>match us,hl with | [_],_=>rfl)
 have m_colours_in:mg "colours_in" =some (.ref (He.fAd K ("colours_in",none))):=He.glo_ok X G (c.fact 19 (f := .glo "colours_in") rfl)
 have o_colours_in:=ok_colours_in (P:=P) (w:=w) (base:=base) F_colours_in T c_colour_of
 have c_colours_in:=Cal.of o_colours_in F_colours_in m_colours_in (fun _ _ _ _ _ _ us hl=>match us,hl with | [_,_],_=>rfl)
 have m_is_number:mg "is_number" =some (.ref (He.fAd K ("is_number",none))):=He.glo_ok X G (c.fact 20 (f := .glo "is_number") rfl)
 have o_is_number:=ok_is_number (P:=P) (w:=w) (base:=base) F_is_number T 
 have c_is_number:=Cal.of o_is_number F_is_number m_is_number (fun _ _ _ _ _ _ us hl=>match us,hl with | [_],_=>rfl)
 have m_is_purse:mg "is_purse" =some (.ref (He.fAd K ("is_purse",none))):=He.glo_ok X G (c.fact 21 (f := .glo "is_purse") rfl)
 have o_is_purse:=ok_is_purse (P:=P) (w:=w) (base:=base) F_is_purse T c_is_number
 have c_is_purse:=Cal.of o_is_purse F_is_purse m_is_purse (fun _ _ _ _ _ _ us hl=>match us,hl with | [_,_],_=>rfl)
 have m_is_round:mg "is_round" =some (.ref (He.fAd K ("is_round",none))):=He.glo_ok X G (c.fact 22 (f := .glo "is_round") rfl)
 have o_is_round:=ok_is_round (P:=P) (w:=w) (base:=base) F_is_round T c_is_purse
 have c_is_round:=Cal.of o_is_round F_is_round m_is_round (fun _ _ _ _ _ _ us hl=>match us,hl with | [_,_],_=>rfl)
 have m_is_turn:mg "is_turn" =some (.ref (He.fAd K ("is_turn",none))):=He.glo_ok X G (c.fact 23 (f := .glo "is_turn") rfl)
 have o_is_turn:=ok_is_turn (P:=P) (w:=w) (base:=base) F_is_turn T c_is_purse c_is_round
 have c_is_turn:=Cal.of o_is_turn F_is_turn m_is_turn (fun _ _ _ _ _ _ us hl=>match us,hl with | [_,_],_=>rfl)
 have m_is_dance:mg "is_dance" =some (.ref (He.fAd K ("is_dance",none))):=He.glo_ok X G (c.fact 24 (f := .glo "is_dance") rfl)
 have o_is_dance:=ok_is_dance (P:=P) (w:=w) (base:=base) F_is_dance T c_is_number c_is_purse c_is_turn
 have c_is_dance:=Cal.of o_is_dance F_is_dance m_is_dance (fun _ _ _ _ _ _ us hl=>match us,hl with | [_,_,_],_=>rfl)
 have m_count_of:mg "count_of" =some (.ref (He.fAd K ("count_of",none))):=He.glo_ok X G (c.fact 25 (f := .glo "count_of") rfl)
 have o_count_of:=ok_count_of (P:=P) (w:=w) (base:=base) F_count_of T 
 have c_count_of:=Cal.of o_count_of F_count_of m_count_of (fun _ _ _ _ _ _ us hl=>match us,hl with | [_,_],_=>rfl)
 have m_danced:mg "danced" =some (.ref (He.fAd K ("danced",none))):=He.glo_ok X G (c.fact 26 (f := .glo "danced") rfl)
 have o_danced:=ok_danced (P:=P) (w:=w) (base:=base) F_danced T 
 have c_danced:=Cal.of o_danced F_danced m_danced (fun _ _ _ _ _ _ us hl=>match us,hl with | [_,_],_=>rfl)
 have m_is_multiple:mg "is_multiple" =some (.ref (He.fAd K ("is_multiple",none))):=He.glo_ok X G (c.fact 27 (f := .glo "is_multiple") rfl)
 have o_is_multiple:=ok_is_multiple (P:=P) (w:=w) (base:=base) F_is_multiple T 
 have c_is_multiple:=Cal.of o_is_multiple F_is_multiple m_is_multiple (fun _ _ _ _ _ _ us hl=>match us,hl with | [_,_],_=>rfl)
 have nf_leads_home:∀{q:Str} {cl:List (Str×Addr)} (f c:Addr),NOg P w K mg base CX0 4 f (NdefX.NF.of s_leads_home "leads_home" q cl c) ["own","purse"] ["steps","number","factors"] R_leads_home:=fun f c=>ok_leads_home (P:=P) (w:=w) (base:=base) T c_count_of c_danced c_is_multiple
 have m_steps_in:mg "steps_in" =some (.ref (He.fAd K ("steps_in",none))):=He.glo_ok X G (c.fact 28 (f := .glo "steps_in") rfl)
 have o_steps_in:=ok_steps_in (P:=P) (w:=w) (base:=base) F_steps_in T 
 have c_steps_in:=Cal.of o_steps_in F_steps_in m_steps_in (fun _ _ _ _ _ _ us hl=>match us,hl with | [_],_=>rfl)
 have m_shows_dance:mg "shows_dance" =some (.ref (He.fAd K ("shows_dance",none))):=He.glo_ok X G (c.fact 29 (f := .glo "shows_dance") rfl)
 have o_shows_dance:=ok_shows_dance (P:=P) (w:=w) (base:=base) (c0:=(He.cT K ("shows_dance",none)).1) (P0:=(He.cT K ("shows_dance",none)).2) F_shows_dance T c_colours_in c_is_dance c_steps_in TB (fun _ h=>Cf.code_of h) nf_leads_home
 have c_shows_dance:=CalT.of o_shows_dance F_shows_dance m_shows_dance (fun _ _ _ _ _ _ us hl=>match us,hl with | [_,_,_,_],_=>rfl)
 have m_law_right:mg "_law_right" =some (.ref (He.fAd K ("_law_right",none))):=He.glo_ok X G (c.fact 30 (f := .glo "_law_right") rfl)
 have o_law_right:=ok_law_right (P:=P) (w:=w) (base:=base) (c0:=(He.cT K ("shows_dance",none)).1) (P0:=(He.cT K ("shows_dance",none)).2) F_law_right T c_law_back c_law_colours c_law_dance_right c_law_danced c_law_hall c_law_home_way c_law_one_of c_law_priced c_law_same c_law_steps c_law_take c_shows_dance
 have c_law_right:=CalT.of o_law_right F_law_right m_law_right (fun _ _ _ _ _ _ us hl=>match us,hl with | [_],_=>rfl)
 exact ok_law (P:=P) (w:=w) (base:=base) (c0:=(He.cT K ("shows_dance",none)).1) (P0:=(He.cT K ("shows_dance",none)).2) F_law T c_law_dip c_law_folded c_law_right
end Law
open PySem PySem.W PySem.Calls PyProof.Rows
theorem PySem.Challenge.cw_clingfares_k40_dances_by_draws_holds : PySem.Challenge.rw_clingfares_k40_dances_by_draws.Holds := by
 refine Law.fin0 ?hc
 case hc =>
  refine Cf.walkgT_ofE (l:=PySem.Challenge.rw_clingfares_k40_dances_by_draws) (n:=63) (k:=15) (x := "_law_script") (CX:=L2.CX0) rfl (by decide) (by kernel_rfl) ⟨rfl,by decide,by decide⟩ (by kernel_rfl) rfl ?F (fun _ _ _ _ z=>z)
  intro w mg fa h Y G hmg0
  obtain⟨K,KX,c⟩:=Y
  have hmg:mg ("law" : PySem.Str)=some (.ref fa):=by
   have e:(HandSHeadRun.topDef (OpenLaw.row PySem.Challenge.rw_clingfares_k40_dances_by_draws).prog 39).name=("law" : PySem.Str):=by kernel_rfl
   rw [<- e]
   exact hmg0
  obtain⟨fd,hb,hF⟩:=Law.facts (P:=(PySem.Challenge.rw_clingfares_k40_dances_by_draws).prog) (w:=w) KX G hmg c.c
  have hm:(("shows_dance",none):He.Defn)∈Law.tf:=List.mem_singleton.mpr rfl
  exact⟨K,fd,Cf.spT (He.cT K ("shows_dance",none)).2 Law.nmT (Law.R_law K),(He.cT K ("shows_dance",none)).1,(He.cT K ("shows_dance",none)).2,KX,c.empty _ hm,c.out _ hm,PySem.W.codeHd_of_K KX (c.hd _ hm),hb,fun H a ns hl hT hS=>Cf.law_startT hT (c.out _ hm) hS fun P h=>⟨ns,rfl,h⟩,hF⟩
